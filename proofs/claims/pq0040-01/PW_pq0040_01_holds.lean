import PyProof.Rows.All
import Wide.All
import OpenK.AllK
import Wide.FinOn
import PySem.Challenge.RW_pq0040_01
set_option Elab.async false
set_option maxRecDepth 100000
set_option autoImplicit false
set_option linter.all false
set_option linter.unusedSimpArgs false
set_option linter.unusedSectionVars false
set_option linter.unusedVariables false

-- M1
namespace Mine
open PySem

/-- abstract values -/
inductive PV where
  | none
  | bool (b : Bool)
  | int (i : Int)
  | str (s : Str)
  | tup (ds : List PV)
  | ref (n : Nat)
  | rng (a b : Int)
  /-- a list of ints that stood before the call -/
  | old (ns : List Int)
  deriving Inhabited

/-- mutable objects -/
inductive Cell where
  | list (ds : List PV)
  | dict (es : List (PV × PV))
  deriving Inhabited

abbrev Store := List Cell

inductive Exn where
  | term | limit
  deriving DecidableEq, Inhabited

inductive R (α : Type) where
  | ok (a : α) (σ : Store)
  | exc (k : Exn) (σ : Store)

def M (α : Type) := Store → Option (R α)
section
variable {α β : Type}
def M.pure (a : α) : M α := fun σ => some (.ok a σ)
def M.bind (m : M α) (f : α → M β) : M β := fun σ => match m σ with
  | .none => .none
  | some (.exc k σ') => some (.exc k σ')
  | some (.ok a σ') => f a σ'
def M.fail : M α := fun _ => .none
def M.lift (o : Option α) : M α := fun σ => o.map fun a => .ok a σ
end
instance : Monad M where
  pure := M.pure
  bind := M.bind

def newCell (c : Cell) : M PV := fun σ => some (.ok (.ref σ.length) (σ ++ [c]))
def getList (n : Nat) : M (List PV) := fun σ => match σ[n]? with
  | some (.list ds) => some (.ok ds σ)
  | _ => .none
def setCell (n : Nat) (c : Cell) : M PUnit := fun σ => if n < σ.length then some (.ok ⟨⟩ (σ.set n c)) else .none

mutual
def PV.depth : PV → Nat
  | .tup ds => PV.depths ds + 1
  | _ => 0
def PV.depths : List PV → Nat
  | [] => 0
  | d :: r => max d.depth (PV.depths r)
end

mutual
/-- the plain data that a value is -/
def PV.toD : PV → PyData
  | .none => .none
  | .bool b => .bool b
  | .int i => .int i
  | .str s => .str s
  | .tup ds => .tuple (PV.toDs ds)
  | .ref _ => .none
  | .rng _ _ => .none
  | .old _ => .none
def PV.toDs : List PV → List PyData
  | [] => []
  | d :: r => d.toD :: PV.toDs r
end
mutual
/-- nothing of it can be changed; its texts are plain -/
def PV.lay : PV → Bool
  | .str s => PyData.strOk s
  | .tup ds => PV.lays ds
  | .ref _ => false
  | .rng _ _ => false
  | .old _ => false
  | .none => true
  | .bool _ => true
  | .int _ => true
def PV.lays : List PV → Bool
  | [] => true
  | d :: r => d.lay && PV.lays r
end
/-- Python's == on plain data -/
def pyEq (a b : PV) : Bool := PyData.eqv a.toD b.toD
def eqTop (a b : PV) : M Bool := fun σ => match a, b with
  | .ref n, .ref k => (match σ[n]?, σ[k]? with
    | some (.list xs), some (.list ys) => if PV.lays xs && PV.lays ys && decide (PV.depths xs < 2000) then some (.ok (PyData.eqvAll (PV.toDs xs) (PV.toDs ys)) σ) else .none
    | _, _ => .none)
  | _, _ => if a.lay && b.lay && decide (a.depth < 2000) then some (.ok (pyEq a b) σ) else .none

def small (n : Nat) : Bool := decide (n ≤ 100000)
def strOfInt (i : Int) : Str := Str.ofString (toString i)
def textOk (s : Str) : Bool := decide (s.length ≤ 100000)

def binop : Operator → PV → PV → M PV
  | .Add, .int a, .int b => pure (.int (a + b))
  | .Sub, .int a, .int b => pure (.int (a - b))
  | .Mult, .int a, .int b => if a.natAbs < 1000000000000 then pure (.int (a * b)) else M.fail
  | .Mod, .int a, .int b => if 0 < b ∧ b < 1000000000 then pure (.int (a % b)) else M.fail
  | .FloorDiv, .int a, .int b => if 0 < b ∧ b < 1000000000 then pure (.int (a / b)) else M.fail
  | .Add, .str a, .str b => if textOk a && textOk b then pure (.str (a ++ b)) else M.fail
  | .Add, .tup a, .tup b => if small a.length && small b.length then pure (.tup (a ++ b)) else M.fail
  | .Add, .ref a, .ref b => do
    let xs ← getList a
    let ys ← getList b
    if small xs.length && small ys.length then newCell (.list (xs ++ ys)) else M.fail
  | _, _, _ => M.fail

def cmpop : CmpOp → PV → PV → M Bool
  | .Eq, a, b => eqTop a b
  | .NotEq, a, b => do let r ← eqTop a b; pure (!r)
  | .Lt, .int a, .int b => pure (decide (a < b))
  | .LtE, .int a, .int b => pure (decide (a ≤ b))
  | .Gt, .int a, .int b => pure (decide (b < a))
  | .GtE, .int a, .int b => pure (decide (b ≤ a))
  | .Is, a, .none => (match a with | .none => pure true | .tup _ => pure false | _ => M.fail)
  | .IsNot, a, .none => (match a with | .none => pure false | .tup _ => pure true | _ => M.fail)
  | .In, x, .ref n => do
    let xs ← getList n
    if PV.lays xs && x.lay && decide (PV.depths xs < 2000) then pure (xs.any fun y => pyEq y x) else M.fail
  | .In, x, .tup xs => if PV.lays xs && x.lay && decide (PV.depths xs < 2000) then pure (xs.any fun y => pyEq y x) else M.fail
  | .NotIn, .str x, .str y => (match x.cps.toList with
    | [c] => pure (!(y.cps.toList.contains c))
    | _ => M.fail)
  | _, _, _ => M.fail

/-- an index in Python's way -/
def pickAt {α : Type} (xs : List α) (i : Int) : Option α := if 0 ≤ i then xs[i.toNat]? else if -(xs.length : Int) ≤ i then xs[(i + xs.length).toNat]? else .none
def signAt (s : Str) (i : Int) : Option PV := (pickAt s.cps.toList i).map fun c => .str ⟨#[c]⟩
/-- a slice with bounds that are none or not below 0 -/
def cut {α : Type} (xs : List α) (lo hi : Option Nat) : List α := (match hi with | some b => xs.take b | .none => xs).drop (lo.getD 0)
def bound : PV → Option (Option Nat)
  | .none => some .none
  | .int i => if 0 ≤ i ∧ i < 2 ^ 62 then some (some i.toNat) else .none
  | _ => .none

def item : PV → PV → M PV
  | .tup ds, .int i => if i.natAbs < 2 ^ 62 then M.lift (pickAt ds i) else M.fail
  | .str s, .int i => if i.natAbs < 2 ^ 62 then M.lift (signAt s i) else M.fail
  | .ref n, .int i => do
    let ds ← getList n
    if i.natAbs < 2 ^ 62 then M.lift (pickAt ds i) else M.fail
  | _, _ => M.fail

def slice (v lo hi : PV) : M PV := do
  let a ← M.lift (bound lo)
  let b ← M.lift (bound hi)
  match v with
  | .tup ds => if small ds.length then pure (.tup (cut ds a b)) else M.fail
  | .str s => if textOk s then pure (.str ⟨(cut s.cps.toList a b).toArray⟩) else M.fail
  | .ref n => do
    let ds ← getList n
    if small ds.length then newCell (.list (cut ds a b)) else M.fail
  | .old ns => if small ns.length then newCell (.list (cut (ns.map PV.int) a b)) else M.fail
  | _ => M.fail

/-- the figures of an int's text, back -/
def intOfText (s : Str) : Option Int := if s.length ≤ 640 then PySem.intText? s else .none

def lenOf : PV → M Int
  | .tup ds => if small ds.length then pure (ds.length : Int) else M.fail
  | .str s => if textOk s then pure (s.length : Int) else M.fail
  | .ref n => do
    let ds ← getList n
    if small ds.length then pure (ds.length : Int) else M.fail
  | _ => M.fail

/-- a call of a built-in function or class by its name -/
def callBuiltin (f : Str) (args : List PV) : M PV :=
  if f = "len" then (match args with
    | [v] => do let n ← lenOf v; pure (.int n)
    | _ => M.fail)
  else if f = "int" then (match args with
    | [.int i] => pure (.int i)
    | [.str s] => do let i ← M.lift (intOfText s); pure (.int i)
    | _ => M.fail)
  else if f = "str" then (match args with
    | [.int i] => if i.natAbs < 10 ^ 9 then pure (.str (strOfInt i)) else M.fail
    | _ => M.fail)
  else if f = "tuple" then (match args with
    | [.ref n] => do let ds ← getList n; if small ds.length then pure (.tup ds) else M.fail
    | _ => M.fail)
  else if f = "range" then (match args with
    | [.int b] => if b.natAbs < 2 ^ 60 then pure (.rng 0 b) else M.fail
    | [.int a, .int b] => if a.natAbs < 2 ^ 60 ∧ b.natAbs < 2 ^ 60 then pure (.rng a b) else M.fail
    | _ => M.fail)
  else if f = "max" then (match args with
    | [.int a, .int b] => pure (.int (max a b))
    | _ => M.fail)
  else M.fail

/-- a method's call -/
def callMethod (m : Str) (o : PV) (args : List PV) : M PV :=
  match o with
  | .ref n =>
    if m = "append" then (match args with
      | [v] => do
        let ds ← getList n
        if small ds.length then do let _ ← setCell n (.list (ds ++ [v])); pure .none else M.fail
      | _ => M.fail)
    else if m = "extend" then (match args with
      | [.ref k] => do
        let ds ← getList n
        let es ← getList k
        if small ds.length && small es.length && decide (n ≠ k) then do let _ ← setCell n (.list (ds ++ es)); pure .none else M.fail
      | _ => M.fail)
    else if m = "pop" then (match args with
      | [] => do
        let ds ← getList n
        match ds.getLast? with
        | some v => if small ds.length then do let _ ← setCell n (.list ds.dropLast); pure v else M.fail
        | .none => M.fail
      | _ => M.fail)
    else if m = "index" then (match args with
      | [x] => do
        let ds ← getList n
        if PV.lays ds && x.lay && decide (PV.depths ds < 2000) && small ds.length then M.lift ((ds.findIdx? fun y => pyEq y x).map fun (i : Nat) => PV.int (i : Int)) else M.fail
      | _ => M.fail)
    else M.fail
  | _ => M.fail

/-- the object has such a method -/
def knows (m : Str) (o : PV) : M PUnit := fun σ => match o with
  | .ref n => (match σ[n]? with
    | some (.list _) => if m = "append" ∨ m = "extend" ∨ m = "pop" ∨ m = "index" then some (.ok ⟨⟩ σ) else .none
    | _ => .none)
  | _ => .none

/-- what a loop or a comprehension goes through -/
def items : PV → M (List PV)
  | .tup ds => if small ds.length then pure ds else M.fail
  | .ref n => do let ds ← getList n; if small ds.length then pure ds else M.fail
  | .str s => if textOk s then pure (s.cps.toList.map fun c => .str ⟨#[c]⟩) else M.fail
  | .rng a b => if (b - a).toNat ≤ 100000 ∧ a.natAbs < 2 ^ 60 ∧ b.natAbs < 2 ^ 60 then pure ((List.range (b - a).toNat).map fun (i : Nat) => PV.int (a + (i : Int))) else M.fail
  | _ => M.fail

/-- the source, where it is a list, stands as it stood -/
noncomputable def still (v : PV) (ds : List PV) : M PUnit := fun σ => open Classical in
  match v with
  | .ref n => if (∃ l, σ[n]? = some (Cell.list l) ∧ l = ds) then some (.ok ⟨⟩ σ) else .none
  | _ => some (.ok ⟨⟩ σ)

abbrev Names := List (Str × NameKind)
abbrev Vars := Str → Option PV
/-- the names that a comprehension's block draws from around; one name of its own -/
def Vars.comp (N : Names) (ρ : Vars) (x : Str) (d : PV) : Vars := fun y => if y = x then some d else if N.lookup y = some .local then .none else ρ y
def Vars.base (N : Names) (ρ : Vars) : Vars := fun y => if N.lookup y = some .local then .none else ρ y
def bnames : List Str := ["len", "int", "str", "tuple", "range", "max", "isinstance"]
/-- no star, not many -/
def plainArgs (es : List Expr) : Bool := decide (es.length ≤ 20) && es.all fun e => match e with
  | .Starred _ _ => false
  | _ => true
def Vars.set (ρ : Vars) (x : Str) (d : PV) : Vars := fun y => if y = x then some d else ρ y

/-- the names of a comprehension's block, within a block of names -/
def relab (N : Names) (sc : Names) : Names := sc.map fun p => if (p.2 == .free && N.lookup p.1 == some .cell) then (p.1, .cell) else p
/-- a comprehension's block is plain: its own locals, what it draws from around stands in cells there -/
def compOk (N : Names) (scope : Scope) (x : Str) : Bool :=
  scope.kind == .function && scope.names.lookup x == some .local && x != ("__debug__" : Str) &&
  scope.names.all (fun p => p.2 != .cell && (p.2 != .local || scope.names.lookup p.1 == some .local) && (p.2 != .free || (N.lookup p.1 == some .cell && p.1 != ("__classdict__" : Str))))

def varOf (N : Names) (ρ : Vars) (x : Str) : Option PV := match N.lookup x with
  | some .local => ρ x
  | some .cell => ρ x
  | _ => .none
def isGlob (N : Names) (x : Str) : Bool := N.lookup x == some .globalImplicit

/-- turn by turn, what is taken -/
def each (f : PV → M (Option PV)) : List PV → M (List PV)
  | [] => pure []
  | d :: r => do
    let v ← f d
    let vs ← each f r
    pure (v.toList ++ vs)

structure Ctx where
  /-- calls of the text's own defs -/
  call : Str → List PV → M PV
  /-- is it the name of one of the text's own defs -/
  isDef : Str → Bool
  /-- the text's constants -/
  const : Str → Option PV
  /-- the text's own exceptions -/
  exn : Str → Option Exn
  /-- turns that a while may take -/
  fuel : Nat

def constOf : Const → Option PV
  | .none => some .none
  | .bool b => some (.bool b)
  | .int i => some (.int i)
  | .str s => some (.str s)
  | _ => .none

def fieldText : PV → Option Str
  | .int i => if i.natAbs < 10 ^ 9 then some (strOfInt i) else .none
  | .str s => if textOk s then some s else .none
  | _ => .none

/-- no exception leaves a comprehension here -/
def quiet {α : Type} (m : M α) : M α := fun σ => match m σ with
  | some (.ok a σ') => some (.ok a σ')
  | _ => .none

/-- a comprehension's items -/
noncomputable def compM (src : M PV) (test : PV → M Bool) (elt : PV → M PV) : M (List PV) := do
  let s ← src
  let ds ← items s
  quiet (each (fun d => do
    let ok ← test d
    let r ← (if ok then do let v ← elt d; pure (some v) else pure .none)
    let _ ← still s ds
    pure r) ds)

mutual
noncomputable def evE (Γ : Ctx) (N : Names) (ρ : Vars) : Expr → M PV
  | .Constant c _ _ => M.lift (constOf c)
  | .Name x _ => if x = ("__debug__" : Str) then M.fail else if isGlob N x then M.lift (Γ.const x) else M.lift (varOf N ρ x)
  | .BinOp l op r _ => do
    let a ← evE Γ N ρ l
    let b ← evE Γ N ρ r
    binop op a b
  | .UnaryOp .USub e _ => do
    match ← evE Γ N ρ e with
    | .int i => pure (.int (-i))
    | _ => M.fail
  | .UnaryOp .Not e _ => do
    match ← evE Γ N ρ e with
    | .bool b => pure (.bool (!b))
    | _ => M.fail
  | .IfExp t b o _ => do
    if (← evT Γ N ρ t (evE Γ N ρ t)) then evE Γ N ρ b else evE Γ N ρ o
  | .BoolOp op vs _ => evB Γ N ρ op vs
  | .Compare l ops rs _ => do
    let a ← evE Γ N ρ l
    let r ← evC Γ N ρ a ops rs
    pure (.bool r)
  | .Tuple es _ _ => do
    let ds ← evEs Γ N ρ es
    if small ds.length then pure (.tup ds) else M.fail
  | .List es _ => do
    let ds ← evEs Γ N ρ es
    if small ds.length then newCell (.list ds) else M.fail
  | .Subscript v (.Slice lo hi .none _) _ => do
    let o ← evE Γ N ρ v
    let a ← evO Γ N ρ lo
    let b ← evO Γ N ρ hi
    slice o a b
  | .Subscript v i _ => do
    let o ← evE Γ N ρ v
    let k ← evE Γ N ρ i
    item o k
  | .Call (.Attribute (.Name x xp) m ap) args [] cp =>
    if plainArgs args = true ∧ (ap.endLine == cp.line) = true then do
      let ov ← evE Γ N ρ (.Name x xp)
      let _ ← knows m ov
      let vs ← evEs Γ N ρ args
      callMethod m ov vs
    else M.fail
  | .Call (.Name f _) args [] _ =>
    if f = ("isinstance" : Str) ∧ isGlob N f ∧ Γ.isDef f = false then (match args with
      | [e, .Name t _] => if t = ("tuple" : Str) ∧ isGlob N t ∧ Γ.isDef t = false then do
          match ← evE Γ N ρ e with
          | .tup _ => pure (.bool true)
          | .str _ => pure (.bool false)
          | .int _ => pure (.bool false)
          | _ => M.fail
        else M.fail
      | _ => M.fail)
    else if isGlob N f = true ∧ f ≠ ("__debug__" : Str) ∧ plainArgs args = true then
      if Γ.isDef f then do
        let vs ← evEs Γ N ρ args
        Γ.call f vs
      else if f ∈ bnames then do
        let vs ← evEs Γ N ρ args
        callBuiltin f vs
      else M.fail
    else M.fail
  | .ListComp elt [⟨.Name x _, iter, ifs, 0⟩] scope _ =>
    if compOk N scope x then do
      let vs ← compM (evE Γ N ρ iter) (fun d => evI Γ (relab N scope.names) (Vars.comp (relab N scope.names) ρ x d) ifs) (fun d => evE Γ (relab N scope.names) (Vars.comp (relab N scope.names) ρ x d) elt)
      newCell (.list vs)
    else M.fail
  | .JoinedStr (v1 :: v2 :: vs) _ => do
    if vs.length ≤ 8 then do
      let ts ← evF Γ N ρ (v1 :: v2 :: vs)
      pure (.str (ts.foldl (· ++ ·) Str.empty))
    else M.fail
  | _ => M.fail
noncomputable def evO (Γ : Ctx) (N : Names) (ρ : Vars) : Option Expr → M PV
  | .none => pure .none
  | some e => evE Γ N ρ e
noncomputable def evEs (Γ : Ctx) (N : Names) (ρ : Vars) : List Expr → M (List PV)
  | [] => pure []
  | .Starred _ _ :: _ => M.fail
  | e :: r => do
    let v ← evE Γ N ρ e
    let vs ← evEs Γ N ρ r
    pure (v :: vs)
/-- the comparison chain as a bool -/
noncomputable def evC (Γ : Ctx) (N : Names) (ρ : Vars) (a : PV) : List CmpOp → List Expr → M Bool
  | [op], [e] => do
    let b ← evE Γ N ρ e
    cmpop op a b
  | op :: op2 :: ops, e :: es => do
    let b ← evE Γ N ρ e
    if (← cmpop op a b) then evC Γ N ρ b (op2 :: ops) es else pure false
  | _, _ => M.fail
/-- and, or as values: all but the last are bools -/
noncomputable def evB (Γ : Ctx) (N : Names) (ρ : Vars) (op : BoolOp) : List Expr → M PV
  | [] => M.fail
  | [e] => evE Γ N ρ e
  | e :: e2 :: r => do
    match ← evE Γ N ρ e with
    | .bool b => if b == (op == .Or) then pure (.bool b) else evB Γ N ρ op (e2 :: r)
    | _ => M.fail
/-- a test -/
noncomputable def evT (Γ : Ctx) (N : Names) (ρ : Vars) : Expr → M PV → M Bool
  | .UnaryOp .Not e _, _ => do
    let b ← evT Γ N ρ e (evE Γ N ρ e)
    pure (!b)
  | .BoolOp op vs _, _ => evA Γ N ρ op vs
  | .IfExp .., _ => M.fail
  | .Compare l ops rs _, _ => do
    let a ← evE Γ N ρ l
    evC Γ N ρ a ops rs
  | _, whole => do
    match ← whole with
    | .bool b => pure b
    | _ => M.fail
/-- and, or within a test -/
noncomputable def evA (Γ : Ctx) (N : Names) (ρ : Vars) (op : BoolOp) : List Expr → M Bool
  | [] => pure (op == .And)
  | e :: r => do
    let b ← evT Γ N ρ e (evE Γ N ρ e)
    if b == (op == .Or) then pure b else evA Γ N ρ op r
/-- a comprehension's tests -/
noncomputable def evI (Γ : Ctx) (N : Names) (ρ : Vars) : List Expr → M Bool
  | [] => pure true
  | [e] => evT Γ N ρ e (evE Γ N ρ e)
  | _ => M.fail
/-- an f-string's parts -/
noncomputable def evF (Γ : Ctx) (N : Names) (ρ : Vars) : List Expr → M (List Str)
  | [] => pure []
  | .Constant (.str s) _ _ :: r => if textOk s then do
      let ts ← evF Γ N ρ r
      pure (s :: ts)
    else M.fail
  | .FormattedValue e c .none _ :: r => do
    if c = -1 then do
      let v ← evE Γ N ρ e
      let t ← M.lift (fieldText v)
      let ts ← evF Γ N ρ r
      pure (t :: ts)
    else M.fail
  | _ :: _ => M.fail
end

/-- how a statement ends -/
inductive SO where
  | next (ρ : Vars) (σ : Store)
  | brk (ρ : Vars) (σ : Store)
  | ret (d : PV) (σ : Store)
  | exc (k : Exn) (ρ : Vars) (σ : Store)

def canStore (N : Names) (x : Str) : Bool := N.lookup x == some .local || N.lookup x == some .cell

/-- a value at work: go on with it -/
def M.then {α : Type} (m : M α) (ρ : Vars) (σ : Store) (f : α → Store → Option SO) : Option SO := match m σ with
  | .none => .none
  | some (.exc k σ') => some (.exc k ρ σ')
  | some (.ok a σ') => f a σ'

def forGo (x : Str) (go : PV → Store → Bool) (b : Vars → Store → Option SO) : List PV → Vars → Store → Option SO
  | [], ρ, σ => some (.next ρ σ)
  | d :: r, ρ, σ => match b (Vars.set ρ x d) σ with
    | some (.next ρ' σ') => if go d σ' then forGo x go b r ρ' σ' else .none
    | some (.brk ρ' σ') => some (.next ρ' σ')
    | o => o

def whileGo (t : Vars → M Bool) (b : Vars → Store → Option SO) : Nat → Vars → Store → Option SO
  | 0, _, _ => .none
  | n + 1, ρ, σ => (t ρ).then ρ σ fun c σ' => if c then (match b ρ σ' with
      | some (.next ρ' σ'') => whileGo t b n ρ' σ''
      | some (.brk ρ' σ'') => some (.next ρ' σ'')
      | o => o) else some (.next ρ σ')

noncomputable def stillB (v : PV) (ds : List PV) (σ : Store) : Bool := open Classical in
  match v with
  | .ref n => decide (∃ l, σ[n]? = some (Cell.list l) ∧ l = ds)
  | _ => true

/-- the names of a tuple's targets -/
def targetNames : List Expr → Option (List Str)
  | [] => some []
  | .Name x _ :: r => (targetNames r).map (x :: ·)
  | _ :: _ => .none

def Vars.setAll (ρ : Vars) : List Str → List PV → Vars
  | x :: xs, d :: ds => Vars.setAll (Vars.set ρ x d) xs ds
  | _, _ => ρ

def setItemOf (o k v : PV) (σ : Store) : Option Store := match o, k with
  | .ref n, .int i => (match σ[n]? with
    | some (.list ds) => if 0 ≤ i ∧ i < ds.length ∧ i < 2 ^ 62 then some (σ.set n (.list (ds.set i.toNat v))) else .none
    | _ => .none)
  | _, _ => .none

/-- the order of a tuple's stores is known -/
def tupleOk : Expr → Bool
  | .Tuple vs _ _ => !vs.all (constantsAlone 8)
  | _ => true

mutual
noncomputable def evS (Γ : Ctx) (N : Names) : Stmt → Vars → Store → Option SO
  | .Return (some e) _, ρ, σ => (evE Γ N ρ e).then ρ σ fun d σ' => some (.ret d σ')
  | .Assign [.Name x _] e _, ρ, σ => if canStore N x then (evE Γ N ρ e).then ρ σ fun d σ' => some (.next (Vars.set ρ x d) σ') else .none
  | .Assign [.Tuple ts _ _] e _, ρ, σ => (match targetNames ts with
    | some xs => if tupleOk e && xs.all (canStore N) && decide xs.Nodup && decide (2 ≤ xs.length) && decide (xs.length ≤ 3) then (evE Γ N ρ e).then ρ σ fun d σ' => (match d with
        | .tup ds => if ds.length = xs.length then some (.next (Vars.setAll ρ xs ds) σ') else .none
        | _ => .none) else .none
    | .none => .none)
  | .Assign [.Subscript o i _] e _, ρ, σ => (evE Γ N ρ e).then ρ σ fun v σ₁ => (evE Γ N ρ o).then ρ σ₁ fun ov σ₂ => (evE Γ N ρ i).then ρ σ₂ fun k σ₃ => (setItemOf ov k v σ₃).map fun σ₄ => .next ρ σ₄
  | .If t b o _, ρ, σ => (evT Γ N ρ t (evE Γ N ρ t)).then ρ σ fun c σ' => if c then evSs Γ N b ρ σ' else evSs Γ N o ρ σ'
  | .For (.Name x _) iter body [] _, ρ, σ => if canStore N x then (evE Γ N ρ iter).then ρ σ fun v σ₁ => (items v).then ρ σ₁ fun ds σ₂ =>
      forGo x (fun _ σ' => stillB v ds σ') (fun ρ' σ' => evSs Γ N body ρ' σ') ds ρ σ₂ else .none
  | .While t body [] _, ρ, σ => whileGo (fun ρ' => evT Γ N ρ' t (evE Γ N ρ' t)) (fun ρ' σ' => evSs Γ N body ρ' σ') Γ.fuel ρ σ
  | .Break _, ρ, σ => some (.brk ρ σ)
  | .Raise (some (.Call (.Name X _) [e] [] _)) .none _, ρ, σ => (match Γ.exn X with
    | some k => if isGlob N X && Γ.isDef X == false && decide (X ≠ ("__debug__" : Str)) then (evE Γ N ρ e).then ρ σ fun v σ' => (match v with
        | .str s => if textOk s then some (.exc k ρ σ') else .none
        | _ => .none) else .none
    | .none => .none)
  | .Try [.Assign [.Name x _] (.Call (.Name f _) args [] _) _] [.ExceptHandler (some (.Name X _)) .none [.Assign [.Name y _] (.Constant .none _ _) _] _] [] [] _, ρ, σ =>
    if canStore N x && canStore N y && isGlob N X && decide (X ≠ ("__debug__" : Str)) && isGlob N f && decide (f ≠ ("__debug__" : Str)) && Γ.isDef f && plainArgs args then (match Γ.exn X, ((do
        let vs ← evEs Γ N ρ args
        Γ.call f vs) : M PV) σ with
      | some _, some (.ok d σ') => some (.next (Vars.set ρ x d) σ')
      | some k, some (.exc k' σ') => if k = k' then some (.next (Vars.set ρ y .none) σ') else .none
      | _, _ => .none) else .none
  | .Expr (.Call (.Attribute o m ap) args [] cp) _, ρ, σ => (evE Γ N ρ (.Call (.Attribute o m ap) args [] cp)).then ρ σ fun _ σ' => some (.next ρ σ')
  | _, _, _ => .none
noncomputable def evSs (Γ : Ctx) (N : Names) : List Stmt → Vars → Store → Option SO
  | [], ρ, σ => some (.next ρ σ)
  | st :: r, ρ, σ => match evS Γ N st ρ σ with
    | some (.next ρ' σ') => evSs Γ N r ρ' σ'
    | o => o
end

structure Def where
  params : List Str
  body : List Stmt
  names : Names

def Vars.of (xs : List Str) (ds : List PV) : Vars := Vars.setAll (fun _ => .none) xs ds

noncomputable def callOf (Γ : Ctx) (D : Def) (ds : List PV) : M PV := fun σ =>
  if ds.length = D.params.length then (match evSs Γ D.names D.body (Vars.of D.params ds) σ with
    | some (.ret d σ') => some (.ok d σ')
    | some (.next _ σ') => some (.ok .none σ')
    | some (.exc k _ σ') => some (.exc k σ')
    | _ => .none) else .none

structure Text where
  defs : Str → Option Def
  const : Str → Option PV
  exn : Str → Option Exn
  fuel : Nat

/-- the text's calls, at most n deep -/
noncomputable def Text.at (T : Text) : Nat → Ctx
  | 0 => { call := fun _ _ => M.fail, isDef := fun f => (T.defs f).isSome, const := T.const, exn := T.exn, fuel := T.fuel }
  | n + 1 => { call := fun f ds => match T.defs f with
      | some D => callOf (T.at n) D ds
      | .none => M.fail, isDef := fun f => (T.defs f).isSome, const := T.const, exn := T.exn, fuel := T.fuel }
theorem at_isDef (T : Text) (n : Nat) (f : Str) : (T.at n).isDef f = (T.defs f).isSome := by cases n <;> rfl
theorem at_const (T : Text) (n : Nat) : (T.at n).const = T.const := by cases n <;> rfl
theorem at_exn (T : Text) (n : Nat) : (T.at n).exn = T.exn := by cases n <;> rfl
end Mine

-- M2
namespace Mine
open PySem PySem.W PyProof.Rows

/-- the list that the call was handed: its place and its ints -/
structure Frozen where
  addr : Addr
  ns : List Int
variable [Z : Inhabited Frozen]

/-! ## the heap's side -/

mutual
inductive VR (β : List Addr) (h : Heap) : Value → PV → Prop
  | none : VR β h .none .none
  | bool (b : Bool) : VR β h (.bool b) (.bool b)
  | int (i : Int) (t : Tok) : VR β h (.int i t) (.int i)
  | str (x : Str) (t : Tok) : VR β h (.str x t) (.str x)
  | tup {a : Addr} {vs : List Value} {n : Nat} {ds : List PV} : IsT h a vs.toArray n → VRs β h vs ds → VR β h (.ref a) (.tup ds)
  | ref {a : Addr} {i : Nat} : β[i]? = some a → VR β h (.ref a) (.ref i)
  | rng {a : Addr} {x y : Int} {t u v : Tok} : IsRange h a x y 1 t u v → VR β h (.ref a) (.rng x y)
  | old : VR β h (.ref (default : Frozen).addr) (.old (default : Frozen).ns)
inductive VRs (β : List Addr) (h : Heap) : List Value → List PV → Prop
  | nil : VRs β h [] []
  | cons {v : Value} {vs : List Value} {d : PV} {ds : List PV} : VR β h v d → VRs β h vs ds → VRs β h (v :: vs) (d :: ds)
end

def CR (β : List Addr) (h : Heap) (a : Addr) : Cell → Prop
  | .list ds => ∃ vs n, IsL h a vs.toArray n ∧ VRs β h vs ds
  | .dict _ => False

structure SR (β : List Addr) (h : Heap) (σ : Store) : Prop where
  len : β.length = σ.length
  nodup : β.Nodup
  cell : ∀ (i : Nat) (a : Addr) (c : Cell), β[i]? = some a → σ[i]? = some c → CR β h a c

/-- what a run leaves: all that stood stands, but the store and the frames' own notes -/
structure Ext (fr : List Addr) (β : List Addr) (h : Heap) (β' : List Addr) (h' : Heap) : Prop where
  grow : ∃ new, β' = β ++ new ∧ ∀ a ∈ new, h.get? a = none ∧ a ∉ β
  keep : ∀ a o, h.get? a = some o → a ∉ β → a ∉ fr → h'.get? a = some o
  slots : ∀ a o, h.get? a = some o → a ∉ β → ∃ sl, h'.get? a = some { o with slots := sl }

section
variable {fr β β₁ β₂ : List Addr} {h h₁ h₂ : Heap}
theorem Ext.refl : Ext fr β h β h := ⟨⟨[], by simp, by simp⟩, fun _ _ e _ _ => e, fun _ o e _ => ⟨o.slots, e⟩⟩
theorem Ext.not_new (x : Ext fr β h β₁ h₁) {a : Addr} {o : Obj} (e : h.get? a = some o) (n : a ∉ β) : a ∉ β₁ := by
  obtain ⟨new, rfl, hn⟩ := x.grow
  intro hm
  rcases List.mem_append.mp hm with hm | hm
  · exact n hm
  · have := (hn a hm).1
    rw [e] at this; cases this
theorem grow_trans {g1 : ∃ new, β₁ = β ++ new ∧ ∀ a ∈ new, h.get? a = none ∧ a ∉ β} (sl : ∀ a o, h.get? a = some o → a ∉ β → ∃ sl, h₁.get? a = some { o with slots := sl })
    {g2 : ∃ new, β₂ = β₁ ++ new ∧ ∀ a ∈ new, h₁.get? a = none ∧ a ∉ β₁} : ∃ new, β₂ = β ++ new ∧ ∀ a ∈ new, h.get? a = none ∧ a ∉ β := by
  obtain ⟨n1, rfl, h1⟩ := g1
  obtain ⟨n2, rfl, h2⟩ := g2
  refine ⟨n1 ++ n2, by simp, fun a ha => ?_⟩
  rcases List.mem_append.mp ha with ha | ha
  · exact h1 a ha
  · obtain ⟨q1, q2⟩ := h2 a ha
    have n0 : a ∉ β := fun hm => q2 (List.mem_append_left _ hm)
    refine ⟨?_, n0⟩
    cases q : h.get? a with
    | none => rfl
    | some o =>
      obtain ⟨_, q3⟩ := sl a o q n0
      rw [q1] at q3; cases q3
theorem Ext.trans (x : Ext fr β h β₁ h₁) (y : Ext fr β₁ h₁ β₂ h₂) : Ext fr β h β₂ h₂ := by
  refine ⟨grow_trans (g1 := x.grow) (g2 := y.grow) x.slots, fun a o e n f => y.keep a o (x.keep a o e n f) (x.not_new e n) f, fun a o e n => ?_⟩
  obtain ⟨sl, e1⟩ := x.slots a o e n
  obtain ⟨sl2, e2⟩ := y.slots a _ e1 (x.not_new e n)
  exact ⟨sl2, e2⟩
/-- a run that only adds -/
theorem Ext.of_keeps (k : ∀ b o, h.get? b = some o → h₁.get? b = some o) : Ext fr β h β h₁ :=
  ⟨⟨[], by simp, by simp⟩, fun a o e _ _ => k a o e, fun a o e _ => ⟨o.slots, k a o e⟩⟩
theorem Ext.push (o : Obj) : Ext fr β h β (h.push o) := .of_keeps (fun _ _ e => Heap.get?_push_of_some _ e)
theorem Ext.at? (x : Ext fr β h β₁ h₁) {i : Nat} {a : Addr} (e : β[i]? = some a) : β₁[i]? = some a := by
  obtain ⟨new, rfl, _⟩ := x.grow
  rw [List.getElem?_append_left (List.getElem?_eq_some_iff.mp e).1]; exact e
/-- fewer frames are looked at -/
theorem Ext.mono {fr' : List Addr} (x : Ext fr β h β₁ h₁) (hf : ∀ a ∈ fr, a ∈ fr' ∨ h.get? a = none) : Ext fr' β h β₁ h₁ :=
  ⟨x.grow, fun a o e n f => x.keep a o e n (fun hm => by
    rcases hf a hm with q | q
    · exact f q
    · rw [e] at q; cases q), x.slots⟩
end

theorem isT_ne_isL {h : Heap} {a : Addr} {xs ys : Array Value} {n m : Nat} (x : IsT h a xs n) (y : IsL h a ys m) : False := by
  have q := x.symm.trans y; simp at q
theorem CR.isL {β : List Addr} {h : Heap} {a : Addr} {c : Cell} (x : CR β h a c) : ∃ xs n, IsL h a xs n := by
  cases c with
  | list ds => obtain ⟨vs, n, l, _⟩ := x; exact ⟨_, _, l⟩
  | dict _ => exact x.elim
theorem SR.isL {β : List Addr} {h : Heap} {σ : Store} (S : SR β h σ) {a : Addr} (ha : a ∈ β) : ∃ xs n, IsL h a xs n := by
  obtain ⟨i, hi, rfl⟩ := List.mem_iff_getElem.mp ha
  have : i < σ.length := S.len ▸ hi
  exact (S.cell i _ σ[i] (List.getElem?_eq_getElem hi) (List.getElem?_eq_getElem this)).isL

/-- no object of these frames is a list, a tuple or a range -/
def FrOk (fr : List Addr) (h : Heap) : Prop := ∀ L ∈ fr, ∃ m, h.Ns L m
theorem FrOk.not {fr : List Addr} {h : Heap} (F : FrOk fr h) {a : Addr} {o : Obj} (e : h.get? a = some o) (hd : ∀ es n, o.data ≠ .dict es n) : a ∉ fr := fun hm => by
  obtain ⟨m, o', es, ep, ho, hdd, _⟩ := F a hm
  rw [e] at ho; cases ho
  exact hd es ep hdd

section
variable {fr β β₁ : List Addr} {h h₁ : Heap} {σ : Store}
theorem SR.not_in (S : SR β h σ) {a : Addr} {o : Obj} (e : h.get? a = some o) (hc : o.cls ≠ .type "list") : a ∉ β := fun hm => by
  obtain ⟨xs, n, l⟩ := S.isL hm
  have q := e.symm.trans l; cases q; exact hc rfl
mutual
theorem VR.mono (S : SR β h σ) (F : FrOk fr h) (x : Ext fr β h β₁ h₁) : ∀ {v : Value} {d : PV}, VR β h v d → VR β₁ h₁ v d
  | _, _, .none => .none
  | _, _, .bool b => .bool b
  | _, _, .int i t => .int i t
  | _, _, .str s t => .str s t
  | _, _, .tup e r => .tup (x.keep _ _ e (S.not_in e (by simp)) (F.not e (by intro es n q; cases q))) (VRs.mono S F x r)
  | _, _, .ref e => .ref (x.at? e)
  | _, _, .rng e => .rng (x.keep _ _ e (S.not_in e (by simp)) (F.not e (by intro es n q; cases q)))
  | _, _, .old => .old
theorem VRs.mono (S : SR β h σ) (F : FrOk fr h) (x : Ext fr β h β₁ h₁) : ∀ {vs : List Value} {ds : List PV}, VRs β h vs ds → VRs β₁ h₁ vs ds
  | _, _, .nil => .nil
  | _, _, .cons a r => .cons (VR.mono S F x a) (VRs.mono S F x r)
end
end

section
variable {β : List Addr} {h : Heap} {vs ws : List Value} {ds es : List PV}
theorem VRs.length : ∀ {vs : List Value} {ds : List PV}, VRs β h vs ds → vs.length = ds.length
  | _, _, .nil => rfl
  | _, _, .cons _ r => by rw [List.length_cons, List.length_cons, VRs.length r]
theorem VRs.append : ∀ {vs : List Value} {ds : List PV}, VRs β h vs ds → VRs β h ws es → VRs β h (vs ++ ws) (ds ++ es)
  | _, _, .nil, k => k
  | _, _, .cons a r, k => .cons a (VRs.append r k)
theorem VRs.get : ∀ {vs : List Value} {ds : List PV}, VRs β h vs ds → ∀ {i : Nat} {d : PV}, ds[i]? = some d → ∃ v, vs[i]? = some v ∧ VR β h v d
  | _, _, .nil, _, _, e => by cases e
  | _, _, .cons a r, 0, _, e => by cases e; exact ⟨_, rfl, a⟩
  | _, _, .cons a r, i + 1, _, e => VRs.get r e
theorem VRs.take : ∀ {vs : List Value} {ds : List PV} (n : Nat), VRs β h vs ds → VRs β h (vs.take n) (ds.take n)
  | _, _, 0, _ => by simpa using VRs.nil
  | _, _, n + 1, .nil => by simpa using VRs.nil
  | _, _, n + 1, .cons a r => by simpa using VRs.cons a (VRs.take n r)
theorem VRs.drop : ∀ {vs : List Value} {ds : List PV} (n : Nat), VRs β h vs ds → VRs β h (vs.drop n) (ds.drop n)
  | _, _, 0, x => by simpa using x
  | _, _, n + 1, .nil => by simpa using VRs.nil
  | _, _, n + 1, .cons a r => by simpa using VRs.drop n r
theorem VRs.set : ∀ {vs : List Value} {ds : List PV} (n : Nat) {v : Value} {d : PV}, VRs β h vs ds → VR β h v d → VRs β h (vs.set n v) (ds.set n d)
  | _, _, _, _, _, .nil, _ => by simpa using VRs.nil
  | _, _, 0, _, _, .cons a r, x => by simpa using VRs.cons x r
  | _, _, n + 1, _, _, .cons a r, x => by simpa using VRs.cons a (VRs.set n r x)
end

section
variable {fr β : List Addr} {h h₁ : Heap} {σ : Store}
/-- the store where objects are only added, or turned elsewhere -/
theorem SR.keeps (S : SR β h σ) (F : FrOk fr h) (k : ∀ a o, h.get? a = some o → a ∉ fr → h₁.get? a = some o) : SR β h₁ σ := by
  have vr : ∀ {v d}, VR β h v d → VR β h₁ v d := by
    intro v d x
    induction x using VR.rec (motive_2 := fun vs ds _ => VRs β h₁ vs ds) with
    | none => exact .none
    | bool b => exact .bool b
    | int i t => exact .int i t
    | str x t => exact .str x t
    | tup e _ ih => exact .tup (k _ _ e (F.not e (by intro es n q; cases q))) ih
    | ref e => exact .ref e
    | rng e => exact .rng (k _ _ e (F.not e (by intro es n q; cases q)))
    | old => exact .old
    | nil => exact .nil
    | cons _ _ a b => exact .cons a b
  have vrs : ∀ {vs ds}, VRs β h vs ds → VRs β h₁ vs ds := by
    intro vs
    induction vs with
    | nil => intro ds x; cases x; exact .nil
    | cons v vs ih => intro ds x; cases x with | cons a r => exact .cons (vr a) (ih r)
  refine ⟨S.len, S.nodup, fun i a c ha hc => ?_⟩
  have q := S.cell i a c ha hc
  cases c with
  | list ds =>
    obtain ⟨vs, n, l, r⟩ := q
    exact ⟨vs, n, k _ _ l (F.not l (by intro es n q; cases q)), vrs r⟩
  | dict _ => exact q.elim
end

/-! ## the world's side -/
structure Conf where
  prog : Program
  w : World
  base : Heap
  K : Frag
  mg : Str → Option Value
  mb : Str → Option Value
  cls : Exn → Addr

def frs (fr : List Env) : List Addr := fr.filterMap (·.frame)

structure Inv (C : Conf) (A : Around) (fr : List Env) (β : List Addr) (h : Heap) (σ : Store) : Prop where
  hh : A.handled = none
  frames : A.frames = some fr
  stays : C.base.StaysIn h
  ff : h.FunFrames C.base fr
  fns : FrOk (frs fr) h
  sr : SR β h σ
  fresh : ∀ a ∈ β, C.base.get? a = none
  glob : C.base.Ns mainGlobals C.mg
  bui : C.base.Ns builtinsNs C.mb
  bfit : ∀ x : Str, x ≠ "__name__" → C.mb x = bootBuiltins x
  nolim : C.base.NoLimit
  inK : C.K.In C.base
  old : ∃ vs, C.base.IsList (default : Frozen).addr (List.toArray vs) ∧ ∀ β h, VRs β h vs ((default : Frozen).ns.map PV.int)

section
variable {C : Conf} {A : Around} {fr : List Env} {β β₁ : List Addr} {h h₁ : Heap} {σ σ₁ : Store}
theorem Inv.frame_fresh (I : Inv C A fr β h σ) {a : Addr} (ha : a ∈ frs fr) : C.base.get? a = none := (I.ff.mem ha).1
theorem frOk_slots {fr β : List Addr} (F : FrOk fr h) (S : SR β h σ) (x : Ext fr β h β₁ h₁) : FrOk fr h₁ := fun L hL => by
  obtain ⟨m, o, es, ep, ho, hd, r⟩ := F L hL
  have : L ∉ β := fun hm => by
    obtain ⟨xs, n, l⟩ := S.isL hm
    have q := ho.symm.trans l; cases q; cases hd
  obtain ⟨sl, hs⟩ := x.slots L o ho this
  exact ⟨m, _, es, ep, hs, hd, r⟩
theorem Inv.next (I : Inv C A fr β h σ) (x : Ext (frs fr) β h β₁ h₁) (S : SR β₁ h₁ σ₁) : Inv C A fr β₁ h₁ σ₁ := by
  have fx := frOk_slots I.fns I.sr x
  have st : C.base.StaysIn h₁ := fun a o e => x.keep a o (I.stays a o e) (fun hm => by rw [I.fresh a hm] at e; cases e) fun hm => by rw [I.frame_fresh hm] at e; cases e
  refine ⟨I.hh, I.frames, st, ?_, fx, S, ?_, I.glob, I.bui, I.bfit, I.nolim, I.inK, I.old⟩
  · have := I.ff
    have fns := I.fns
    have aux : ∀ l : List Env, (∀ a ∈ frs l, a ∈ frs fr) → h.FunFrames C.base l → h₁.FunFrames C.base l := by
      intro l
      induction l with
      | nil => intro _ _; trivial
      | cons e r ih =>
        intro hs ⟨hk, ⟨L, o, hf, hn, ho, hd⟩, hr⟩
        have hL : L ∈ frs (e :: r) := List.mem_filterMap.mpr ⟨e, List.mem_cons_self, hf⟩
        obtain ⟨m, o', es, ep, ho', hd', q⟩ := fx L (hs L hL)
        refine ⟨hk, ⟨L, o', hf, hn, ho', fun vs q => by rw [hd'] at q; cases q⟩, ih (fun a ha => hs a ?_) hr⟩
        obtain ⟨e', he', q'⟩ := List.mem_filterMap.mp ha
        exact List.mem_filterMap.mpr ⟨e', List.mem_cons_of_mem _ he', q'⟩
    exact aux fr (fun _ h => h) this
  · obtain ⟨new, rfl, hn⟩ := x.grow
    intro a ha
    rcases List.mem_append.mp ha with ha | ha
    · exact I.fresh a ha
    · cases q : C.base.get? a with
      | none => rfl
      | some o =>
        have := (hn a ha).1
        rw [I.stays a o q] at this; cases this
theorem Inv.mono (I : Inv C A fr β h σ) (x : Ext (frs fr) β h β₁ h₁) {v : Value} {d : PV} (r : VR β h v d) : VR β₁ h₁ v d := VR.mono I.sr I.fns x r
theorem Inv.monos (I : Inv C A fr β h σ) (x : Ext (frs fr) β h β₁ h₁) {v : List Value} {d : List PV} (r : VRs β h v d) : VRs β₁ h₁ v d := VRs.mono I.sr I.fns x r
end

/-- an exception flies out of a call: its class, the store, all that stood -/
structure Fly (C : Conf) (fr : List Env) (β : List Addr) (h : Heap) (k : Exn) (σ' : Store) (e : Value) (β' : List Addr) (h' : Heap) : Prop where
  grow : ∃ new, β' = β ++ new ∧ ∀ a ∈ new, h.get? a = none ∧ a ∉ β
  slots : ∀ a o, h.get? a = some o → a ∉ β → ∃ sl, h'.get? a = some { o with slots := sl }
  fly : ∃ ea B a0, e = .ref ea ∧ Heap.FlyingW B fr ea (.ref (C.cls k)) a0 h' ∧ (∀ a o, h.get? a = some o → a ∉ β → a ∉ frs fr → B.get? a = some o) ∧ SR β' B σ'

theorem Fly.of_ext {C : Conf} {fr : List Env} {β β₁ β' : List Addr} {h h₁ h' : Heap} {k : Exn} {σ' : Store} {e : Value} (x : Ext (frs fr) β h β₁ h₁) (f : Fly C fr β₁ h₁ k σ' e β' h') : Fly C fr β h k σ' e β' h' := by
  obtain ⟨ea, B, a0, he, hf, hB, hs⟩ := f.fly
  refine ⟨grow_trans (g1 := x.grow) (g2 := f.grow) x.slots, fun a o q n => ?_, ⟨ea, B, a0, he, hf, fun a o q n m => hB a o (x.keep a o q n m) (x.not_new q n) m, hs⟩⟩
  obtain ⟨sl, e1⟩ := x.slots a o q n
  obtain ⟨sl2, e2⟩ := f.slots a _ e1 (x.not_new q n)
  exact ⟨sl2, e2⟩

/-- what is to hold behind -/
def Post (C : Conf) (fr : List Env) (β : List Addr) (s : Shared) {α γ : Type} (rel : List Addr → Heap → γ → α → Prop) (Q : γ → Shared → Prop) (E : Value → Shared → Prop) : R α → Prop
  | .ok d σ' => ∀ v β' h' tk, Ext (frs fr) β s.heap β' h' → SR β' h' σ' → rel β' h' v d → Q v { s with heap := h', toks := tk }
  | .exc k σ' => ∀ e β' h' tk, Fly C fr β s.heap k σ' e β' h' → E e { s with heap := h', toks := tk }

section
variable {C : Conf} {fr : List Env} {β β₁ : List Addr} {s : Shared} {α γ : Type} {rel : List Addr → Heap → γ → α → Prop} {Q : γ → Shared → Prop} {E : Value → Shared → Prop} {r : R α} {h₁ : Heap} {tk : Tok}
theorem Post.next (x : Ext (frs fr) β s.heap β₁ h₁) (P : Post C fr β s rel Q E r) : Post C fr β₁ { s with heap := h₁, toks := tk } rel Q E r := by
  cases r with
  | ok d σ' => exact fun v β' h' tk' y S q => P v β' h' tk' (x.trans y) S q
  | exc k σ' => exact fun e β' h' tk' f => P e β' h' tk' (f.of_ext x)
end

abbrev relV : List Addr → Heap → Value → PV → Prop := VR
abbrev relB : List Addr → Heap → Bool → Bool → Prop := fun _ _ b c => b = c
abbrev relL : List Addr → Heap → List Value → List PV → Prop := VRs

theorem bind_some {α δ : Type} {m : M α} {f : α → M δ} {σ : Store} {r : R δ} (e : (m >>= f) σ = some r) :
    (∃ a σ₁, m σ = some (.ok a σ₁) ∧ f a σ₁ = some r) ∨ ∃ k σ₁, m σ = some (.exc k σ₁) ∧ r = .exc k σ₁ := by
  change M.bind m f σ = some r at e
  unfold M.bind at e
  split at e
  · cases e
  · rename_i k σ' q; cases e; exact .inr ⟨_, _, q, rfl⟩
  · rename_i a σ' q; exact .inl ⟨_, _, q, e⟩
theorem pure_some {α : Type} {a : α} {σ : Store} {r : R α} (e : (pure a : M α) σ = some r) : r = .ok a σ := by
  change M.pure a σ = some r at e; unfold M.pure at e; cases e; rfl
theorem fail_some {α : Type} {σ : Store} {r : R α} (e : (M.fail : M α) σ = some r) : False := by unfold M.fail at e; cases e
theorem lift_some {α : Type} {o : Option α} {σ : Store} {r : R α} (e : (M.lift o) σ = some r) : ∃ a, o = some a ∧ r = .ok a σ := by
  unfold M.lift at e
  cases o with
  | none => cases e
  | some a => cases e; exact ⟨a, rfl, rfl⟩
theorem then_some {α : Type} {m : M α} {ρ : Vars} {σ : Store} {f : α → Store → Option SO} {o : SO} (e : M.then m ρ σ f = some o) :
    (∃ a σ₁, m σ = some (.ok a σ₁) ∧ f a σ₁ = some o) ∨ ∃ k σ₁, m σ = some (.exc k σ₁) ∧ o = .exc k ρ σ₁ := by
  unfold M.then at e
  split at e
  · cases e
  · rename_i k σ' q; cases e; exact .inr ⟨_, _, q, rfl⟩
  · rename_i a σ' q; exact .inl ⟨_, _, q, e⟩
theorem getList_some {n : Nat} {σ : Store} {r : R (List PV)} (e : getList n σ = some r) : ∃ ds, σ[n]? = some (.list ds) ∧ r = .ok ds σ := by
  unfold getList at e
  split at e
  · rename_i ds q; cases e; exact ⟨ds, q, rfl⟩
  · cases e
end Mine

-- M3
namespace Mine
open PySem PySem.W PyProof.Rows
variable [Z : Inhabited Frozen]

theorem get?_size (h : Heap) : h.get? h.objs.size = none := by
  cases q : h.get? h.objs.size with
  | none => rfl
  | some o => exact absurd (Heap.lt_size q) (Nat.lt_irrefl _)

section
variable {fr β : List Addr} {h : Heap} {σ : Store}
theorem Ext.update {a : Addr} {f : Obj → Obj} (ha : a ∈ β) : Ext fr β h β (h.update a f) := by
  have k : ∀ b, b ∉ β → (h.update a f).get? b = h.get? b := fun b n => Heap.get?_update_other h f fun e => n (e ▸ ha)
  exact ⟨⟨[], by simp, by simp⟩, fun b o e n _ => (k b n).trans e, fun b o e n => ⟨o.slots, (k b n).trans e⟩⟩

theorem SR.lt (S : SR β h σ) {a : Addr} (ha : a ∈ β) : a < h.objs.size := by
  obtain ⟨_, _, l⟩ := S.isL ha
  exact Heap.lt_size l

theorem CR.mono {β₁ : List Addr} {h₁ : Heap} (S : SR β h σ) (F : FrOk fr h) (x : Ext fr β h β₁ h₁) {a : Addr} {c : Cell} (keep : ∀ xs n, IsL h a xs n → IsL h₁ a xs n) (r : CR β h a c) : CR β₁ h₁ a c := by
  cases c with
  | list ds =>
    obtain ⟨vs, n, l, q⟩ := r
    exact ⟨vs, n, keep _ _ l, VRs.mono S F x q⟩
  | dict _ => exact r.elim

/-- a new list of the store -/
theorem SR.alloc (S : SR β h σ) (F : FrOk fr h) {vs : List Value} {ds : List PV} (r : VRs β h vs ds) :
    Ext fr β h (β ++ [h.objs.size]) (h.push { cls := .type "list", data := .seq vs.toArray }) ∧ SR (β ++ [h.objs.size]) (h.push { cls := .type "list", data := .seq vs.toArray }) (σ ++ [.list ds]) := by
  have x : Ext fr β h (β ++ [h.objs.size]) (h.push { cls := .type "list", data := .seq vs.toArray }) :=
    ⟨⟨[h.objs.size], rfl, fun a ha => ⟨by simp at ha; subst ha; exact Mine.get?_size h, fun hm => by simp at ha; subst ha; exact Nat.lt_irrefl _ (S.lt hm)⟩⟩, fun a o e _ _ => Heap.get?_push_of_some _ e, fun a o e _ => ⟨o.slots, Heap.get?_push_of_some _ e⟩⟩
  refine ⟨x, ?_, ?_, ?_⟩
  · simp [S.len]
  · refine List.nodup_append.mpr ⟨S.nodup, by simp, fun a ha b hb e => ?_⟩
    have := S.lt ha
    simp at hb
    rw [e, hb] at this
    exact Nat.lt_irrefl _ this
  · intro i a c ha hc
    by_cases hi : i < β.length
    · rw [List.getElem?_append_left hi] at ha
      rw [List.getElem?_append_left (S.len ▸ hi)] at hc
      exact CR.mono S F x (fun xs n l => Heap.get?_push_of_some _ l) (S.cell i a c ha hc)
    · have hb : i = β.length := by
        have := (List.getElem?_eq_some_iff.mp ha).1
        simp at this; omega
      subst hb
      simp at ha
      rw [S.len] at hc
      simp at hc
      subst ha hc
      exact ⟨vs, 0, IsL.new _ _, VRs.mono S F x r⟩

/-- a list of the store with other items -/
theorem SR.update (S : SR β h σ) (F : FrOk fr h) {n : Nat} {a : Addr} {f : Array Value → Array Value} {vs ws : List Value} {m : Nat} {ds : List PV} (ha : β[n]? = some a) (l : IsL h a vs.toArray m) (hf : f vs.toArray = ws.toArray) (r : VRs β h ws ds) :
    Ext fr β h β (h.update a (Obj.mapSeq f)) ∧ SR β (h.update a (Obj.mapSeq f)) (σ.set n (.list ds)) := by
  have hm : a ∈ β := List.mem_of_getElem? ha
  have x : Ext fr β h β (h.update a (Obj.mapSeq f)) := .update hm
  refine ⟨x, by simp [S.len], S.nodup, fun i b c hb hc => ?_⟩
  by_cases e : i = n
  · subst e
    rw [ha] at hb; cases hb
    have hn : i < σ.length := S.len ▸ (List.getElem?_eq_some_iff.mp ha).1
    rw [List.getElem?_set_self hn] at hc
    cases hc
    have q := IsL.update l f
    rw [hf] at q
    exact ⟨ws, _, q, VRs.mono S F x r⟩
  · rw [List.getElem?_set_ne (Ne.symm e)] at hc
    have hne : a ≠ b := fun q => by
      subst q
      have i1 := (List.getElem?_eq_some_iff.mp ha)
      have i2 := (List.getElem?_eq_some_iff.mp hb)
      exact e ((List.getElem_inj S.nodup).mp (i2.2.trans i1.2.symm))
    exact CR.mono S F x (fun xs k q => IsL.update_other q hne _) (S.cell i b c hb hc)
end

section
variable {C : Conf} {A : Around} {fr : List Env} {β : List Addr} {s : Shared} {σ : Store} {Q : Value → Shared → Prop} {E : Value → Shared → Prop}

theorem Post.val {d : PV} {v : Value} {tk : Tok} (P : Post C fr β s relV Q E (.ok d σ)) (S : SR β s.heap σ) (r : VR β s.heap v d) : Q v { s with toks := tk } :=
  P v β s.heap tk .refl S r
theorem Post.alloc {ds : List PV} {vs : List Value} {tk : Tok} (P : Post C fr β s relV Q E (.ok (.ref σ.length) (σ ++ [.list ds]))) (I : Inv C A fr β s.heap σ) (r : VRs β s.heap vs ds) :
    Q (.ref s.heap.objs.size) { s with heap := s.heap.push { cls := .type "list", data := .seq vs.toArray }, toks := tk } := by
  obtain ⟨x, S⟩ := I.sr.alloc I.fns r
  exact P _ _ _ _ x S (.ref (by rw [← I.sr.len]; simp))
theorem Post.tup {ds : List PV} {vs : List Value} {tk : Tok} (P : Post C fr β s relV Q E (.ok (.tup ds) σ)) (I : Inv C A fr β s.heap σ) (r : VRs β s.heap vs ds) :
    Q (.ref s.heap.objs.size) { s with heap := s.heap.push { cls := .type "tuple", data := .seq vs.toArray }, toks := tk } := by
  have x : Ext (frs fr) β s.heap β (s.heap.push { cls := .type "tuple", data := .seq vs.toArray }) := .push _
  exact P _ _ _ _ x (I.sr.keeps I.fns fun a o e _ => Heap.get?_push_of_some _ e) (.tup (IsT.new _ _) (I.monos x r))

theorem sizeLine_ge : 16000000 ≤ sizeLine := by rw [sizeLine_eq]; decide
theorem small_le {n : Nat} (h : small n = true) : n ≤ 100000 := by simpa [small] using h
theorem text_le {x : Str} (h : textOk x = true) : x.length ≤ 100000 := by simpa [textOk] using h

theorem VR.ref_inv {β : List Addr} {h : Heap} {v : Value} {n : Nat} (r : VR β h v (.ref n)) : ∃ a, v = .ref a ∧ β[n]? = some a := by cases r with | ref e => exact ⟨_, rfl, e⟩
theorem list_of {β : List Addr} {h : Heap} {v : Value} {n : Nat} {ds : List PV} (S : SR β h σ) (r : VR β h v (.ref n)) (e : σ[n]? = some (.list ds)) : ∃ a vs m, v = .ref a ∧ β[n]? = some a ∧ IsL h a vs.toArray m ∧ VRs β h vs ds := by
  obtain ⟨a, rfl, ha⟩ := r.ref_inv
  obtain ⟨vs, m, l, q⟩ := S.cell n a _ ha e
  exact ⟨a, vs, m, rfl, ha, l, q⟩

theorem const_ok {c : Const} {d : PV} {env : Env} (e : constOf c = some d) (I : Inv C A fr β s.heap σ) (P : Post C fr β s relV Q E (.ok d σ)) : wpAny (model C.prog C.w) A (constValue env c) Q E s := by
  cases c <;> simp [constOf] at e <;> subst e
  · exact wpAny_pure (P.val (tk := s.toks) I.sr .none)
  · exact wpAny_pure (P.val (tk := s.toks) I.sr (.bool _))
  · exact wpAny_mkInt (P.val I.sr (.int _ _))
  · exact wpAny_mkText (P.val I.sr (.str _ _))

theorem bits_le {a : Int} (h : a.natAbs < 1000000000000) : Builtin.Int.intBits a ≤ 64 := by
  unfold Builtin.Int.intBits
  split
  · exact Nat.zero_le _
  · rename_i h0
    have hn : a.natAbs ≠ 0 := by
      intro q
      apply h0
      have : a = 0 := by omega
      rw [this]; rfl
    have : a.natAbs.log2 < 40 := (Nat.log2_lt hn).mpr (by omega)
    omega

theorem binop_ok {op : Operator} {a b : PV} {va vb : Value} {r : R PV} (e : binop op a b σ = some r) (I : Inv C A fr β s.heap σ) (ra : VR β s.heap va a) (rb : VR β s.heap vb b) (P : Post C fr β s relV Q E r) :
    wpAny (model C.prog C.w) A (binaryOp op va vb) Q E s := by
  unfold binop at e
  split at e
  · cases ra; cases rb; cases pure_some e
    exact add_int (P.val I.sr (.int _ _))
  · cases ra; cases rb; cases pure_some e
    exact sub_int (P.val I.sr (.int _ _))
  · cases ra; cases rb
    split at e
    · rename_i hm
      cases pure_some e
      exact mul_int (P.val I.sr (.int _ _)) (.of_left (bits_le hm))
    · exact (fail_some e).elim
  · cases ra; cases rb
    split at e
    · rename_i hm
      cases pure_some e
      refine mod_int' (by omega) ?_
      rw [Int.fmod_eq_emod_of_nonneg _ (by omega)]
      exact P.val I.sr (.int _ _)
    · exact (fail_some e).elim
  · cases ra; cases rb
    split at e
    · rename_i hm
      cases pure_some e
      refine floordiv_int (by omega) ?_ (.inl (PyProof.noPylong_small (by omega)))
      rw [Int.fdiv_eq_ediv_of_nonneg _ (by omega)]
      exact P.val I.sr (.int _ _)
    · exact (fail_some e).elim
  · cases ra; cases rb
    split at e
    · rename_i hm
      simp at hm
      cases pure_some e
      refine PyProof.Rows.add_str (fun t' tk => P.val I.sr (.str _ _)) ?_
      have h1 := text_le hm.1
      have h2 := text_le hm.2
      have h3 := sizeLine_ge
      omega
    · exact (fail_some e).elim
  · rename_i xs ys
    cases ra with
    | tup la qa =>
      cases rb with
      | tup lb qb =>
        split at e
        · rename_i hm
          simp at hm
          cases pure_some e
          have h1 := small_le hm.1
          have h2 := small_le hm.2
          have h3 := sizeLine_ge
          rename_i a1 vs n1 b1 ws n2
          have l1 := qa.length
          have l2 := qb.length
          by_cases hv : vs = []
          · subst hv
            cases qa
            exact concat_meets ⟨_, la, rfl⟩ ⟨_, lb, rfl⟩ noFill_tuple_add seq_tuple_add PySem.F.slot_tuple_add PySem.F.entry_tuple_add (PySem.F.args_tuple_add_2 _ _)
              (AutoSeq1.tuple___add___tuple_tuple_0 a1 _ n1 b1 _ n2 (by simp)) ⟨la, lb, P.val (tk := s.toks) I.sr (.tup lb qb)⟩
          · by_cases hw : ws = []
            · subst hw
              cases qb
              refine concat_meets ⟨_, la, rfl⟩ ⟨_, lb, rfl⟩ noFill_tuple_add seq_tuple_add PySem.F.slot_tuple_add PySem.F.entry_tuple_add (PySem.F.args_tuple_add_2 _ _)
                (AutoSeq1.tuple___add___tuple_tuple_1 a1 _ n1 b1 _ n2 (by simpa using hv) (by simp)) ⟨la, lb, ?_⟩
              rw [List.append_nil] at P
              exact P.val (tk := s.toks) I.sr (.tup la qa)
            · refine PySem.P.add_tuple la lb (by simpa using hv) (by simpa using hw) ?_ (by simp; omega)
              have e2 : vs.toArray ++ ws.toArray = (vs ++ ws).toArray := by simp
              rw [e2]
              exact P.tup (tk := s.toks) I (qa.append qb)
        · exact (fail_some e).elim
  · rename_i n k
    rcases bind_some e with ⟨xs, σ₁, e1, e⟩ | ⟨k, σ₁, e1, _⟩
    · obtain ⟨xs', hx, q⟩ := getList_some e1
      cases q
      rcases bind_some e with ⟨ys, σ₁, e2, e⟩ | ⟨k, σ₁, e2, _⟩
      · obtain ⟨ys', hy, q⟩ := getList_some e2
        cases q
        split at e
        · rename_i hm
          simp at hm
          obtain ⟨a1, vs, m1, rfl, h1, l1, q1⟩ := list_of I.sr ra hx
          obtain ⟨b1, ws, m2, rfl, h2, l2, q2⟩ := list_of I.sr rb hy
          have t1 := small_le hm.1
          have t2 := small_le hm.2
          have t3 := sizeLine_ge
          have t4 := q1.length
          have t5 := q2.length
          unfold newCell at e
          cases e
          refine PySem.P.add_list l1 l2 ?_ (by simp; omega)
          have e2 : vs.toArray ++ ws.toArray = (vs ++ ws).toArray := by simp
          rw [e2]
          exact P.alloc (tk := s.toks) I (q1.append q2)
        · exact (fail_some e).elim
      · obtain ⟨_, _, q⟩ := getList_some e2; cases q
    · obtain ⟨_, _, q⟩ := getList_some e1; cases q
  · exact (fail_some e).elim
end
end Mine

-- M4
namespace Mine
open PySem PySem.W PyProof.Rows
variable [Z : Inhabited Frozen]

section
variable {fr β : List Addr} {h : Heap} {σ : Store}
mutual
theorem VR.reads : ∀ {v : Value} {d : PV}, VR β h v d → d.lay = true → ∃ as, Reads h v d.toD as
  | _, _, .none, _ => ⟨_, .none⟩
  | _, _, .bool b, _ => ⟨_, .bool b⟩
  | _, _, .int i t, _ => ⟨_, .int i t⟩
  | _, _, .str x t, _ => ⟨_, .str x t⟩
  | _, _, .tup e r, hl => by
    rw [PV.lay] at hl
    obtain ⟨as, q⟩ := VRs.reads r hl
    rw [PV.toD]
    exact ⟨as, .tuple e rfl rfl (by simpa using q)⟩
  | _, _, .ref _, hl => by simp [PV.lay] at hl
  | _, _, .rng _, hl => by simp [PV.lay] at hl
  | _, _, .old, hl => by simp [PV.lay] at hl
theorem VRs.reads : ∀ {vs : List Value} {ds : List PV}, VRs β h vs ds → PV.lays ds = true → ∃ as, ReadsAll h vs (PV.toDs ds) as
  | _, _, .nil, _ => ⟨_, .nil⟩
  | _, _, .cons a r, hl => by
    rw [PV.lays, Bool.and_eq_true] at hl
    obtain ⟨as, p⟩ := VR.reads a hl.1
    obtain ⟨bs, q⟩ := VRs.reads r hl.2
    rw [PV.toDs]
    exact ⟨_, .cons p q⟩
end
mutual
theorem lay_can : ∀ d : PV, d.lay = true → d.toD.canLay0 = true ∧ d.toD.depth = d.depth
  | .none, _ => by simp [PV.toD, PyData.canLay0, PyData.depth, PV.depth]
  | .bool _, _ => by simp [PV.toD, PyData.canLay0, PyData.depth, PV.depth]
  | .int _, _ => by simp [PV.toD, PyData.canLay0, PyData.depth, PV.depth]
  | .str s, h => by simp [PV.lay] at h; simp [PV.toD, PyData.canLay0, PyData.depth, PV.depth, h]
  | .tup ds, h => by
    rw [PV.lay] at h
    have q := lays_can ds h
    simp [PV.toD, PyData.canLay0, PyData.depth, PV.depth, q]
  | .ref _, h => by simp [PV.lay] at h
  | .rng _ _, h => by simp [PV.lay] at h
  | .old _, h => by simp [PV.lay] at h
theorem lays_can : ∀ ds : List PV, PV.lays ds = true → PyData.canLayAll0 (PV.toDs ds) = true ∧ PyData.depthAll (PV.toDs ds) = PV.depths ds
  | [], _ => by simp [PV.toDs, PyData.canLayAll0, PyData.depthAll, PV.depths]
  | d :: ds, h => by
    rw [PV.lays, Bool.and_eq_true] at h
    have q1 := lay_can d h.1
    have q2 := lays_can ds h.2
    simp [PV.toDs, PyData.canLayAll0, PyData.depthAll, PV.depths, q1, q2]
end
end

abbrev relT : List Addr → Heap → Value → Bool → Prop := fun _ _ v b => v = .bool b

section
variable {C : Conf} {A : Around} {fr : List Env} {β : List Addr} {s : Shared} {σ : Store} {Q : Value → Shared → Prop} {E : Value → Shared → Prop}

theorem Post.same {α γ : Type} {rel : List Addr → Heap → γ → α → Prop} {Q : γ → Shared → Prop} {d : α} {v : γ} {tk : Tok} (P : Post C fr β s rel Q E (.ok d σ)) (S : SR β s.heap σ) (r : rel β s.heap v d) : Q v { s with toks := tk } :=
  P v β s.heap tk .refl S r

/-- == and != of plain data; of lists of plain data -/
theorem eqTop_ok {a b : PV} {va vb : Value} {r : R Bool} (e : eqTop a b σ = some r) (I : Inv C A fr β s.heap σ) (hu : A.units + 2100 < cLine) (ra : VR β s.heap va a) (rb : VR β s.heap vb b) :
    ∃ c, r = .ok c σ ∧ (∀ Q E, Q (.bool c) s → wpAny (model C.prog C.w) A (compareOp .Eq va vb) Q E s) ∧ (∀ Q E, Q (.bool (!c)) s → wpAny (model C.prog C.w) A (compareOp .NotEq va vb) Q E s) := by
  have plain : ∀ x y : PV, VR β s.heap va x → VR β s.heap vb y → (x.lay && y.lay && decide (x.depth < 2000)) = true →
      (∀ Q E, Q (.bool (pyEq x y)) s → wpAny (model C.prog C.w) A (compareOp .Eq va vb) Q E s) ∧ (∀ Q E, Q (.bool (!pyEq x y)) s → wpAny (model C.prog C.w) A (compareOp .NotEq va vb) Q E s) := by
    intro x y rx ry hl
    simp only [Bool.and_eq_true, decide_eq_true_eq] at hl
    obtain ⟨as, p⟩ := rx.reads hl.1.1
    obtain ⟨bs, q⟩ := ry.reads hl.1.2
    have l1 := lay_can x hl.1.1
    have l2 := lay_can y hl.1.2
    have hm : A.units + min x.toD.depth y.toD.depth < cLine := by
      have := Nat.min_le_left x.toD.depth y.toD.depth
      omega
    exact ⟨fun Q E hq => SeqAt.compareEq_reads p q l1.1 l2.1 hm hq, fun Q E hq => SeqAt.compareNe_reads p q l1.1 l2.1 hm hq⟩
  unfold eqTop at e
  split at e
  · rename_i n k
    split at e
    · rename_i xs ys hx hy
      split at e
      · rename_i hl
        simp only [Bool.and_eq_true, decide_eq_true_eq] at hl
        cases e
        obtain ⟨a1, vs, m1, rfl, h1, l1, q1⟩ := list_of I.sr ra hx
        obtain ⟨b1, ws, m2, rfl, h2, l2, q2⟩ := list_of I.sr rb hy
        obtain ⟨as, p⟩ := q1.reads hl.1.1
        obtain ⟨bs, q⟩ := q2.reads hl.1.2
        have c1 := lays_can xs hl.1.1
        have c2 := lays_can ys hl.1.2
        have r1 : Reads s.heap (.ref a1) (.list (PV.toDs xs)) _ := .list l1 rfl rfl (by simpa using p)
        have r2 : Reads s.heap (.ref b1) (.list (PV.toDs ys)) _ := .list l2 rfl rfl (by simpa using q)
        have hm : A.units + min (PyData.list (PV.toDs xs)).depth (PyData.list (PV.toDs ys)).depth < cLine := by
          have := Nat.min_le_left (PyData.list (PV.toDs xs)).depth (PyData.list (PV.toDs ys)).depth
          have e1 : (PyData.list (PV.toDs xs)).depth = PyData.depthAll (PV.toDs xs) + 1 := by rw [PyData.depth]
          omega
        refine ⟨_, rfl, fun Q E hq => SeqAt.compareEq_reads r1 r2 (by rw [PyData.canLay0]; exact c1.1) (by rw [PyData.canLay0]; exact c2.1) hm (by rw [PyData.eqv]; exact hq),
          fun Q E hq => SeqAt.compareNe_reads r1 r2 (by rw [PyData.canLay0]; exact c1.1) (by rw [PyData.canLay0]; exact c2.1) hm (by rw [PyData.eqv]; exact hq)⟩
      · cases e
    · cases e
  · split at e
    · rename_i hl
      cases e
      exact ⟨_, rfl, plain _ _ ra rb hl⟩
    · cases e

theorem eqAt_plain {A' : Around} {x y : PV} {va vb : Value} (ra : VR β s.heap va x) (rb : VR β s.heap vb y) (hx : x.lay = true) (hy : y.lay = true) (hd : A'.units + x.depth < cLine) : SeqAt.EqAt A' s va vb (pyEq x y) := by
  obtain ⟨as, p⟩ := ra.reads hx
  obtain ⟨bs, q⟩ := rb.reads hy
  have l1 := lay_can x hx
  have l2 := lay_can y hy
  refine SeqAt.eqAt_reads _ _ A' s _ _ _ _ p q l1.1 l2.1 ?_
  have := Nat.min_le_left x.toD.depth y.toD.depth
  omega

theorem lays_mem : ∀ {ds : List PV}, PV.lays ds = true → ∀ {d : PV}, d ∈ ds → d.lay = true
  | d :: ds, h, x, hm => by
    rw [PV.lays, Bool.and_eq_true] at h
    rcases List.mem_cons.mp hm with rfl | hm
    · exact h.1
    · exact lays_mem h.2 hm
theorem depths_mem : ∀ {ds : List PV} {d : PV}, d ∈ ds → d.depth ≤ PV.depths ds
  | d :: ds, x, hm => by
    rw [PV.depths]
    rcases List.mem_cons.mp hm with rfl | hm
    · exact Nat.le_max_left _ _
    · exact Nat.le_trans (depths_mem hm) (Nat.le_max_right _ _)

/-- a test of each item, as the model asks it and as we do -/
theorem items_test {vs : List Value} {ds : List PV} {x : PV} {vx : Value} {A' : Around} (q : VRs β s.heap vs ds) (rx : VR β s.heap vx x) (hl : PV.lays ds = true) (hx : x.lay = true) (hd : A'.units + 2000 < cLine) (hds : PV.depths ds < 2000) :
    ∃ f : Value → Bool, (∀ y ∈ vs, SeqAt.EqAt A' s y vx (f y)) ∧ (∀ (i : Nat) (v : Value) (d : PV), vs[i]? = some v → ds[i]? = some d → f v = pyEq d x) := by
  classical
  refine ⟨fun v => if h : ∃ d, d ∈ ds ∧ VR β s.heap v d then pyEq (Classical.choose h) x else false, fun y hy => ?_, fun i v d hv hdd => ?_⟩
  · obtain ⟨i, hi, rfl⟩ := List.mem_iff_getElem.mp hy
    have hi' : i < ds.length := q.length ▸ hi
    obtain ⟨v, hv, rv⟩ := q.get (List.getElem?_eq_getElem hi')
    rw [List.getElem?_eq_getElem hi] at hv
    cases hv
    have hex : ∃ d, d ∈ ds ∧ VR β s.heap vs[i] d := ⟨_, List.getElem_mem hi', rv⟩
    simp only []
    rw [dif_pos hex]
    have hc := Classical.choose_spec hex
    exact eqAt_plain hc.2 rx (lays_mem hl hc.1) hx (by have := depths_mem hc.1; omega)
  · obtain ⟨v', hv', rv⟩ := q.get hdd
    rw [hv] at hv'; cases hv'
    have hex : ∃ d, d ∈ ds ∧ VR β s.heap v d := ⟨_, List.mem_of_getElem? hdd, rv⟩
    simp only []
    rw [dif_pos hex]
    have hc := Classical.choose_spec hex
    obtain ⟨as, p⟩ := hc.2.reads (lays_mem hl hc.1)
    obtain ⟨bs, q'⟩ := rv.reads (lays_mem hl (List.mem_of_getElem? hdd))
    unfold pyEq
    rw [SeqAt.Reads.unique _ _ _ _ _ (lay_can _ (lays_mem hl hc.1)).1 p q']

theorem any_same : ∀ {vs : List Value} {ds : List PV} {f : Value → Bool} {g : PV → Bool}, vs.length = ds.length → (∀ (i : Nat) (v : Value) (d : PV), vs[i]? = some v → ds[i]? = some d → f v = g d) → vs.any f = ds.any g
  | [], [], _, _, _, _ => rfl
  | v :: vs, d :: ds, f, g, hl, h => by
    rw [List.any_cons, List.any_cons, h 0 v d rfl rfl, any_same (by simpa using hl) fun i v' d' h1 h2 => h (i + 1) v' d' (by simpa using h1) (by simpa using h2)]
  | [], _ :: _, _, _, hl, _ => by simp at hl
  | _ :: _, [], _, _, hl, _ => by simp at hl

theorem isList_of {h : Heap} {a : Addr} {xs : Array Value} {n : Nat} (l : IsL h a xs n) : h.IsList a xs := ⟨_, l, rfl, _, rfl⟩
theorem isTuple_of {h : Heap} {a : Addr} {xs : Array Value} {n : Nat} (l : IsT h a xs n) : h.IsTuple a xs := ⟨_, l, rfl, _, rfl⟩

theorem cmpop_ok {op : CmpOp} {a b : PV} {va vb : Value} {r : R Bool} (e : cmpop op a b σ = some r) (I : Inv C A fr β s.heap σ) (hu : A.units + 2100 < cLine) (ra : VR β s.heap va a) (rb : VR β s.heap vb b) (P : Post C fr β s relT Q E r) :
    wpAny (model C.prog C.w) A (compareOp op va vb) Q E s := by
  unfold cmpop at e
  split at e
  · obtain ⟨c, rfl, h1, _⟩ := eqTop_ok e I hu ra rb
    exact h1 _ _ (P.same (tk := s.toks) I.sr rfl)
  · rcases bind_some e with ⟨c, σ₁, e1, e2⟩ | ⟨k, σ₁, e1, _⟩
    · obtain ⟨c', q, _, h2⟩ := eqTop_ok e1 I hu ra rb
      cases q
      cases pure_some e2
      exact h2 _ _ (P.same (tk := s.toks) I.sr rfl)
    · obtain ⟨c', q, _⟩ := eqTop_ok e1 I hu ra rb
      cases q
  · cases ra; cases rb; cases pure_some e; exact lt_int (P.same (tk := s.toks) I.sr rfl)
  · cases ra; cases rb; cases pure_some e; exact le_int (P.same (tk := s.toks) I.sr rfl)
  · cases ra; cases rb; cases pure_some e; exact gt_int (P.same (tk := s.toks) I.sr rfl)
  · cases ra; cases rb; cases pure_some e; exact ge_int (P.same (tk := s.toks) I.sr rfl)
  · cases rb
    split at e
    · cases ra; cases pure_some e; exact is_none_none (P.same (tk := s.toks) I.sr rfl)
    · cases ra; cases pure_some e; exact is_ref_none (P.same (tk := s.toks) I.sr rfl)
    · exact (fail_some e).elim
  · cases rb
    split at e
    · cases ra; cases pure_some e; exact isnot_none_none (P.same (tk := s.toks) I.sr rfl)
    · cases ra; cases pure_some e; exact isnot_ref_none (P.same (tk := s.toks) I.sr rfl)
    · exact (fail_some e).elim
  · rename_i x n
    rcases bind_some e with ⟨xs, σ₁, e1, e⟩ | ⟨k, σ₁, e1, _⟩
    · obtain ⟨xs', hx, q⟩ := getList_some e1
      cases q
      split at e
      · rename_i hl
        simp only [Bool.and_eq_true, decide_eq_true_eq] at hl
        cases pure_some e
        obtain ⟨a1, vs, m1, rfl, h1, l1, q1⟩ := list_of I.sr rb hx
        obtain ⟨f, f1, f2⟩ := items_test (A' := A.in1) q1 ra hl.1.1 hl.1.2 (by show A.units + 1 + 2000 < cLine; omega) hl.2
        refine SeqAt.in_listAt f (isList_of l1) (fun y hy => f1 y (by simpa using hy)) ?_
        have e2 : vs.toArray.any f = xs.any fun y => pyEq y a := by rw [← any_same q1.length f2]; simp
        rw [e2]
        exact P.same (tk := s.toks) I.sr rfl
      · exact (fail_some e).elim
    · obtain ⟨_, _, q⟩ := getList_some e1; cases q
  · rename_i x xs
    split at e
    · rename_i hl
      simp only [Bool.and_eq_true, decide_eq_true_eq] at hl
      cases pure_some e
      cases rb with
      | tup l1 q1 =>
        obtain ⟨f, f1, f2⟩ := items_test (A' := A.in1) q1 ra hl.1.1 hl.1.2 (by show A.units + 1 + 2000 < cLine; omega) hl.2
        refine SeqAt.in_tupleAt f (isTuple_of l1) (fun y hy => f1 y (by simpa using hy)) ?_
        rename_i vs _
        have e2 : vs.toArray.any f = xs.any fun y => pyEq y a := by rw [← any_same q1.length f2]; simp
        rw [e2]
        exact P.same (tk := s.toks) I.sr rfl
    · exact (fail_some e).elim
  · rename_i x y
    rcases hc : x.cps.toList with _ | ⟨c, _ | ⟨c2, r2⟩⟩
    · simp only [hc] at e; exact (fail_some e).elim
    · simp only [hc] at e
      cases pure_some e
      cases ra
      cases rb
      refine PySem.P.notIn_str ?_
      have e2 : x = ⟨#[c]⟩ := by
        obtain ⟨cps⟩ := x
        have : cps = #[c] := by apply Array.toList_inj.mp; exact hc
        rw [this]
      rw [e2, StrLaws.found_one]
      have e3 : (!decide (c ∈ y.cps.toList)) = !(y.cps.toList.contains c) := by simp
      rw [e3]
      exact P.same (tk := s.toks) I.sr rfl
    · simp only [hc] at e; exact (fail_some e).elim
  · exact (fail_some e).elim

theorem seqIndex_pick {α : Type} {xs : List α} {i : Int} {x : α} (h : pickAt xs i = some x) : ∃ k, seqIndex? i xs.length = some k ∧ xs[k]? = some x := by
  unfold pickAt at h
  unfold seqIndex?
  split at h
  · rename_i h0
    have hlt := (List.getElem?_eq_some_iff.mp h).1
    refine ⟨i.toNat, ?_, h⟩
    simp only [if_neg (show ¬ i < 0 by omega)]
    rw [if_pos (by simp; omega)]
  · rename_i h0
    split at h
    · rename_i h1
      refine ⟨(i + xs.length).toNat, ?_, h⟩
      simp only [if_pos (show i < 0 by omega)]
      rw [if_pos (by simp; omega)]
    · cases h

theorem item_ok {o k : PV} {vo vk : Value} {r : R PV} (e : item o k σ = some r) (I : Inv C A fr β s.heap σ) (ro : VR β s.heap vo o) (rk : VR β s.heap vk k) (P : Post C fr β s relV Q E r) :
    wpAny (model C.prog C.w) A (getItem vo vk) Q E s := by
  unfold item at e
  split at e
  · rename_i ds i
    split at e
    · rename_i hi
      obtain ⟨d, hd, rfl⟩ := lift_some e
      cases rk
      cases ro with
      | tup l q =>
        obtain ⟨j, hj, hx⟩ := seqIndex_pick hd
        obtain ⟨v, hv, rv⟩ := q.get hx
        refine PySem.P.getItem_tuple l (by omega) (by omega) (k := j) (by rw [← hj]; simp [q.length]) (by simpa using hv) (P.val (tk := s.toks) I.sr rv)
    · exact (fail_some e).elim
  · rename_i x i
    split at e
    · rename_i hi
      obtain ⟨d, hd, rfl⟩ := lift_some e
      cases rk
      cases ro
      unfold signAt at hd
      obtain ⟨c, hc, rfl⟩ := Option.map_eq_some_iff.mp hd
      obtain ⟨j, hj, hx⟩ := seqIndex_pick hc
      refine PySem.P.getItem_str (c := c) (by simp; omega) ?_ (P.val I.sr (.str _ _))
      have : x.length = x.cps.toList.length := by simp [Str.length]
      rw [this, hj]
      simpa using hx
    · exact (fail_some e).elim
  · rename_i n i
    rcases bind_some e with ⟨ds, σ₁, e1, e⟩ | ⟨k, σ₁, e1, _⟩
    · obtain ⟨ds', hds, q⟩ := getList_some e1
      cases q
      split at e
      · rename_i hi
        obtain ⟨d, hd, rfl⟩ := lift_some e
        cases rk
        obtain ⟨a1, vs, m1, rfl, h1, l1, q1⟩ := list_of I.sr ro hds
        unfold pickAt at hd
        split at hd
        · rename_i h0
          obtain ⟨v, hv, rv⟩ := q1.get hd
          exact wpAny_getItem_list (isList_of l1) h0 (by omega) (by simpa using hv) (P.val (tk := s.toks) I.sr rv)
        · split at hd
          · rename_i h0 h2
            obtain ⟨v, hv, rv⟩ := q1.get hd
            have := q1.length
            have e2 : vs.toArray.size = ds.length := by simp [this]
            exact wpAny_getItem_list_neg (isList_of l1) (by omega) (by rw [e2]; omega) (by omega) (by rw [e2]; simpa using hv) (P.val (tk := s.toks) I.sr rv)
          · cases hd
      · exact (fail_some e).elim
    · obtain ⟨_, _, q⟩ := getList_some e1; cases q
  · exact (fail_some e).elim
end
end Mine

-- M5
namespace Mine
open PySem PySem.W PyProof.Rows
variable [Z : Inhabited Frozen]

theorem post_str {x : Str} {Q : Value → Shared → Prop} {s : Shared} (hl : x.length ≤ sizeLine) (h : Q (.str x s.toks) { s with toks := s.toks + 1 }) : (Made.str x).post Q s := ⟨hl, h⟩

theorem take_clip {α : Type} (l : List α) (b : Nat) : l.take (min b l.length) = l.take b := by
  by_cases h : b ≤ l.length
  · rw [Nat.min_eq_left h]
  · rw [Nat.min_eq_right (by omega), List.take_of_length_le (Nat.le_refl _), List.take_of_length_le (by omega)]
theorem drop_clip {α : Type} (l : List α) (b : Nat) : l.drop (min b l.length) = l.drop b := by
  by_cases h : b ≤ l.length
  · rw [Nat.min_eq_left h]
  · rw [Nat.min_eq_right (by omega), List.drop_of_length_le (Nat.le_refl _), List.drop_of_length_le (by omega)]

/-- the places of a cut -/
theorem cut_places {α : Type} (l : List α) (lo hi : Option Nat) :
    (l.drop (min (lo.getD 0) l.length)).take ((hi.elim l.length fun b => min b l.length) - min (lo.getD 0) l.length) = cut l lo hi := by
  unfold cut
  cases hi with
  | none =>
    simp only [Option.elim]
    rw [drop_clip, List.take_of_length_le]
    rw [List.length_drop]; omega
  | some b =>
    simp only [Option.elim]
    rw [drop_clip, List.drop_take]
    by_cases hb : b ≤ l.length
    · rw [Nat.min_eq_left hb]
      by_cases ha : lo.getD 0 ≤ l.length
      · rw [Nat.min_eq_left ha]
      · rw [List.drop_of_length_le (by omega)]; simp
    · rw [Nat.min_eq_right (by omega)]
      rw [List.take_of_length_le (by rw [List.length_drop]; omega), List.take_of_length_le (by rw [List.length_drop]; omega)]

theorem slicePick_cut (vs : List Value) (lo hi : Option Nat) : slicePick vs.toArray (lo.map fun (n : Nat) => (n : Int)) (hi.map fun (n : Nat) => (n : Int)) none = (cut vs lo hi).toArray := by
  rw [slicePick_plain, ← cut_places]
  cases lo <;> cases hi <;> simp [clipAt_nat]

theorem VRs.cut {β : List Addr} {h : Heap} {vs : List Value} {ds : List PV} (q : VRs β h vs ds) (lo hi : Option Nat) : VRs β h (Mine.cut vs lo hi) (Mine.cut ds lo hi) := by
  unfold Mine.cut
  cases hi with
  | none => exact q.drop _
  | some b => exact (q.take b).drop _

theorem cut_length {α : Type} (l : List α) (lo hi : Option Nat) : (cut l lo hi).length ≤ l.length := by
  unfold cut
  cases hi with
  | none => show (l.drop _).length ≤ _; rw [List.length_drop]; omega
  | some b => show ((l.take b).drop _).length ≤ _; simp only [List.length_drop, List.length_take]; omega

section
variable {C : Conf} {A : Around} {fr : List Env} {β : List Addr} {s : Shared} {σ : Store} {Q : Value → Shared → Prop} {E : Value → Shared → Prop}

inductive IsBound : Value → Option Nat → Prop
  | none : IsBound .none none
  | int (n : Nat) (t : Tok) : n < 2 ^ 62 → IsBound (.int n t) (some n)

theorem bound_is {v : Value} {d : PV} {b : Option Nat} {h : Heap} (r : VR β h v d) (e : bound d = some b) : IsBound v b := by
  unfold bound at e
  split at e
  · cases r; cases e; exact .none
  · rename_i i
    cases r
    split at e
    · rename_i hi
      cases e
      have : i = (i.toNat : Int) := by omega
      rw [this]
      rw [show (((i.toNat : Nat) : Int)).toNat = i.toNat by omega]
      exact .int _ _ (by omega)
    · cases e
  · cases e

theorem bound_part {v : Value} {b : Option Nat} (r : IsBound v b) : IsPart v (b.map fun (n : Nat) => (n : Int)) := by
  cases r with
  | none => exact .none
  | int n t _ => exact .int _ _

theorem adjust_nat (lo hi : Option Nat) (n : Nat) : Builtin.Slice.sliceAdjust (lo.map fun (n : Nat) => (n : Int)) (hi.map fun (n : Nat) => (n : Int)) 1 (n : Int) = (((min (lo.getD 0) n : Nat) : Int), ((hi.elim n fun b => min b n : Nat) : Int)) := by
  unfold Builtin.Slice.sliceAdjust
  have h1 : ¬ ((1 : Int) < 0) := by omega
  cases lo with
  | none =>
    cases hi with
    | none => simp [h1]
    | some b =>
      have h2 : ¬ ((b : Int) < 0) := by omega
      simp [h1, h2]
      omega
  | some a =>
    have h3 : ¬ ((a : Int) < 0) := by omega
    cases hi with
    | none =>
      simp [h1, h3]
      omega
    | some b =>
      have h2 : ¬ ((b : Int) < 0) := by omega
      simp [h1, h2, h3]
      omega
theorem places_nat (a b : Nat) : Builtin.Slice.slicePlaces (a : Int) (b : Int) 1 = b - a := by
  unfold Builtin.Slice.slicePlaces
  have h1 : (1 : Int) > 0 := by omega
  simp only [h1, if_true, Int.ediv_one]
  split <;> omega

theorem slicePart_bound {prog : Program} {w : World} {v : Value} {b : Option Nat} {Q : Option Int → Shared → Prop} (r : IsBound v b) (h : Q (b.map fun (n : Nat) => (n : Int)) s) : wpAny (model prog w) A (Builtin.Slice.slicePartIndex v) Q E s := by
  cases r with
  | none => exact slicePart_none h
  | int n t _ => exact slicePart_int h

theorem sliceApplied_nat {prog : Program} {w : World} {sl : Addr} {vl vu : Value} {lo hi : Option Nat} {n : Nat} {Q : Int × Int × Nat → Shared → Prop} (hs : s.heap.IsSliceOf sl vl vu .none) (rl : IsBound vl lo) (ru : IsBound vu hi)
    (h : Q (((min (lo.getD 0) n : Nat) : Int), 1, (hi.elim n fun b => min b n) - min (lo.getD 0) n) s) : wpAny (model prog w) A (Builtin.Slice.sliceApplied (.ref sl) (pure (n : Int))) Q E s := by
  obtain ⟨os, hos, hcs, hds⟩ := id hs
  unfold Builtin.Slice.sliceApplied Builtin.Slice.sliceFields
  refine wpAny_bind (wpAny_bind (wpAny_field hos hds (x := vl) rfl (wpAny_bind (wpAny_field hos hds (x := vu) rfl (wpAny_bind (wpAny_field hos hds (x := .none) rfl (wpAny_pure ?_)))))))
  refine wpAny_bind (slicePart_none ?_)
  show wpAny _ _ (if ((1 : Int) == 0) = true then _ else _) _ _ s
  rw [if_neg (by decide)]
  refine wpAny_bind (slicePart_bound rl (wpAny_bind (slicePart_bound ru (wpAny_bind (wpAny_pure ?_)))))
  show wpAny _ _ (match Builtin.Slice.sliceAdjust (lo.map fun (n : Nat) => (n : Int)) (hi.map fun (n : Nat) => (n : Int)) 1 (n : Int) with | (lo, hi) => pure (lo, (1 : Int), Builtin.Slice.slicePlaces lo hi 1)) _ _ s
  rw [adjust_nat]
  show wpAny _ _ (pure (((min (lo.getD 0) n : Nat) : Int), (1 : Int), Builtin.Slice.slicePlaces ((min (lo.getD 0) n : Nat) : Int) ((hi.elim n fun b => min b n : Nat) : Int) 1)) _ _ s
  rw [places_nat]
  exact wpAny_pure h

theorem pick_nat (xs : List Value) (a k : Nat) : ((List.range k).filterMap fun (j : Nat) => xs.toArray[((a : Int) + (j : Int) * 1).toNat]?).toArray = ((xs.drop a).take k).toArray := by
  have e : (fun (j : Nat) => xs.toArray[((a : Int) + (j : Int) * 1).toNat]?) = fun j => xs.toArray[a + j]? := by
    funext j
    have : ((a : Int) + (j : Int) * 1).toNat = a + j := by omega
    rw [this]
  rw [e]
  have := pick_run xs.toArray a k
  rw [List.filterMap_map] at this
  have e2 : ((fun x => xs.toArray[x]?) ∘ fun x => a + x) = fun j => xs.toArray[a + j]? := rfl
  rw [e2] at this
  rw [this]

theorem slice_tuple {t sl : Addr} {vs : List Value} {n : Nat} {vl vu : Value} {lo hi : Option Nat} (ht : IsT s.heap t vs.toArray n) (hs : s.heap.IsSliceOf sl vl vu .none) (rl : IsBound vl lo) (ru : IsBound vu hi)
    (hsz : vs.length ≤ sizeLine) (h0 : cut vs lo hi = vs → Q (.ref t) s)
    (h : Q (.ref s.heap.objs.size) { s with heap := s.heap.push { cls := .type "tuple", data := .seq (cut vs lo hi).toArray } }) : wpAny (model C.prog C.w) A (getItem (.ref t) (.ref sl)) Q E s := by
  have ht' : IsTup s.heap t vs.toArray := ⟨_, ht, rfl, _, rfl⟩
  obtain ⟨os, hos, hcs, hds⟩ := id hs
  have hTs : s.TypeIs (.ref sl) "slice" := ⟨os, hos, hcs⟩
  unfold getItem
  try with_reducible refine wpAny_holding ?_
  first | refine wpAny_bind (wpAny_pure ?_) | skip
  refine wpAny_bind (wpAny_sequenceKey ht'.typeIs (by decide) ?_)
  refine wpAny_bind (wpAny_callSpecial?_slot (name := Str.ofString "__getitem__") ht'.typeIs PyProof.Rows.slot_tuple_getitem
    (wpAny_call_entry PyProof.Rows.slot_tuple_getitem ht'.typeIs PyProof.Rows.entry_tuple_getitem ?_ (PyProof.Rows.args_tuple_getitem _ _)))
  show wpAny _ _ (Builtin.Tuple.tupleItemsOf (.ref t) >>= _) _ _ s
  refine wpAny_bind (tupleItemsOf_ ht' ?_)
  refine wpAny_bind (wpAny_typeOf hTs ?_)
  rw [if_pos (by decide)]
  have esz : (vs.toArray.size : Int) = ((vs.length : Nat) : Int) := by simp
  rw [esz]
  refine wpAny_bind (sliceApplied_nat hs rl ru ?_)
  have hcl := cut_places vs lo hi
  have hdrop : sizeOk (.seq (cut vs lo hi).toArray) := by
    show (cut vs lo hi).toArray.size ≤ sizeLine
    rw [List.size_toArray]
    exact Nat.le_trans (cut_length _ _ _) hsz
  show wpAny _ _ (if (((min (lo.getD 0) vs.length : Nat) : Int) == 0 && (1 : Int) == 1 && ((hi.elim vs.length fun b => min b vs.length) - min (lo.getD 0) vs.length) == vs.toArray.size) = true then _ else _) _ _ s
  split
  · rename_i hc
    simp only [Bool.and_eq_true, beq_iff_eq, List.size_toArray] at hc
    have h00 : min (lo.getD 0) vs.length = 0 := by omega
    have hw : cut vs lo hi = vs := by
      rw [← hcl, h00, List.drop_zero, Nat.sub_zero]
      have := hc.2
      rw [h00, Nat.sub_zero] at this
      rw [this, List.take_of_length_le (Nat.le_refl _)]
    refine wpAny_bind (m := Builtin.Tuple.tupleIsExact (.ref t)) (wpAny_bind (wpAny_typeOf ht'.typeIs (wpAny_pure ?_)))
    show wpAny _ _ (if (Value.type "tuple" == Value.type "tuple") = true then _ else _) _ _ s
    rw [if_pos (by decide)]
    exact wpAny_bind (wpAny_rule (wpAny_pure ⟨_, rfl, wpAny_pure (h0 hw)⟩))
  · rw [pick_nat, hcl]
    first
      | exact wpAny_bind (m := Builtin.Tuple.tupleExact _) (wpAny_newObj_type (wpAny_pure ⟨_, rfl, wpAny_pure h⟩) hdrop)
      | exact wpAny_bind (m := Builtin.Tuple.tupleExact _) (wpAny_newObj_type (wpAny_bind (wpAny_pure (wpAny_pure ⟨_, rfl, wpAny_pure h⟩))) hdrop)
      | exact wpAny_bind (wpAny_bind (m := Builtin.Tuple.tupleExact _) (wpAny_newObj_type (wpAny_pure (wpAny_pure ⟨_, rfl, wpAny_pure h⟩)) hdrop))
      | exact wpAny_bind (wpAny_bind (m := Builtin.Tuple.tupleExact _) (wpAny_newObj_type (wpAny_pure ⟨_, rfl, wpAny_pure h⟩) hdrop))
end
end Mine

-- M6
namespace Mine
open PySem PySem.W PyProof.Rows
variable [Z : Inhabited Frozen]

theorem idx_nat (lo hi : Option Nat) (len : Nat) : Builtin.Str.strSliceIndices (lo.map fun (n : Nat) => (n : Int)) (hi.map fun (n : Nat) => (n : Int)) 1 len
    = (List.range ((hi.elim len fun b => min b len) - min (lo.getD 0) len)).map fun k => min (lo.getD 0) len + k := by
  have fin : ∀ a b : Nat, sliceRange (a : Int) (b : Int) 1 = (List.range (b - a)).map fun k => a + k := by
    intro a b
    simp only [sliceRange, show ((1 : Int) > 0) = True from by simp, if_true]
    by_cases hlt : (a : Int) < b
    · have e3 : (((b : Int) - a + 1 - 1) / 1).toNat = b - a := by first | omega | (simp; done) | (simp; omega)
      simp only [hlt, if_true, e3]
      refine List.map_congr_left fun k _ => ?_
      omega
    · have : b - a = 0 := by omega
      simp [hlt, this]
  have clip : ∀ n : Nat, max (0 : Int) (min (if (n : Int) < 0 then (n : Int) + len else n) len) = ((min n len : Nat) : Int) := by
    intro n
    rw [if_neg (by omega)]; omega
  unfold Builtin.Str.strSliceIndices
  simp only [show ((1 : Int) > 0) = True from by simp, if_true]
  rw [← fin]
  congr 1
  · cases lo with
    | none => simp
    | some n => simpa using clip n
  · cases hi with
    | none => simp
    | some n => simpa using clip n

section
variable {C : Conf} {A : Around} {fr : List Env} {β : List Addr} {s : Shared} {σ : Store} {Q : Value → Shared → Prop} {E : Value → Shared → Prop}

/-- a text's cut -/
theorem sliceMade_cut {x : Str} {t : Tok} {vl vu : Value} {lo hi : Option Nat} (rl : IsBound vl lo) (ru : IsBound vu hi) :
    ∃ l u, vl = partValue l ∧ vu = partValue u ∧ (sliceMade x t l u none = .val (.str x t) ∧ (⟨(cut x.cps.toList lo hi).toArray⟩ : Str) = x ∨ sliceMade x t l u none = .str ⟨(cut x.cps.toList lo hi).toArray⟩) := by
  have key : ∀ l u : Option (Int × Tok), l.map (·.1) = lo.map (fun (n : Nat) => (n : Int)) → u.map (·.1) = hi.map (fun (n : Nat) => (n : Int)) →
      (sliceMade x t l u none = .val (.str x t) ∧ (⟨(cut x.cps.toList lo hi).toArray⟩ : Str) = x ∨ sliceMade x t l u none = .str ⟨(cut x.cps.toList lo hi).toArray⟩) := by
    intro l u hl hu
    have hp : ((slicePicked x l u none).filterMap (x.cps[·]?)).toArray = (cut x.cps.toList lo hi).toArray ∧ (slicePicked x l u none).length = (cut x.cps.toList lo hi).length := by
      have e : slicePicked x l u none = (List.range ((hi.elim x.length fun b => min b x.length) - min (lo.getD 0) x.length)).map fun k => min (lo.getD 0) x.length + k := by
        unfold slicePicked
        rw [hl, hu]
        exact idx_nat lo hi x.length
      have q := cut_places x.cps.toList lo hi
      have hx : x.cps.toList.length = x.length := by simp [Str.length]
      rw [hx] at q
      have q2 := pick_run x.cps (min (lo.getD 0) x.length) ((hi.elim x.length fun b => min b x.length) - min (lo.getD 0) x.length)
      rw [e, q2, q]
      refine ⟨rfl, ?_⟩
      rw [← q, List.length_map, List.length_range, List.length_take, List.length_drop, hx]
      cases hi <;> simp <;> omega
    unfold sliceMade
    split
    · rename_i hc
      refine .inl ⟨rfl, ?_⟩
      simp at hc
      have h1 := hp.2.symm.trans hc
      obtain ⟨cps⟩ := x
      have e : cut cps.toList lo hi = cps.toList := by
        refine (List.Sublist.eq_of_length ?_ (by simpa [Str.length] using h1))
        unfold cut
        cases hi with
        | none => exact List.drop_sublist _ _
        | some b => exact (List.drop_sublist _ _).trans (List.take_sublist _ _)
      rw [e]
    · exact .inr (by rw [hp.1])
  cases rl with
  | none =>
    cases ru with
    | none => exact ⟨none, none, rfl, rfl, key _ _ rfl rfl⟩
    | int n t' _ => exact ⟨none, some (n, t'), rfl, rfl, key _ _ rfl rfl⟩
  | int n t' _ =>
    cases ru with
    | none => exact ⟨some (n, t'), none, rfl, rfl, key _ _ rfl rfl⟩
    | int n' t'' _ => exact ⟨some (n, t'), some (n', t''), rfl, rfl, key _ _ rfl rfl⟩

theorem slice_ok {v lo hi : PV} {vo vl vu : Value} {sl : Addr} {r : R PV} (e : slice v lo hi σ = some r) (I : Inv C A fr β s.heap σ) (hs : s.heap.IsSliceOf sl vl vu .none) (ro : VR β s.heap vo v) (rl : VR β s.heap vl lo) (ru : VR β s.heap vu hi) (P : Post C fr β s relV Q E r) :
    wpAny (model C.prog C.w) A (getItem vo (.ref sl)) Q E s := by
  unfold slice at e
  rcases bind_some e with ⟨a, σ₁, e1, e⟩ | ⟨k, σ₁, e1, _⟩
  rotate_left
  · obtain ⟨_, _, q⟩ := lift_some e1; cases q
  obtain ⟨a', ha, q⟩ := lift_some e1
  cases q
  rcases bind_some e with ⟨b, σ₁, e2, e⟩ | ⟨k, σ₁, e2, _⟩
  rotate_left
  · obtain ⟨_, _, q⟩ := lift_some e2; cases q
  obtain ⟨b', hb, q⟩ := lift_some e2
  cases q
  have bl := bound_is rl ha
  have bu := bound_is ru hb
  have t3 := sizeLine_ge
  split at e
  · rename_i ds
    split at e
    · rename_i hm
      cases pure_some e
      have t1 := small_le hm
      cases ro with
      | tup l q =>
        have t2 := q.length
        refine slice_tuple l hs bl bu (by omega) (fun h0 => ?_) (P.tup (tk := s.toks) I (q.cut _ _))
        have q2 := q.cut a b
        rw [h0] at q2
        exact P.val (tk := s.toks) I.sr (.tup l q2)
    · exact (fail_some e).elim
  · rename_i z _ _
    split at e
    · rename_i hm
      cases pure_some e
      have t1 := text_le hm
      cases ro with
      | str _ t =>
        obtain ⟨l, u, rfl, rfl, h⟩ := sliceMade_cut (x := z) (t := t) bl bu
        refine wpAny_getItem_str_slice (l := l) (u := u) (st := none) hs (by decide) ?_
        rcases h with ⟨h, hx⟩ | h
        · rw [h]
          rw [hx] at P
          exact P.val (tk := s.toks) I.sr (.str _ _)
        · rw [h]
          refine ⟨?_, P.val I.sr (.str _ _)⟩
          have := cut_length z.cps.toList a b
          have e9 : z.cps.toList.length = z.cps.size := by simp
          simp [Str.length] at t1 ⊢
          omega
    · exact (fail_some e).elim
  · rename_i n
    rcases bind_some e with ⟨xs, σ₁, e1, e⟩ | ⟨k, σ₁, e1, _⟩
    · obtain ⟨xs', hx, q⟩ := getList_some e1
      cases q
      split at e
      · rename_i hm
        have t1 := small_le hm
        obtain ⟨a1, vs, m1, rfl, h1, l1, q1⟩ := list_of I.sr ro hx
        have t2 := q1.length
        unfold newCell at e
        cases e
        refine wpAny_getItem_list_slice (isList_of l1) hs (bound_part bl) (bound_part bu) .none (by simp) ?_ (by simp; omega)
        rw [slicePick_cut]
        exact P.alloc (tk := s.toks) I (q1.cut _ _)
      · exact (fail_some e).elim
    · obtain ⟨_, _, q⟩ := getList_some e1; cases q
  · rename_i ns
    split at e
    · rename_i hm
      have t1 := small_le hm
      cases ro with
      | old =>
      obtain ⟨vs, ⟨o1, l1, c1, d1⟩, q1⟩ := I.old
      have t2 := (q1 β s.heap).length
      rw [List.length_map] at t2
      unfold newCell at e
      cases e
      refine wpAny_getItem_list_slice ⟨o1, I.stays _ _ l1, c1, d1⟩ hs (bound_part bl) (bound_part bu) .none (by simp) ?_ (by simp; omega)
      rw [slicePick_cut]
      exact P.alloc (tk := s.toks) I ((q1 β s.heap).cut _ _)
    · exact (fail_some e).elim
  · exact (fail_some e).elim

theorem lenOf_ok {v : PV} {vo : Value} {r : R Int} (e : lenOf v σ = some r) (I : Inv C A fr β s.heap σ) (ro : VR β s.heap vo v) :
    ∃ n, r = .ok n σ ∧ ∀ Q E, (∀ t tk, Q (.int n t) { s with toks := tk }) → wpAny (model C.prog C.w) A (call (.builtin "len") [vo]) Q E s := by
  unfold lenOf at e
  split at e
  · rename_i ds
    split at e
    · rename_i hm
      cases pure_some e
      have t1 := small_le hm
      cases ro with
      | tup l q =>
        have t2 := q.length
        refine ⟨_, rfl, fun Q E h => PySem.P.len_tuple l (by simp; omega) ?_⟩
        rename_i vs _
        rw [show ((vs.toArray.size : Nat) : Int) = (ds.length : Int) by simp [t2]]
        exact h _ _
    · exact (fail_some e).elim
  · rename_i x
    split at e
    · rename_i hm
      cases pure_some e
      have t1 := text_le hm
      cases ro with
      | str _ t => exact ⟨_, rfl, fun Q E h => PySem.P.len_str (by omega) (h _ _)⟩
    · exact (fail_some e).elim
  · rename_i n
    rcases bind_some e with ⟨xs, σ₁, e1, e⟩ | ⟨k, σ₁, e1, _⟩
    · obtain ⟨xs', hx, q⟩ := getList_some e1
      cases q
      split at e
      · rename_i hm
        cases pure_some e
        have t1 := small_le hm
        obtain ⟨a1, vs, m1, rfl, h1, l1, q1⟩ := list_of I.sr ro hx
        have t2 := q1.length
        refine ⟨_, rfl, fun Q E h => PySem.Calls.call_len_list (isList_of l1) (by simp; omega) ?_⟩
        rw [show ((vs.toArray.size : Nat) : Int) = (xs.length : Int) by simp [t2]]
        exact h _ _
      · exact (fail_some e).elim
    · obtain ⟨_, _, q⟩ := getList_some e1; cases q
  · exact (fail_some e).elim

/-- what a built-in name stands for -/
def isCallee : Value → Prop
  | .builtin _ => True
  | .type _ => True
  | _ => False

theorem natAbs_log {a : Int} (h : a.natAbs < 10 ^ 9) : a.natAbs.log2 < 1920 := by
  by_cases h0 : a.natAbs = 0
  · rw [h0]; decide
  · have : a.natAbs.log2 < 30 := (Nat.log2_lt h0).mpr (Nat.lt_trans h (by decide))
    omega

theorem keeps_ext {h₁ : Heap} (I : Inv C A fr β s.heap σ) (k : ∀ c o, s.heap.get? c = some o → h₁.get? c = some o) : Ext (frs fr) β s.heap β h₁ ∧ SR β h₁ σ :=
  ⟨.of_keeps k, I.sr.keeps I.fns fun a o e _ => k a o e⟩

theorem callBuiltin_ok {f : Str} {ds : List PV} {vs : List Value} {r : R PV} (e : callBuiltin f ds σ = some r) (I : Inv C A fr β s.heap σ) (rs : VRs β s.heap vs ds) (P : Post C fr β s relV Q E r) :
    ∃ v, bootBuiltins f = some v ∧ isCallee v ∧ wpAny (model C.prog C.w) A (call v vs) Q E s := by
  unfold callBuiltin at e
  split at e
  · rename_i hf
    subst hf
    split at e
    · rename_i v
      obtain ⟨vo, rest, rfl⟩ : ∃ a b, vs = a :: b := by cases rs; exact ⟨_, _, rfl⟩
      cases rs with
      | cons ra rr =>
        cases rr
        rcases bind_some e with ⟨n, σ₁, e1, e⟩ | ⟨k, σ₁, e1, _⟩
        · obtain ⟨n', q, hq⟩ := lenOf_ok e1 I ra
          cases q
          cases pure_some e
          exact ⟨.builtin "len", by kernel_rfl, trivial, hq _ _ fun t tk => P.val I.sr (.int _ _)⟩
        · obtain ⟨n', q, hq⟩ := lenOf_ok e1 I ra
          cases q
    · exact (fail_some e).elim
  split at e
  · rename_i hf
    subst hf
    refine ⟨.type "int", by kernel_rfl, trivial, ?_⟩
    split at e
    · cases rs with
      | cons ra rr =>
        cases rr; cases ra
        cases pure_some e
        exact call_int_int (P.val (tk := s.toks) I.sr (.int _ _))
    · cases rs with
      | cons ra rr =>
        cases rr; cases ra
        rcases bind_some e with ⟨n, σ₁, e1, e⟩ | ⟨k, σ₁, e1, _⟩
        · obtain ⟨n', hn, q⟩ := lift_some e1
          cases q
          cases pure_some e
          unfold intOfText at hn
          split at hn
          · rename_i hl
            exact PySem.W.KIN.call_text hn hl (P.val I.sr (.int _ _))
          · cases hn
        · obtain ⟨_, _, q⟩ := lift_some e1; cases q
    · exact (fail_some e).elim
  split at e
  · rename_i hf
    subst hf
    refine ⟨.type "str", by kernel_rfl, trivial, ?_⟩
    split at e
    · rename_i i
      cases rs with
      | cons ra rr =>
        cases rr; cases ra
        split at e
        · rename_i hi
          cases pure_some e
          exact PySem.P.str_of_int (natAbs_log hi) (P.val I.sr (.str _ _))
        · exact (fail_some e).elim
    · exact (fail_some e).elim
  split at e
  · rename_i hf
    subst hf
    refine ⟨.type "tuple", by kernel_rfl, trivial, ?_⟩
    split at e
    · rename_i n
      cases rs with
      | cons ra rr =>
        cases rr
        rcases bind_some e with ⟨xs, σ₁, e1, e⟩ | ⟨k, σ₁, e1, _⟩
        · obtain ⟨xs', hx, q⟩ := getList_some e1
          cases q
          split at e
          · rename_i hm
            cases pure_some e
            have t1 := small_le hm
            have t3 := sizeLine_ge
            obtain ⟨a1, ws, m1, rfl, h1, l1, q1⟩ := list_of I.sr ra hx
            have t2 := q1.length
            refine call_tuple_list (isList_of l1) (fun h' hk => ?_) (by simp; omega)
            obtain ⟨x, S⟩ := keeps_ext I hk
            exact (P.next (tk := s.toks) x).tup (tk := s.toks) (I.next x S) (I.monos x q1)
          · exact (fail_some e).elim
        · obtain ⟨_, _, q⟩ := getList_some e1; cases q
    · exact (fail_some e).elim
  split at e
  · rename_i hf
    subst hf
    refine ⟨.type "range", by kernel_rfl, trivial, ?_⟩
    split at e
    · rename_i b
      cases rs with
      | cons ra rr =>
        cases rr
        cases ra with
        | int _ tb =>
        split at e
        · rename_i hi
          cases pure_some e
          exact call_range_1 (P _ _ _ _ (.push _) (I.sr.keeps I.fns fun a o e _ => Heap.get?_push_of_some _ e) (.rng (IsRange.new _ _ _ _ _ _ _)))
        · exact (fail_some e).elim
    · rename_i a b
      cases rs with
      | cons ra rr =>
        cases rr with
        | cons rb rr =>
        cases rr
        cases ra with
        | int _ ta =>
        cases rb with
        | int _ tb =>
        split at e
        · rename_i hi
          cases pure_some e
          exact call_range_2 (P _ _ _ _ (.push _) (I.sr.keeps I.fns fun a o e _ => Heap.get?_push_of_some _ e) (.rng (IsRange.new _ _ _ _ _ _ _)))
        · exact (fail_some e).elim
    · exact (fail_some e).elim
  split at e
  · rename_i hf
    subst hf
    refine ⟨.builtin "max", by kernel_rfl, trivial, ?_⟩
    split at e
    · rename_i a b
      cases rs with
      | cons ra rr =>
        cases rr with
        | cons rb rr =>
        cases rr; cases ra; cases rb
        cases pure_some e
        refine PySem.max_two_ints I.hh fun h' tk hk => ?_
        obtain ⟨x, S⟩ := keeps_ext I hk
        by_cases hab : b > a
        · rw [if_pos hab]
          rw [show max a b = b by omega] at P
          exact P _ _ _ _ x S (.int _ _)
        · rw [if_neg hab]
          rw [show max a b = a by omega] at P
          exact P _ _ _ _ x S (.int _ _)
    · exact (fail_some e).elim
  · exact (fail_some e).elim
end
end Mine

-- M7
namespace Mine
open PySem PySem.W PyProof.Rows
variable [Z : Inhabited Frozen]

/-- objects that values lean on -/
def Core (o : Obj) : Prop := (∃ xs n, o.data = .seq xs n) ∨ (o.cls = .type "range" ∧ ∃ fs, o.data = .fields fs)
def Keep3 (β : List Addr) (h h₁ : Heap) : Prop := ∀ a o, h.get? a = some o → Core o → (o.cls = .type "list" → a ∈ β) → h₁.get? a = some o
/-- nothing leans on this object -/
def Safe (β : List Addr) (h : Heap) (J : Addr) : Prop := ∀ o, h.get? J = some o → Core o → o.cls = .type "list" ∧ J ∉ β
theorem Safe.of {β : List Addr} {h : Heap} {J : Addr} (hJ : ∀ o, h.get? J = some o → ¬ Core o) : Safe β h J := fun o e c => absurd c (hJ o e)
theorem Safe.list {β : List Addr} {h : Heap} {J : Addr} {xs : Array Value} {n : Nat} (l : IsL h J xs n) (hn : J ∉ β) : Safe β h J := fun o e _ => by
  have q := e.symm.trans l; cases q; exact ⟨rfl, hn⟩
theorem Safe.none {β : List Addr} {h : Heap} {J : Addr} (hJ : h.get? J = .none) : Safe β h J := fun o e _ => by rw [hJ] at e; cases e

section
variable {fr β β₁ : List Addr} {h h₁ h₂ : Heap} {σ : Store}
theorem VR.core {h h₁ : Heap} {β : List Addr} (k : Keep3 β h h₁) {v : Value} {d : PV} (x : VR β h v d) : VR β h₁ v d := by
  induction x using VR.rec (motive_2 := fun vs ds _ => VRs β h₁ vs ds) with
  | none => exact .none
  | bool b => exact .bool b
  | int i t => exact .int i t
  | str x t => exact .str x t
  | tup e _ ih => exact .tup (k _ _ e (.inl ⟨_, _, rfl⟩) (fun q => by simp at q)) ih
  | ref e => exact .ref e
  | rng e => exact .rng (k _ _ e (.inr ⟨rfl, _, rfl⟩) (fun q => by simp at q))
  | old => exact .old
  | nil => exact .nil
  | cons _ _ a b => exact .cons a b
theorem VRs.core {h h₁ : Heap} {β : List Addr} (k : Keep3 β h h₁) {vs : List Value} {ds : List PV} (x : VRs β h vs ds) : VRs β h₁ vs ds := by
  induction vs generalizing ds with
  | nil => cases x; exact .nil
  | cons v vs ih => cases x with | cons a r => exact .cons (a.core k) (ih r)
theorem SR.core (S : SR β h σ) (k : Keep3 β h h₁) : SR β h₁ σ := by
  refine ⟨S.len, S.nodup, fun i a c ha hc => ?_⟩
  have q := S.cell i a c ha hc
  cases c with
  | list ds =>
    obtain ⟨vs, n, l, r⟩ := q
    exact ⟨vs, n, k _ _ l (.inl ⟨_, _, rfl⟩) (fun _ => List.mem_of_getElem? ha), r.core k⟩
  | dict _ => exact q.elim

theorem keep3_but {J : Addr} (x : Heap.ExtBut J h h₁) (hJ : Safe β h J) : Keep3 β h h₁ := fun a o e c m =>
  x a o (fun q => by subst q; exact (hJ o e c).2 (m (hJ o e c).1)) e

theorem Ext.but (x : Ext fr β h β₁ h₁) {J : Addr} (hJ : h.get? J = none) (k : Heap.ExtBut J h₁ h₂) : Ext fr β h β₁ h₂ := by
  have ne : ∀ a o, h.get? a = some o → a ≠ J := fun a o e q => by subst q; rw [hJ] at e; cases e
  refine ⟨x.grow, fun a o e n f => k a o (ne a o e) (x.keep a o e n f), fun a o e n => ?_⟩
  obtain ⟨sl, q⟩ := x.slots a o e n
  exact ⟨sl, k a _ (ne a o e) q⟩
end

section
variable {C : Conf} {A : Around} {fr : List Env} {β β₁ : List Addr} {h h₁ : Heap} {σ σ₁ : Store}
theorem FunFrames.move {base : Heap} {fr : List Env} (ff : h.FunFrames base fr) (fx : FrOk (frs fr) h₁) : h₁.FunFrames base fr := by
  induction fr with
  | nil => trivial
  | cons e r ih =>
    obtain ⟨hk, ⟨L, o, hf, hn, ho, hd⟩, hr⟩ := ff
    have hL : L ∈ frs (e :: r) := List.mem_filterMap.mpr ⟨e, List.mem_cons_self, hf⟩
    obtain ⟨m, o', es, ep, ho', hd', q⟩ := fx L hL
    refine ⟨hk, ⟨L, o', hf, hn, ho', fun vs q => by rw [hd'] at q; cases q⟩, ih hr fun a ha => fx a ?_⟩
    obtain ⟨e', he', q'⟩ := List.mem_filterMap.mp ha
    exact List.mem_filterMap.mpr ⟨e', List.mem_cons_of_mem _ he', q'⟩
theorem Inv.move (I : Inv C A fr β h σ) (st : C.base.StaysIn h₁) (fx : FrOk (frs fr) h₁) (S : SR β₁ h₁ σ₁) (fs : ∀ a ∈ β₁, C.base.get? a = none) : Inv C A fr β₁ h₁ σ₁ :=
  ⟨I.hh, I.frames, st, FunFrames.move I.ff fx, fx, S, fs, I.glob, I.bui, I.bfit, I.nolim, I.inK, I.old⟩
theorem Inv.but {J : Addr} (I : Inv C A fr β h σ) (x : Heap.ExtBut J h h₁) (hb : C.base.get? J = none) (hJ : Safe β h J) (hn : J ∈ frs fr → ∃ m, h₁.Ns J m) : Inv C A fr β h₁ σ := by
  refine I.move (fun a o e => x a o (fun q => by subst q; rw [hb] at e; cases e) (I.stays a o e)) (fun L hL => ?_) (I.sr.core (keep3_but x hJ)) I.fresh
  by_cases q : L = J
  · subst q; exact hn hL
  · obtain ⟨m, o, es, ep, ho, r⟩ := I.fns L hL
    exact ⟨m, o, es, ep, x L o q ho, r⟩
theorem ns_core {L : Addr} {m : Str → Option Value} (n : h.Ns L m) : Safe β h L := .of fun o e c => by
  obtain ⟨o', es, ep, ho, hd, _⟩ := n
  rw [e] at ho; cases ho
  rcases c with ⟨xs, n, q⟩ | ⟨_, fs, q⟩ <;> rw [hd] at q <;> cases q
theorem cell_core {c : Addr} {v : Option Value} (n : h.IsCell c v) : Safe β h c := .of fun o e c => by
  obtain ⟨o', ho, hd⟩ := n
  rw [e] at ho; cases ho
  rcases c with ⟨xs, n, q⟩ | ⟨_, fs, q⟩ <;> rw [hd] at q <;> cases q
theorem SR.not_seq (S : SR β h σ) {a : Addr} {o : Obj} (e : h.get? a = some o) (hd : ∀ xs n, o.data ≠ .seq xs n) : a ∉ β := fun hm => by
  obtain ⟨xs, n, l⟩ := S.isL hm
  have q := e.symm.trans l; cases q; exact hd _ _ rfl

/-! ## the names -/
structure EOK (env : Env) (N : Names) : Prop where
  kind : env.scope.kind = .function
  names : env.scope.names = N
  glob : env.globals = mainGlobals
  bui : env.builtins = builtinsNs

structure VOK (env : Env) (N : Names) (β : List Addr) (h : Heap) (ρ : Vars) : Prop where
  loc : ∃ m, h.Ns env.locals m ∧ ∀ x d, N.lookup x = some .local → ρ x = some d → ∃ v, m x = some v ∧ VR β h v d
  cel : ∀ x, N.lookup x = some .cell → ∃ c, env.cells.lookup x = some c ∧ ∃ ov, h.IsCell c ov ∧ ∀ d, ρ x = some d → ∃ v, ov = some v ∧ VR β h v d

variable {env : Env} {N : Names} {ρ : Vars}
theorem ns_slots (S : SR β h σ) {fr : List Addr} (x : Ext fr β h β₁ h₁) {L : Addr} {m : Str → Option Value} (n : h.Ns L m) : h₁.Ns L m := by
  obtain ⟨o, es, ep, ho, hd, r⟩ := n
  obtain ⟨sl, q⟩ := x.slots L o ho (S.not_seq ho fun xs n q => by rw [hd] at q; cases q)
  exact ⟨_, es, ep, q, hd, r⟩
theorem cell_slots (S : SR β h σ) {fr : List Addr} (x : Ext fr β h β₁ h₁) {L : Addr} {m : Option Value} (n : h.IsCell L m) : h₁.IsCell L m := by
  obtain ⟨o, ho, hd⟩ := n
  obtain ⟨sl, q⟩ := x.slots L o ho (S.not_seq ho fun xs n q => by rw [hd] at q; cases q)
  exact ⟨_, q, hd⟩
theorem VOK.next (V : VOK env N β h ρ) (I : Inv C A fr β h σ) (x : Ext (frs fr) β h β₁ h₁) : VOK env N β₁ h₁ ρ := by
  refine ⟨?_, fun y hy => ?_⟩
  · obtain ⟨m, n, q⟩ := V.loc
    refine ⟨m, ns_slots I.sr x n, fun y d hy hd => ?_⟩
    obtain ⟨v, hv, r⟩ := q y d hy hd
    exact ⟨v, hv, I.mono x r⟩
  · obtain ⟨c, hc, ov, n, q⟩ := V.cel y hy
    refine ⟨c, hc, ov, cell_slots I.sr x n, fun d hd => ?_⟩
    obtain ⟨v, hv, r⟩ := q d hd
    exact ⟨v, hv, I.mono x r⟩
/-- some other object turns -/
theorem VOK.but {J : Addr} (V : VOK env N β h ρ) (x : Heap.ExtBut J h h₁) (hJ : Safe β h J) (hl : env.locals ≠ J) (hc : ∀ y c, N.lookup y = some .cell → env.cells.lookup y = some c → c ≠ J) : VOK env N β h₁ ρ := by
  have k := keep3_but x hJ
  refine ⟨?_, fun y hy => ?_⟩
  · obtain ⟨m, n, q⟩ := V.loc
    refine ⟨m, n.at' fun o e => x _ o hl e, fun y d hy hd => ?_⟩
    obtain ⟨v, hv, r⟩ := q y d hy hd
    exact ⟨v, hv, r.core k⟩
  · obtain ⟨c, hcc, ov, n, q⟩ := V.cel y hy
    refine ⟨c, hcc, ov, ?_, fun d hd => ?_⟩
    · obtain ⟨o, ho, hd⟩ := n
      exact ⟨o, x _ o (hc y c hy hcc) ho, hd⟩
    obtain ⟨v, hv, r⟩ := q d hd
    exact ⟨v, hv, r.core k⟩

/-! ## going through -/
def ItemsOf (v : PV) (σ : Store) (ds : List PV) : Prop := match v with
  | .tup es => ds = es
  | .ref n => σ[n]? = some (.list ds)
  | .str x => ds = x.cps.toList.map fun c => .str ⟨#[c]⟩
  | .rng a b => (ds = (List.range (b - a).toNat).map fun (i : Nat) => PV.int (a + (i : Int))) ∧ a.natAbs < 2 ^ 60 ∧ b.natAbs < 2 ^ 60
  | _ => False

theorem items_some {v : PV} {r : R (List PV)} (e : items v σ = some r) : ∃ ds, r = .ok ds σ ∧ ItemsOf v σ ds ∧ ds.length ≤ 100000 := by
  unfold items at e
  split at e
  · split at e
    · rename_i hm; cases pure_some e; exact ⟨_, rfl, rfl, small_le hm⟩
    · exact (fail_some e).elim
  · rcases bind_some e with ⟨xs, σ₁, e1, e⟩ | ⟨k, σ₁, e1, _⟩
    · obtain ⟨xs', hx, q⟩ := getList_some e1
      cases q
      split at e
      · rename_i hm; cases pure_some e; exact ⟨_, rfl, hx, small_le hm⟩
      · exact (fail_some e).elim
    · obtain ⟨_, _, q⟩ := getList_some e1; cases q
  · split at e
    · rename_i hm; cases pure_some e; exact ⟨_, rfl, rfl, by have := text_le hm; simpa [Str.length] using this⟩
    · exact (fail_some e).elim
  · split at e
    · rename_i hm; cases pure_some e; exact ⟨_, rfl, ⟨rfl, hm.2⟩, by simpa using hm.1⟩
    · exact (fail_some e).elim
  · exact (fail_some e).elim

def ItAt (β : List Addr) (h : Heap) (v : PV) (I : Addr) (i : Nat) : Prop := match v with
  | .tup ds => ∃ a vs n, IsT h a vs.toArray n ∧ VRs β h vs ds ∧ h.IsTupleIter I a i
  | .ref n => ∃ a, β[n]? = some a ∧ h.IsListIter I a i
  | .str x => ∃ k t, (k = "str_ascii_iterator" ∨ k = "str_iterator") ∧ h.IsStrIter I k x t i
  | .rng a b => IsRangeIter h I (a + (i : Int)) (((b - a).toNat : Int) - (i : Int)) 1
  | _ => False

theorem ItAt.obj {v : PV} {I : Addr} {i : Nat} (x : ItAt β h v I i) : ∃ o, h.get? I = some o ∧ ¬ Core o ∧ ∃ fs, o.data = .fields fs := by
  have key : ∀ o : Obj, (∃ k : String, o.cls = .type k ∧ k ≠ "range") → (∃ fs, o.data = .fields fs) → ¬ Core o := by
    rintro o ⟨k, hk, hne⟩ ⟨fs, hf⟩ (⟨xs, n, q⟩ | ⟨q, _⟩)
    · rw [hf] at q; cases q
    · rw [hk] at q; cases q; exact hne rfl
  unfold ItAt at x
  split at x
  · obtain ⟨a, vs, n, _, _, o, ho, hc, hd⟩ := x; exact ⟨o, ho, key o ⟨_, hc, by decide⟩ ⟨_, hd⟩, _, hd⟩
  · obtain ⟨a, _, o, ho, hc, hd⟩ := x; exact ⟨o, ho, key o ⟨_, hc, by decide⟩ ⟨_, hd⟩, _, hd⟩
  · obtain ⟨k, t, hk, o, ho, hc, hd⟩ := x
    refine ⟨o, ho, key o ⟨_, hc, ?_⟩ ⟨_, hd⟩, _, hd⟩
    rcases hk with rfl | rfl <;> decide
  · exact ⟨_, x, key _ ⟨_, rfl, by decide⟩ ⟨_, rfl⟩, _, rfl⟩
  · exact x.elim
theorem ItAt.core {v : PV} {I : Addr} {i : Nat} (x : ItAt β h v I i) : Safe β h I := .of fun o e => by
  obtain ⟨o', ho, hc, _⟩ := x.obj
  rw [e] at ho; cases ho; exact hc
theorem ItAt.not_fr {v : PV} {I : Addr} {i : Nat} (x : ItAt β h v I i) {fr : List Addr} (F : FrOk fr h) : I ∉ fr := by
  obtain ⟨o, ho, hc, fs, hd⟩ := x.obj
  exact F.not ho fun es n q => by rw [hd] at q; cases q
theorem ItAt.next {v : PV} {I : Addr} {i : Nat} (y : ItAt β h v I i) (II : Inv C A fr β h σ) (x : Ext (frs fr) β h β₁ h₁) : ItAt β₁ h₁ v I i := by
  have nf := y.not_fr II.fns
  obtain ⟨o, ho, hc, fs, hd⟩ := y.obj
  have k : h₁.get? I = some o := x.keep I o ho (II.sr.not_seq ho fun xs n q => by rw [hd] at q; cases q) nf
  have kk : ∀ o', h.get? I = some o' → h₁.get? I = some o' := fun o' e => by rw [ho] at e; cases e; exact k
  unfold ItAt at y ⊢
  split at y
  · obtain ⟨a, vs, n, l, q, o', ho', r⟩ := y
    exact ⟨a, vs, n, x.keep _ _ l (II.sr.not_in l (by simp)) (II.fns.not l (by intro es n q; cases q)), II.monos x q, o', kk _ ho', r⟩
  · obtain ⟨a, ha, o', ho', r⟩ := y; exact ⟨a, x.at? ha, o', kk _ ho', r⟩
  · obtain ⟨c, t, hk, o', ho', r⟩ := y; exact ⟨c, t, hk, o', kk _ ho', r⟩
  · exact kk _ y
  · exact y.elim
/-- another object turns -/
theorem ItAt.but {v : PV} {I J : Addr} {i : Nat} (y : ItAt β h v I i) (x : Heap.ExtBut J h h₁) (hJ : Safe β h J) (hne : I ≠ J) : ItAt β h₁ v I i := by
  have k := keep3_but x hJ
  unfold ItAt at y ⊢
  split at y
  · obtain ⟨a, vs, n, l, q, o', ho', r⟩ := y
    exact ⟨a, vs, n, k _ _ l (.inl ⟨_, _, rfl⟩) (fun q => by simp at q), q.core k, o', x _ _ hne ho', r⟩
  · obtain ⟨a, ha, o', ho', r⟩ := y; exact ⟨a, ha, o', x _ _ hne ho', r⟩
  · obtain ⟨c, t, hk, o', ho', r⟩ := y; exact ⟨c, t, hk, o', x _ _ hne ho', r⟩
  · exact x _ _ hne y
  · exact y.elim
end

section
variable {C : Conf} {A : Around} {fr : List Env} {β : List Addr} {s : Shared} {σ : Store} {E : Value → Shared → Prop}

theorem isTuple_at {h : Heap} {a : Addr} {vs : Array Value} {n : Nat} (l : IsT h a vs n) : h.IsTuple a vs := ⟨_, l, rfl, _, rfl⟩

theorem pyIter_ok {v : PV} {ds : List PV} {vo : Value} {Q : Value → Shared → Prop} (e : ItemsOf v σ ds) (I : Inv C A fr β s.heap σ) (ro : VR β s.heap vo v)
    (h : ∀ o tk, ItAt β (s.heap.push o) v s.heap.objs.size 0 → Q (.ref s.heap.objs.size) { s with heap := s.heap.push o, toks := tk }) : wpAny (model C.prog C.w) A (pyIter vo) Q E s := by
  unfold ItemsOf at e
  split at e
  · cases ro with
    | tup l q =>
      refine wpAny_pyIter_tuple (isTuple_at l) (h _ s.toks ?_)
      exact ⟨_, _, _, Heap.get?_push_of_some _ l, I.monos (.push _) q, _, Heap.get?_push_size _ rfl, rfl, rfl⟩
  · obtain ⟨a1, vs, m1, rfl, h1, l1, q1⟩ := list_of I.sr ro e
    exact wpAny_pyIter_list (isList_of l1) (h _ s.toks ⟨a1, h1, _, Heap.get?_push_size _ rfl, rfl, rfl⟩)
  · cases ro with
    | str _ t =>
      rename_i x
      cases ha : x.cps.all (· < 128)
      · exact wpAny_pyIter_wide ha (h _ s.toks ⟨_, t, .inr rfl, _, Heap.get?_push_size _ rfl, rfl, rfl⟩)
      · exact wpAny_pyIter_ascii ha (h _ s.toks ⟨_, t, .inl rfl, _, Heap.get?_push_size _ rfl, rfl, rfl⟩)
  · rename_i a b
    cases ro with
    | rng l =>
      have hb := e.2
      refine wpAny_pyIter_range l (small_one (by omega) (by omega) (by omega) (by omega)) (h _ s.toks ?_)
      show IsRangeIter _ _ _ _ _
      have e2 : Builtin.Range.rangeSize a b 1 = ((b - a).toNat : Int) := by
        rw [rangeSize_one]; split <;> omega
      rw [e2]
      refine (Heap.get?_push_size _ rfl).trans ?_
      simp
  · exact e.elim

theorem next_item {v : PV} {ds : List PV} {d : PV} {I : Addr} {i : Nat} {Q : Option Value → Shared → Prop} (e : ItemsOf v σ ds) (hd : ds[i]? = some d) (II : Inv C A fr β s.heap σ) (y : ItAt β s.heap v I i)
    (h : ∀ w h' tk, VR β h' w d → ItAt β h' v I (i + 1) → Heap.ExtBut I s.heap h' → Q (some w) { s with heap := h', toks := tk }) : wpAny (model C.prog C.w) A (pyNext (.ref I)) Q E s := by
  have hc := y.core
  unfold ItemsOf at e
  split at e
  · subst e
    obtain ⟨a, vs, n, l, q, it⟩ := y
    obtain ⟨w, hw, r⟩ := q.get hd
    refine wpAny_pyNext_tuple_item it (isTuple_at l) (by simpa using hw) fun h' it' sb => ?_
    have k := keep3_but sb.extBut hc
    exact h w h' s.toks (r.core k) ⟨a, vs, n, k _ _ l (.inl ⟨_, _, rfl⟩) (fun q => by simp at q), q.core k, it'⟩ sb.extBut
  · obtain ⟨a, ha, it⟩ := y
    obtain ⟨vs, m, l, q⟩ := II.sr.cell _ a _ ha e
    obtain ⟨w, hw, r⟩ := q.get hd
    refine wpAny_pyNext_list_item it (isList_of l) (by simpa using hw) fun h' it' sb => ?_
    have k := keep3_but sb.extBut hc
    exact h w h' s.toks (r.core k) ⟨a, ha, it'⟩ sb.extBut
  · subst e
    obtain ⟨k, t, hk, it⟩ := y
    rename_i x
    rw [List.getElem?_map, Array.getElem?_toList] at hd
    obtain ⟨c, hcc, rfl⟩ := Option.map_eq_some_iff.mp hd
    rcases hk with rfl | rfl
    · exact wpAny_pyNext_ascii_item it hcc fun h' it' sb => h _ h' _ (.str _ _) ⟨_, t, .inl rfl, it'⟩ sb.extBut
    · exact wpAny_pyNext_wide_item it hcc fun h' it' sb => h _ h' _ (.str _ _) ⟨_, t, .inr rfl, it'⟩ sb.extBut
  · obtain ⟨rfl, hab⟩ := e
    rename_i a b
    rw [List.getElem?_map] at hd
    obtain ⟨j, hj, rfl⟩ := Option.map_eq_some_iff.mp hd
    obtain ⟨hlt, hj⟩ := List.getElem?_eq_some_iff.mp hj
    simp at hlt hj
    subst hj
    refine wpAny_pyNext_range_item y (by omega) fun h' it' sb => h _ h' _ (.int _ _) ?_ sb.extBut
    show IsRangeIter _ _ _ _ _
    rw [show a + ((i + 1 : Nat) : Int) = a + (i : Int) + 1 by omega, show (((b - a).toNat : Nat) : Int) - ((i + 1 : Nat) : Int) = ((b - a).toNat : Int) - (i : Int) - 1 by omega]
    exact it'
  · exact e.elim

theorem next_end {v : PV} {ds : List PV} {I : Addr} {Q : Option Value → Shared → Prop} (e : ItemsOf v σ ds) (II : Inv C A fr β s.heap σ) (y : ItAt β s.heap v I ds.length)
    (h : ∀ h' tk, Heap.ExtBut I s.heap h' → Q none { s with heap := h', toks := tk }) : wpAny (model C.prog C.w) A (pyNext (.ref I)) Q E s := by
  unfold ItemsOf at e
  split at e
  · subst e
    obtain ⟨a, vs, n, l, q, it⟩ := y
    exact wpAny_pyNext_tuple_end II.hh it (isTuple_at l) (by simp [q.length]) fun h' sb => h h' s.toks sb
  · obtain ⟨a, ha, it⟩ := y
    obtain ⟨vs, m, l, q⟩ := II.sr.cell _ a _ ha e
    exact wpAny_pyNext_list_end II.hh it (isList_of l) (by simp [q.length]) fun h' sb => h h' s.toks sb
  · subst e
    obtain ⟨k, t, hk, it⟩ := y
    rename_i x
    simp at it
    rcases hk with rfl | rfl
    · exact wpAny_pyNext_ascii_end II.hh it (by simp) fun h' sb => h h' s.toks sb
    · exact wpAny_pyNext_wide_end II.hh it (by simp) fun h' sb => h h' s.toks sb
  · obtain ⟨rfl, hab⟩ := e
    rename_i a b
    exact wpAny_pyNext_range_end II.hh y (by simp) fun h' sb => h h' s.toks sb
  · exact e.elim
end
end Mine

-- M8
namespace Mine
open PySem PySem.W PyProof.Rows
variable [Z : Inhabited Frozen]

/-- what is known around an evaluation -/
structure Snd (C : Conf) (Γ : Ctx) (A : Around) (fr : List Env) : Prop where
  budget : A.units + 2100 < cLine
  defs : ∀ f, Γ.isDef f = true → ∃ a, C.mg f = some (.ref a) ∧ fnIn C.K a = true
  undef : ∀ f ∈ bnames, Γ.isDef f = false → C.mg f = none
  call : ∀ f ds σ r, Γ.isDef f = true → Γ.call f ds σ = some r → ∀ β (s : Shared) vs Q E a, C.mg f = some (.ref a) → Inv C A fr β s.heap σ → VRs β s.heap vs ds → Post C fr β s relV Q E r → wpAny (model C.prog C.w) A (call (.ref a) vs) Q E s
  const : ∀ x d, Γ.const x = some d → ∃ v, C.mg x = some v ∧ ∀ β h, VR β h v d
  /-- the text's own exceptions -/
  exns : ∀ x k, Γ.exn x = some k → C.mg x = some (.ref (C.cls k))
  exCall : ∀ k, keepIn C.K (.ref (C.cls k)) = true
  exSub : ∀ k, subIn C.K (.ref (C.cls k)) (.type "BaseException") = some true
  exType : ∀ k, typeIn C.K (.ref (C.cls k)) = some (.type "type")
  exMatch : ∀ k, exmOne C.K (.ref (C.cls k)) (.ref (C.cls k)) = some true
  make : ∀ k β (s : Shared) σ x t Q E, Inv C A fr β s.heap σ → x.length ≤ 100000 → (∀ h' tk ea oe vs a0, (∀ b o, s.heap.get? b = some o → h'.get? b = some o) → s.heap.get? ea = none → h'.get? ea = some oe → oe.cls = .ref (C.cls k) → oe.data = .fields vs →
    vs[0]? = some a0 → vs[1]? = some .none → Q (.ref ea) { s with heap := h', toks := tk }) → wpAny (model C.prog C.w) A (PySem.call (.ref (C.cls k)) [.str x t]) Q E s

section
variable (C : Conf) (Γ : Ctx) (A : Around) (fr : List Env)
/-- the evaluator's run of a tree, and the model's -/
def Runs {α γ : Type} (m : Names → Vars → M α) (t : Env → Sem γ) (rel : List Addr → Heap → γ → α → Prop) : Prop :=
  ∀ env N, EOK env N → ∀ (β : List Addr) (s : Shared) (σ : Store) (ρ : Vars) (r : R α) (Q : γ → Shared → Prop) (E : Value → Shared → Prop), m N ρ σ = some r → Inv C A fr β s.heap σ → VOK env N β s.heap ρ → Post C fr β s rel Q E r → wpAny (model C.prog C.w) A (t env) Q E s
def SE (e : Expr) : Prop := Runs C A fr (fun N ρ => evE Γ N ρ e) (fun env => eval e env) relV
def SEs (es : List Expr) : Prop := ∀ pos, Runs C A fr (fun N ρ => evEs Γ N ρ es) (fun env => spliced (backTo pos (starEach es env))) relL
def SOp (o : Option Expr) : Prop := Runs C A fr (fun N ρ => evO Γ N ρ o) (fun env => valueOrNone (evalOpt o env)) relV
def ST (e : Expr) : Prop := Runs C A fr (fun N ρ => evT Γ N ρ e (evE Γ N ρ e)) (fun env => isTrue e env (eval e env)) relB
def SA (op : BoolOp) (es : List Expr) : Prop := Runs C A fr (fun N ρ => evA Γ N ρ op es) (fun env => allTrue op es env) relB
def SB (op : BoolOp) (es : List Expr) : Prop := ∀ pos, Runs C A fr (fun N ρ => evB Γ N ρ op es) (fun env => boolOp pos op (evalEach es env)) relV
def SI (ifs : List Expr) : Prop := Runs C A fr (fun N ρ => evI Γ N ρ ifs) (fun env => forIn ifs true fun c r => if r = true then do let ok ← isTrue c env (eval c env); pure (ForInStep.yield ok) else pure (ForInStep.yield r)) relB
/-- a chain goes on behind its left side -/
def RunsAt {γ : Type} (es : List Expr) (ops : List CmpOp) (t : Env → Value → Sem γ) (rel : List Addr → Heap → γ → Bool → Prop) : Prop :=
  ∀ env N, EOK env N → ∀ (β : List Addr) (s : Shared) (σ : Store) (ρ : Vars) (a : PV) (v : Value) (r : R Bool) (Q : γ → Shared → Prop) (E : Value → Shared → Prop), evC Γ N ρ a ops es σ = some r → Inv C A fr β s.heap σ → VOK env N β s.heap ρ → VR β s.heap v a → Post C fr β s rel Q E r → wpAny (model C.prog C.w) A (t env v) Q E s
def SC (ops : List CmpOp) (es : List Expr) : Prop := ∀ pos, RunsAt C Γ A fr es ops (fun env v => compareChain pos v ops (markedEach ops es (evalEach es env))) relT ∧ RunsAt C Γ A fr es ops (fun env v => testChain pos v ops (markedEach ops es (evalEach es env))) relB
end

section
variable {C : Conf} {Γ : Ctx} {A : Around} {fr : List Env} {h : Heap}

theorem globNow {β : List Addr} {σ : Store} (I : Inv C A fr β h σ) : h.Ns mainGlobals C.mg := I.glob.at' fun o e => I.stays _ o e
theorem buiNow {β : List Addr} {σ : Store} (I : Inv C A fr β h σ) : h.Ns builtinsNs C.mb := I.bui.at' fun o e => I.stays _ o e

theorem sE_Constant (c : Const) (k : Nat) (p : Pos) : SE C Γ A fr (.Constant c k p) := fun env N G β s σ ρ r Q E e I V P => by
  dsimp only at e; rw [evE] at e
  obtain ⟨d, hd, rfl⟩ := lift_some e
  exact const_ok hd I P

theorem debug_ne {x : Str} (h : ¬ x = ("__debug__" : Str)) : (x == ("__debug__" : Str)) = false := by simpa using h

theorem glob_name {x : Str} {env : Env} {N : Names} (G : EOK env N) (hg : isGlob N x = true) : env.kindOf x = some .globalImplicit := by
  unfold isGlob at hg
  unfold Env.kindOf
  rw [G.names]
  exact beq_iff_eq.mp hg

/-- a name of the text's own globals -/
theorem name_glob {x : Str} {p : Pos} {env : Env} {N : Names} {β : List Addr} {s : Shared} {σ : Store} {v : Value} {Q : Value → Shared → Prop} {E : Value → Shared → Prop} (G : EOK env N) (I : Inv C A fr β s.heap σ) (hg : isGlob N x = true) (hd : ¬ x = ("__debug__" : Str)) (hv : C.mg x = some v)
    (h : Q v s) : wpAny (model C.prog C.w) A (eval (.Name x p) env) Q E s :=
  PySem.Calls.Name_function_global G.kind (glob_name G hg) (PySem.Calls.loadGlobal_global (G.glob ▸ globNow I) hv h) (debug_ne hd)
theorem name_builtin {x : Str} {p : Pos} {env : Env} {N : Names} {β : List Addr} {s : Shared} {σ : Store} {v : Value} {Q : Value → Shared → Prop} {E : Value → Shared → Prop} (G : EOK env N) (I : Inv C A fr β s.heap σ) (hg : isGlob N x = true) (hd : ¬ x = ("__debug__" : Str)) (hm : C.mg x = none) (hn : x ≠ "__name__") (hv : bootBuiltins x = some v)
    (h : Q v s) : wpAny (model C.prog C.w) A (eval (.Name x p) env) Q E s :=
  PySem.Calls.Name_function_global G.kind (glob_name G hg) (PySem.Calls.loadGlobal_builtin (G.glob ▸ globNow I) hm (G.bui ▸ buiNow I) (by rw [I.bfit x hn]; exact hv) h) (debug_ne hd)

theorem sE_Name (W : Snd C Γ A fr) (x : Str) (p : Pos) : SE C Γ A fr (.Name x p) := fun env N G β s σ ρ r Q E e I V P => by
  dsimp only at e; rw [evE] at e
  split at e
  · exact (fail_some e).elim
  rename_i hd
  split at e
  · rename_i hg
    obtain ⟨d, hd', rfl⟩ := lift_some e
    obtain ⟨v, hv, hr⟩ := W.const _ _ hd'
    exact name_glob G I hg hd hv (P.val (tk := s.toks) I.sr (hr _ _))
  · obtain ⟨d, hv, rfl⟩ := lift_some e
    have kn : env.kindOf x = N.lookup x := by unfold Env.kindOf; rw [G.names]
    unfold varOf at hv
    split at hv
    · rename_i hl
      obtain ⟨m, n, q⟩ := V.loc
      obtain ⟨v, hm, rv⟩ := q x d hl hv
      exact wpAny_Name (wpAny_loadName_local G.kind (kn.trans hl) n hm (P.val (tk := s.toks) I.sr rv)) (debug_ne hd)
    · rename_i hl
      obtain ⟨c, hc, ov, n, q⟩ := V.cel x hl
      obtain ⟨v, rfl, rv⟩ := q d hv
      exact wpAny_Name (wpAny_loadName_cell G.kind (kn.trans hl) hc n (P.val (tk := s.toks) I.sr rv)) (debug_ne hd)
    · cases hv

/-- one step, then the rest -/
theorem step {α γ δ ε : Type} {m : M α} {f : α → M δ} {t : Sem γ} {k : γ → Sem ε} {rel : List Addr → Heap → γ → α → Prop} {relr : List Addr → Heap → ε → δ → Prop} {β : List Addr} {s : Shared} {σ : Store} {r : R δ} {Q : ε → Shared → Prop} {E : Value → Shared → Prop}
    (e : (m >>= f) σ = some r) (I : Inv C A fr β s.heap σ) (P : Post C fr β s relr Q E r)
    (h1 : ∀ (r' : R α) (Q' : γ → Shared → Prop), m σ = some r' → Post C fr β s rel Q' E r' → wpAny (model C.prog C.w) A t Q' E s)
    (h2 : ∀ a σ₁ v β₁ h₁ tk, f a σ₁ = some r → Ext (frs fr) β s.heap β₁ h₁ → Inv C A fr β₁ h₁ σ₁ → rel β₁ h₁ v a → Post C fr β₁ { s with heap := h₁, toks := tk } relr Q E r → wpAny (model C.prog C.w) A (k v) Q E { s with heap := h₁, toks := tk }) :
    wpAny (model C.prog C.w) A (t >>= k) Q E s := by
  rcases bind_some e with ⟨a, σ₁, e1, e⟩ | ⟨k, σ₁, e1, rfl⟩
  · exact wpAny_bind (h1 _ _ e1 fun v β₁ h₁ tk x S ra => h2 a σ₁ v β₁ h₁ tk e x (I.next x S) ra (P.next x))
  · exact wpAny_bind (h1 _ _ e1 fun e β' h' tk f => P e β' h' tk f)

theorem sE_BinOp {l r : Expr} (op : Operator) (p : Pos) (h1 : SE C Γ A fr l) (h2 : SE C Γ A fr r) : SE C Γ A fr (.BinOp l op r p) := fun env N G β s σ ρ r Q E e I V P => by
  dsimp only at e; rw [evE] at e
  show wpAny _ _ (eval _ env) _ _ _
  rw [arm_eval_BinOp]
  refine step e I P (fun r' Q' e1 P1 => h1 env N G _ _ _ _ _ _ _ e1 I V P1) fun a σ₁ v β₁ h₁ tk e x I₁ ra P₁ => ?_
  refine step e I₁ P₁ (fun r' Q' e1 P1 => wpAny_holding (h2 env N G _ _ _ _ _ _ _ e1 I₁ (V.next I x) P1)) fun b σ₂ v2 β₂ h₂ tk2 e x2 I₂ rb P₂ => ?_
  exact wpAny_bind (wpAny_standAt (wpAny_operating (binop_ok e I₂ (I₁.mono x2 ra) rb P₂)))
end
end Mine

-- M9
namespace Mine
open PySem PySem.W PyProof.Rows
variable [Z : Inhabited Frozen]

section
variable {C : Conf} {Γ : Ctx} {A : Around} {fr : List Env} {h : Heap}

theorem sE_USub {x : Expr} (p : Pos) (h1 : SE C Γ A fr x) : SE C Γ A fr (.UnaryOp .USub x p) := fun env N G β s σ ρ r Q E e I V P => by
  dsimp only at e; rw [evE] at e
  show wpAny _ _ (eval _ env) _ _ _
  rw [arm_eval_UnaryOp]
  refine step e I P (fun r' Q' e1 P1 => h1 env N G _ _ _ _ _ _ _ e1 I V P1) fun a σ₁ v β₁ h₁ tk e x I₁ ra P₁ => ?_
  refine wpAny_bind (wpAny_standAt (wpAny_holding ?_))
  split at e
  · cases ra; cases pure_some e
    exact PySem.P.neg_int (P₁.val I₁.sr (.int _ _))
  · exact (fail_some e).elim
theorem sE_Not {x : Expr} (p : Pos) (h1 : SE C Γ A fr x) : SE C Γ A fr (.UnaryOp .Not x p) := fun env N G β s σ ρ r Q E e I V P => by
  dsimp only at e; rw [evE] at e
  show wpAny _ _ (eval _ env) _ _ _
  rw [arm_eval_UnaryOp]
  refine step e I P (fun r' Q' e1 P1 => h1 env N G _ _ _ _ _ _ _ e1 I V P1) fun a σ₁ v β₁ h₁ tk e x I₁ ra P₁ => ?_
  refine wpAny_bind (wpAny_standAt (wpAny_holding ?_))
  split at e
  · cases ra; cases pure_some e
    exact wpAny_holding (wpAny_bind (wpAny_truthy_bool (wpAny_pure (P₁.val (tk := tk) I₁.sr (.bool _)))))
  · exact (fail_some e).elim
theorem sE_IfExp {t b o : Expr} (p : Pos) (h1 : ST C Γ A fr t) (h2 : SE C Γ A fr b) (h3 : SE C Γ A fr o) : SE C Γ A fr (.IfExp t b o p) := fun env N G β s σ ρ r Q E e I V P => by
  dsimp only at e; rw [evE] at e
  show wpAny _ _ (eval _ env) _ _ _
  rw [arm_eval_IfExp]
  refine step (rel := relB) e I P (fun r' Q' e1 P1 => h1 env N G _ _ _ _ _ _ _ e1 I V P1) fun a σ₁ v β₁ h₁ tk e x I₁ ra P₁ => ?_
  cases ra
  split
  · rename_i hv; rw [if_pos hv] at e
    exact h2 env N G _ _ _ _ _ _ _ e I₁ (V.next I x) P₁
  · rename_i hv; rw [if_neg hv] at e
    exact h3 env N G _ _ _ _ _ _ _ e I₁ (V.next I x) P₁
theorem sE_BoolOp {op : BoolOp} {vs : List Expr} (p : Pos) (h1 : SB C Γ A fr op vs) : SE C Γ A fr (.BoolOp op vs p) := fun env N G β s σ ρ r Q E e I V P => by
  dsimp only at e; rw [evE] at e
  exact h1 p env N G _ _ _ _ _ _ _ e I V P
theorem sB_nil (op : BoolOp) : SB C Γ A fr op [] := fun p env N G β s σ ρ r Q E e I V P => by
  dsimp only at e; rw [evB] at e; exact (fail_some e).elim
theorem sB_one (op : BoolOp) {x : Expr} (h1 : SE C Γ A fr x) : SB C Γ A fr op [x] := fun p env N G β s σ ρ r Q E e I V P => by
  dsimp only at e; rw [evB] at e
  exact h1 env N G _ _ _ _ _ _ _ e I V P
theorem sB_cons (op : BoolOp) {x y : Expr} {xs : List Expr} (h1 : SE C Γ A fr x) (h2 : SB C Γ A fr op (y :: xs)) : SB C Γ A fr op (x :: y :: xs) := fun p env N G β s σ ρ r Q E e I V P => by
  dsimp only at e; rw [evB] at e
  show wpAny _ _ (eval x env >>= fun v => standAt p >>= fun _ => holding [v] (truthy v) >>= fun t => match op, t with
    | .And, false | .Or, true => pure v
    | _, _ => boolOp p op (evalEach (y :: xs) env)) _ _ _
  refine step e I P (fun r' Q' e1 P1 => h1 env N G _ _ _ _ _ _ _ e1 I V P1) fun a σ₁ v β₁ h₁ tk e x I₁ ra P₁ => ?_
  refine wpAny_bind (wpAny_standAt ?_)
  split at e
  · rename_i b
    cases ra
    refine wpAny_bind (wpAny_holding (wpAny_truthy_bool ?_))
    have go := h2 p env N G
    cases op <;> cases b <;> first
      | (cases pure_some e; exact wpAny_pure (P₁.val (tk := tk) I₁.sr (.bool _)))
      | exact go _ _ _ _ _ _ _ e I₁ (V.next I x) P₁
  · exact (fail_some e).elim

theorem sC_one (W : Snd C Γ A fr) (op : CmpOp) {x : Expr} (h1 : SE C Γ A fr x) : SC C Γ A fr [op] [x] := by
  have mk : ∀ env N (ρ : Vars) (σ : Store) r, evE Γ N ρ x σ = some r → markedEach [op] [x] (evalEach [x] env) = [eval x env] := by
    intro env N ρ σ r e
    show [markedBehindIn op x (eval x env)] = _
    have : behindInMarks op x = false := by
      unfold behindInMarks
      split
      · rw [evE] at e
        · exact (fail_some e).elim
        all_goals (intros; rename_i q; cases q)
      · rfl
    unfold markedBehindIn
    rw [this]
  have key : ∀ env N, EOK env N → ∀ (β : List Addr) (s : Shared) (σ : Store) (ρ : Vars) (a : PV) (v : Value) (r : R Bool) (Q : Value → Shared → Prop) (E : Value → Shared → Prop), evC Γ N ρ a [op] [x] σ = some r → Inv C A fr β s.heap σ → VOK env N β s.heap ρ → VR β s.heap v a → Post C fr β s relT Q E r →
      ∀ p, markedEach [op] [x] (evalEach [x] env) = [eval x env] ∧ wpAny (model C.prog C.w) A (holding [v] (eval x env) >>= fun rv => standAt p >>= fun _ => operate [v, rv] (compareOp op v rv)) Q E s := by
    intro env N G β s σ ρ a v r Q E e I V rv P p
    rw [evC] at e
    have hm : markedEach [op] [x] (evalEach [x] env) = [eval x env] := by
      rcases bind_some e with ⟨b, σ₁, e1, _⟩ | ⟨k, σ₁, e1, _⟩
      · exact mk env N ρ σ _ e1
      · exact mk env N ρ σ _ e1
    refine ⟨hm, ?_⟩
    refine step e I P (fun r' Q' e1 P1 => wpAny_holding (h1 env N G _ _ _ _ _ _ _ e1 I V P1)) fun b σ₁ v2 β₁ h₁ tk e x I₁ rb P₁ => ?_
    exact wpAny_bind (wpAny_standAt (wpAny_operating (cmpop_ok e I₁ W.budget (I.mono x rv) rb P₁)))
  intro p
  refine ⟨fun env N G β s σ ρ a v r Q E e I V rv P => ?_, fun env N G β s σ ρ a v r Q E e I V rv P => ?_⟩
  · obtain ⟨hm, q⟩ := key env N G β s σ ρ a v r Q E e I V rv P p
    dsimp only
    rw [hm]
    exact q
  · let Q' : Value → Shared → Prop := fun c s' => ∃ b, c = .bool b ∧ Q b s'
    have P' : Post C fr β s relT Q' E r := by
      cases r with
      | ok d σ' => exact fun c β' h' tk x S q => ⟨d, q, P d β' h' tk x S rfl⟩
      | exc k σ' => exact fun e β' h' tk f => P e β' h' tk f
    obtain ⟨hm, q⟩ := key env N G β s σ ρ a v r Q' E e I V rv P' p
    dsimp only
    rw [hm]
    show wpAny _ _ (holding [v] (eval x env) >>= fun rv => standAt p >>= fun _ => operate [v, rv] (compareOp op v rv) >>= fun c => holding [c] (truthy c)) _ _ _
    have := wpAny_bind (f := fun c => holding [c] (truthy c)) (wpAny_mono q (Q' := fun c s' => wpAny (model C.prog C.w) A (holding [c] (truthy c)) Q E s') (fun c s' hq => by
      obtain ⟨b, rfl, hb⟩ := hq
      exact wpAny_holding (wpAny_truthy_bool hb)) fun _ _ y => y)
    simpa only [bind_assoc] using this

end
end Mine

-- M10
namespace Mine
open PySem PySem.W PyProof.Rows
variable [Z : Inhabited Frozen]

section
variable {C : Conf} {Γ : Ctx} {A : Around} {fr : List Env} {h : Heap}

theorem sC_cons (W : Snd C Γ A fr) (op op2 : CmpOp) {ops : List CmpOp} {x : Expr} {ys : List Expr} (h1 : SE C Γ A fr x) (h2 : SC C Γ A fr (op2 :: ops) ys) : SC C Γ A fr (op :: op2 :: ops) (x :: ys) := by
  intro p
  refine ⟨fun env N G β s σ ρ a v r Q E e I V rv P => ?_, fun env N G β s σ ρ a v r Q E e I V rv P => ?_⟩ <;> rw [evC] at e <;> dsimp only
  · show wpAny _ _ (holding [v] (eval x env) >>= fun rv => standAt p >>= fun _ => holding [v, rv] (compareOp op v rv) >>= fun c => release [v, rv] [c] >>= fun _ => holding [c, rv] (truthy c) >>= fun t =>
      if t = true then compareChain p rv (op2 :: ops) (markedEach (op2 :: ops) ys (evalEach ys env)) else pure c) _ _ _
    refine step e I P (fun r' Q' e1 P1 => wpAny_holding (h1 env N G _ _ _ _ _ _ _ e1 I V P1)) fun b σ₁ v2 β₁ h₁ tk e x I₁ rb P₁ => ?_
    refine wpAny_bind (wpAny_standAt ?_)
    refine step (rel := relT) e I₁ P₁ (fun r' Q' e1 P1 => wpAny_holding (cmpop_ok e1 I₁ W.budget (I.mono x rv) rb P1)) fun c σ₂ w β₂ h₂ tk2 e x2 I₂ rc P₂ => ?_
    refine wpAny_bind (wpAny_release ?_)
    have rc' : w = .bool c := rc
    subst rc'
    refine wpAny_bind (wpAny_holding (wpAny_truthy_bool ?_))
    split
    · rename_i hc; rw [if_pos hc] at e
      exact (h2 p).1 env N G _ _ _ _ _ _ _ _ _ e I₂ ((V.next I x).next I₁ x2) (I₁.mono x2 rb) P₂
    · rename_i hc; rw [if_neg hc] at e
      cases pure_some e
      refine wpAny_pure (P₂.same (tk := tk2) I₂.sr ?_)
      simp at hc
      rw [hc]
  · show wpAny _ _ (holding [v] (eval x env) >>= fun rv => standAt p >>= fun _ => holding [v, rv] (compareOp op v rv) >>= fun c => release [v, rv] [c] >>= fun _ => holding [c, rv] (truthy c) >>= fun t =>
      if t = true then testChain p rv (op2 :: ops) (markedEach (op2 :: ops) ys (evalEach ys env)) else pure false) _ _ _
    refine step e I P (fun r' Q' e1 P1 => wpAny_holding (h1 env N G _ _ _ _ _ _ _ e1 I V P1)) fun b σ₁ v2 β₁ h₁ tk e x I₁ rb P₁ => ?_
    refine wpAny_bind (wpAny_standAt ?_)
    refine step (rel := relT) e I₁ P₁ (fun r' Q' e1 P1 => wpAny_holding (cmpop_ok e1 I₁ W.budget (I.mono x rv) rb P1)) fun c σ₂ w β₂ h₂ tk2 e x2 I₂ rc P₂ => ?_
    refine wpAny_bind (wpAny_release ?_)
    have rc' : w = .bool c := rc
    subst rc'
    refine wpAny_bind (wpAny_holding (wpAny_truthy_bool ?_))
    split
    · rename_i hc; rw [if_pos hc] at e
      exact (h2 p).2 env N G _ _ _ _ _ _ _ _ _ e I₂ ((V.next I x).next I₁ x2) (I₁.mono x2 rb) P₂
    · rename_i hc; rw [if_neg hc] at e
      cases pure_some e
      exact wpAny_pure (P₂.same (rel := relB) (tk := tk2) I₂.sr rfl)
theorem sC_bad {ops : List CmpOp} {es : List Expr} (h : ∀ (N : Names) (ρ : Vars) a, evC Γ N ρ a ops es = M.fail) : SC C Γ A fr ops es := by
  intro p
  refine ⟨fun env N G β s σ ρ a v r Q E e I V rv P => ?_, fun env N G β s σ ρ a v r Q E e I V rv P => ?_⟩ <;> rw [h] at e <;> exact (fail_some e).elim

theorem sE_Compare {l : Expr} {ops : List CmpOp} {rs : List Expr} (p : Pos) (h1 : SE C Γ A fr l) (h2 : SC C Γ A fr ops rs) : SE C Γ A fr (.Compare l ops rs p) := fun env N G β s σ ρ r Q E e I V P => by
  dsimp only at e; rw [evE] at e
  show wpAny _ _ (eval l env >>= fun v => compareChain p v ops (markedEach ops rs (evalEach rs env))) _ _ _
  refine step e I P (fun r' Q' e1 P1 => h1 env N G _ _ _ _ _ _ _ e1 I V P1) fun a σ₁ v β₁ h₁ tk e x I₁ ra P₁ => ?_
  rcases bind_some e with ⟨b, σ₂, e1, e⟩ | ⟨k, σ₂, e1, rfl⟩
  · cases pure_some e
    exact (h2 p).1 env N G _ _ _ _ _ _ _ _ _ e1 I₁ (V.next I x) ra fun c β' h' tk' y S hc => by
      have hc' : c = .bool b := hc
      subst hc'
      exact P₁ _ β' h' tk' y S (.bool _)
  · exact (h2 p).1 env N G _ _ _ _ _ _ _ _ _ e1 I₁ (V.next I x) ra fun e β' h' tk f => P₁ e β' h' tk f
theorem sT_Compare {l : Expr} {ops : List CmpOp} {rs : List Expr} (p : Pos) (h1 : SE C Γ A fr l) (h2 : SC C Γ A fr ops rs) : ST C Γ A fr (.Compare l ops rs p) := fun env N G β s σ ρ r Q E e I V P => by
  dsimp only at e; rw [evT] at e
  show wpAny _ _ (eval l env >>= fun v => testChain p v ops (markedEach ops rs (evalEach rs env))) _ _ _
  refine step e I P (fun r' Q' e1 P1 => h1 env N G _ _ _ _ _ _ _ e1 I V P1) fun a σ₁ v β₁ h₁ tk e x I₁ ra P₁ => ?_
  exact (h2 p).2 env N G _ _ _ _ _ _ _ _ _ e I₁ (V.next I x) ra P₁
theorem sT_Not {x : Expr} (p : Pos) (h1 : ST C Γ A fr x) : ST C Γ A fr (.UnaryOp .Not x p) := fun env N G β s σ ρ r Q E e I V P => by
  dsimp only at e; rw [evT] at e
  show wpAny _ _ (isTrue x env (eval x env) >>= fun b => pure (!b)) _ _ _
  refine step (rel := relB) e I P (fun r' Q' e1 P1 => h1 env N G _ _ _ _ _ _ _ e1 I V P1) fun a σ₁ v β₁ h₁ tk e x I₁ ra P₁ => ?_
  have ra' : v = a := ra
  subst ra'
  cases pure_some e
  exact wpAny_pure (P₁.same (rel := relB) (tk := tk) I₁.sr rfl)
theorem sT_BoolOp {op : BoolOp} {vs : List Expr} (p : Pos) (h1 : SA C Γ A fr op vs) : ST C Γ A fr (.BoolOp op vs p) := fun env N G β s σ ρ r Q E e I V P => by
  dsimp only at e; rw [evT] at e
  exact h1 env N G _ _ _ _ _ _ _ e I V P
theorem sT_plain {x : Expr} (h1 : SE C Γ A fr x) (he : ∀ (N : Names) (ρ : Vars) w, evT Γ N ρ x w = w >>= fun v => match v with | .bool b => pure b | _ => M.fail)
    (ht : ∀ env w, isTrue x env w = w >>= fun v => standAt x.pos >>= fun _ => holding [v] (truthy v)) : ST C Γ A fr x := fun env N G β s σ ρ r Q E e I V P => by
  dsimp only at e ⊢; rw [he] at e; rw [ht]
  refine step e I P (fun r' Q' e1 P1 => h1 env N G _ _ _ _ _ _ _ e1 I V P1) fun a σ₁ v β₁ h₁ tk e x I₁ ra P₁ => ?_
  refine wpAny_bind (wpAny_standAt (wpAny_holding ?_))
  split at e
  · cases ra
    cases pure_some e
    exact wpAny_truthy_bool (P₁.same (rel := relB) (tk := tk) I₁.sr rfl)
  · exact (fail_some e).elim
theorem sT_IfExp {t b o : Expr} (p : Pos) : ST C Γ A fr (.IfExp t b o p) := fun env N G β s σ ρ r Q E e I V P => by
  dsimp only at e; rw [evT] at e; exact (fail_some e).elim
theorem sA_nil (op : BoolOp) : SA C Γ A fr op [] := fun env N G β s σ ρ r Q E e I V P => by
  dsimp only at e; rw [evA] at e
  cases pure_some e
  exact wpAny_pure (P.same (rel := relB) (tk := s.toks) I.sr rfl)
theorem sA_cons (op : BoolOp) {x : Expr} {xs : List Expr} (h1 : ST C Γ A fr x) (h2 : SA C Γ A fr op xs) : SA C Γ A fr op (x :: xs) := fun env N G β s σ ρ r Q E e I V P => by
  dsimp only at e; rw [evA] at e
  show wpAny _ _ (isTrue x env (eval x env) >>= fun b => match op, b with
    | .And, false => pure false
    | .Or, true => pure true
    | _, _ => allTrue op xs env) _ _ _
  refine step (rel := relB) e I P (fun r' Q' e1 P1 => h1 env N G _ _ _ _ _ _ _ e1 I V P1) fun a σ₁ v β₁ h₁ tk e x I₁ ra P₁ => ?_
  have ra' : v = a := ra
  subst ra'
  have go := h2 env N G
  cases op <;> cases v <;> first
    | (cases pure_some e; exact wpAny_pure (P₁.same (rel := relB) (tk := tk) I₁.sr rfl))
    | exact go _ _ _ _ _ _ _ e I₁ (V.next I x) P₁
theorem sI_nil : SI C Γ A fr [] := fun env N G β s σ ρ r Q E e I V P => by
  dsimp only at e; rw [evI] at e
  cases pure_some e
  exact wpAny_tests_nil (P.same (rel := relB) (tk := s.toks) I.sr rfl)
theorem sI_one {x : Expr} (h1 : ST C Γ A fr x) : SI C Γ A fr [x] := fun env N G β s σ ρ r Q E e I V P => by
  dsimp only at e; rw [evI] at e
  exact wpAny_tests_one (h1 env N G _ _ _ _ _ _ _ e I V P)
theorem sI_more {x y : Expr} {xs : List Expr} : SI C Γ A fr (x :: y :: xs) := fun env N G β s σ ρ r Q E e I V P => by
  dsimp only at e; rw [evI] at e; exact (fail_some e).elim
  all_goals (intros; rename_i q; cases q)

theorem sEs_nil : SEs C Γ A fr [] := fun pos env N G β s σ ρ r Q E e I V P => by
  dsimp only at e; rw [evEs] at e
  cases pure_some e
  exact wpAny_pure (P.same (tk := s.toks) I.sr .nil)
theorem sEs_cons {x : Expr} {xs : List Expr} (hx : ∀ y q, x ≠ .Starred y q) (h1 : SE C Γ A fr x) (h2 : SEs C Γ A fr xs) : SEs C Γ A fr (x :: xs) := fun pos env N G β s σ ρ r Q E e I V P => by
  dsimp only at e
  rw [evEs] at e
  rotate_left
  · intro a b q; exact hx a b q
  have hst : starEach (x :: xs) env = (false, eval x env) :: starEach xs env := by
    cases x <;> first | rfl | exact absurd rfl (hx _ _)
  show wpAny _ _ (spliced (backTo pos (starEach (x :: xs) env))) _ _ _
  rw [hst]
  show wpAny _ _ (spliced ((false, eval x env) :: backTo pos (starEach xs env))) _ _ _
  refine PySem.Calls.spliced_cons ?_
  rcases bind_some e with ⟨a, σ₁, e1, e⟩ | ⟨k, σ₁, e1, rfl⟩
  · refine h1 env N G _ _ _ _ _ _ _ e1 I V fun v β₁ h₁ tk x S ra => ?_
    have I₁ := I.next x S
    have P₁ := P.next (tk := tk) x
    rcases bind_some e with ⟨b, σ₂, e2, e⟩ | ⟨k, σ₁, e1, rfl⟩
    · cases pure_some e
      exact h2 pos env N G _ _ _ _ _ _ _ e2 I₁ (V.next I x) fun vs β₂ h₂ tk x₂ S₂ rb => P₁ _ _ _ _ x₂ S₂ (.cons (I₁.mono x₂ ra) rb)
    · exact h2 pos env N G _ _ _ _ _ _ _ e1 I₁ (V.next I x) fun e β' h' tk f => P₁ e β' h' tk f
  · exact h1 env N G _ _ _ _ _ _ _ e1 I V fun e β' h' tk f => P e β' h' tk f

theorem size_fit {vs : List Value} {ds : List PV} {β : List Addr} {h : Heap} (q : VRs β h vs ds) (hm : small ds.length = true) : sizeOk (.seq vs.toArray) := by
  show vs.toArray.size ≤ sizeLine
  have := small_le hm
  have t3 := sizeLine_ge
  have := q.length
  simp; omega

theorem sE_Tuple {es : List Expr} (k : Nat) (p : Pos) (h1 : SEs C Γ A fr es) : SE C Γ A fr (.Tuple es k p) := fun env N G β s σ ρ r Q E e I V P => by
  dsimp only at e; rw [evE] at e
  show wpAny _ _ (eval _ env) _ _ _
  rw [arm_eval_Tuple]
  refine wpAny_bind (wpAny_standAt ?_)
  refine step e I P (fun r' Q' e1 P1 => h1 p env N G _ _ _ _ _ _ _ e1 I V P1) fun a σ₁ v β₁ h₁ tk e x I₁ ra P₁ => ?_
  split at e
  · rename_i hm
    cases pure_some e
    exact wpAny_newObj_type (P₁.tup (tk := tk) I₁ ra) (size_fit ra hm)
  · exact (fail_some e).elim
theorem sE_List {es : List Expr} (p : Pos) (h1 : SEs C Γ A fr es) : SE C Γ A fr (.List es p) := fun env N G β s σ ρ r Q E e I V P => by
  dsimp only at e; rw [evE] at e
  show wpAny _ _ (eval _ env) _ _ _
  rw [arm_eval_List]
  refine wpAny_bind (wpAny_standAt ?_)
  refine step e I P (fun r' Q' e1 P1 => h1 p env N G _ _ _ _ _ _ _ e1 I V P1) fun a σ₁ v β₁ h₁ tk e x I₁ ra P₁ => ?_
  split at e
  · rename_i hm
    unfold newCell at e
    cases e
    exact wpAny_newObj_type (P₁.alloc (tk := tk) I₁ ra) (size_fit ra hm)
  · exact (fail_some e).elim
theorem sO_none : SOp C Γ A fr none := fun env N G β s σ ρ r Q E e I V P => by
  dsimp only at e; rw [evO] at e
  cases pure_some e
  exact wpAny_pure (P.val (tk := s.toks) I.sr .none)
theorem sO_some {x : Expr} (h1 : SE C Γ A fr x) : SOp C Γ A fr (some x) := fun env N G β s σ ρ r Q E e I V P => by
  dsimp only at e; rw [evO] at e
  exact h1 env N G _ _ _ _ _ _ _ e I V P

end
end Mine

-- M11
namespace Mine
open PySem PySem.W PyProof.Rows
variable [Z : Inhabited Frozen]

section
variable {C : Conf} {Γ : Ctx} {A : Around} {fr : List Env} {h : Heap}

/-- a value with items -/
def SeqV (v : PV) (σ : Store) : Prop := match v with
  | .tup _ => True
  | .str _ => True
  | .ref n => ∃ ds, σ[n]? = some (.list ds)
  | .old _ => True
  | _ => False

theorem item_seq {o k : PV} {σ : Store} {r : R PV} (e : item o k σ = some r) : SeqV o σ := by
  unfold item at e
  split at e
  · trivial
  · trivial
  · rcases bind_some e with ⟨xs, σ₁, e1, e⟩ | ⟨k, σ₁, e1, _⟩
    · obtain ⟨xs', hx, q⟩ := getList_some e1
      exact ⟨_, hx⟩
    · obtain ⟨_, _, q⟩ := getList_some e1; cases q
  · exact (fail_some e).elim
theorem slice_seq {o a b : PV} {σ : Store} {r : R PV} (e : slice o a b σ = some r) : SeqV o σ := by
  unfold slice at e
  rcases bind_some e with ⟨a, σ₁, e1, e⟩ | ⟨k, σ₁, e1, _⟩
  rotate_left
  · obtain ⟨_, _, q⟩ := lift_some e1; cases q
  obtain ⟨a', ha, q⟩ := lift_some e1
  cases q
  rcases bind_some e with ⟨b, σ₁, e2, e⟩ | ⟨k, σ₁, e2, _⟩
  rotate_left
  · obtain ⟨_, _, q⟩ := lift_some e2; cases q
  obtain ⟨b', hb, q⟩ := lift_some e2
  cases q
  split at e
  · trivial
  · trivial
  · rcases bind_some e with ⟨xs, σ₁, e1, e⟩ | ⟨k, σ₁, e1, _⟩
    · obtain ⟨xs', hx, q⟩ := getList_some e1
      exact ⟨_, hx⟩
    · obtain ⟨_, _, q⟩ := getList_some e1; cases q
  · trivial
  · exact (fail_some e).elim

theorem getit_ok {v : PV} {o : Value} {β : List Addr} {s : Shared} {σ : Store} {Q : Bool → Shared → Prop} {E : Value → Shared → Prop} (sv : SeqV v σ) (I : Inv C A fr β s.heap σ) (r : VR β s.heap o v) (hq : Q false s) :
    wpAny (model C.prog C.w) A (getitemInPython o) Q E s := by
  have key : ∀ T id, s.TypeIs o T → Slot T (Str.ofString "__getitem__") id → o ≠ .builtin "sys.modules#opaque" → wpAny (model C.prog C.w) A (getitemInPython o) Q E s := by
    intro T id hT sl hne
    rw [getitemInPython_of_ne hne]
    exact wpAny_bind (wpAny_specialOf (name := Str.ofString "__getitem__") hT sl.lookup (wpAny_pure hq))
  unfold SeqV at sv
  split at sv
  · cases r with
    | tup l q => exact key "tuple" _ ⟨_, l, rfl⟩ slot_tuple_getitem (by simp)
  · cases r with
    | str x t => exact key "str" _ (typeIs_str s _ t) PySem.F.slot_str_getitem (by simp)
  · obtain ⟨ds, hds⟩ := sv
    obtain ⟨a1, vs, m1, rfl, h1, l1, q1⟩ := list_of I.sr r hds
    exact key "list" _ ⟨_, l1, rfl⟩ PySem.F.slot_list_getitem (by simp)
  · cases r with
    | old =>
      obtain ⟨vs, ⟨o1, l1, c1, d1⟩, q1⟩ := I.old
      exact key "list" _ ⟨o1, I.stays _ _ l1, c1⟩ PySem.F.slot_list_getitem (by simp)
  · exact sv.elim

theorem sE_item {v i : Expr} (p : Pos) (hi : ∀ lo hi q, i ≠ .Slice lo hi none q) (h1 : SE C Γ A fr v) (h2 : SE C Γ A fr i) : SE C Γ A fr (.Subscript v i p) := fun env N G β s σ ρ r Q E e I V P => by
  dsimp only at e; rw [evE] at e
  rotate_left
  · intro a b c q; exact hi a b c q
  show wpAny _ _ (eval _ env) _ _ _
  rw [PySem.eval_Subscript]
  refine step e I P (fun r' Q' e1 P1 => h1 env N G _ _ _ _ _ _ _ e1 I V P1) fun a σ₁ o β₁ h₁ tk e x I₁ ra P₁ => ?_
  refine step e I₁ P₁ (fun r' Q' e1 P1 => wpAny_holding (h2 env N G _ _ _ _ _ _ _ e1 I₁ (V.next I x) P1)) fun b σ₂ k β₂ h₂ tk2 e x2 I₂ rb P₂ => ?_
  have sub : ∀ o k, subscripted i false o k = operate [o, k] (getItem o k) := by
    intro o k
    cases i with
    | Slice a b c d =>
      cases c with
      | none => exact absurd rfl (hi _ _ _)
      | some c => rfl
    | _ => rfl
  refine wpAny_bind (wpAny_standAt (wpAny_bind (getit_ok (item_seq e) I₂ (I₁.mono x2 ra) ?_)))
  rw [sub]
  refine wpAny_bind (wpAny_operating (item_ok e I₂ (I₁.mono x2 ra) rb ?_))
  cases r with
  | ok d σ' => exact fun v β' h' tk' y S q => wpAny_bind (wpAny_letTemporaryGo (wpAny_pure (P₂ v β' h' tk' y S q)))
  | exc k σ' => exact fun e β' h' tk f => P₂ e β' h' tk f

theorem sE_slice {v : Expr} {lo hi : Option Expr} (p q : Pos) (h1 : SE C Γ A fr v) (h2 : SOp C Γ A fr lo) (h3 : SOp C Γ A fr hi) : SE C Γ A fr (.Subscript v (.Slice lo hi none q) p) := fun env N G β s σ ρ r Q E e I V P => by
  dsimp only at e; rw [evE] at e
  show wpAny _ _ (eval _ env) _ _ _
  rw [PySem.eval_Subscript]
  refine step e I P (fun r' Q' e1 P1 => h1 env N G _ _ _ _ _ _ _ e1 I V P1) fun a σ₁ o β₁ h₁ tk e x I₁ ra P₁ => ?_
  rw [arm_eval_Slice]
  refine wpAny_bind (wpAny_holding (wpAny_bind ?_))
  rcases bind_some e with ⟨b, σ₂, e1, e⟩ | ⟨k, σ₂, e1, rfl⟩
  rotate_left
  · exact h2 env N G _ _ _ _ _ _ _ e1 I₁ (V.next I x) fun e β' h' tk f => P₁ e β' h' tk f
  refine h2 env N G _ _ _ _ _ _ _ e1 I₁ (V.next I x) fun vl β₂ h₂ tk2 x2 S₂ rb => ?_
  have I₂ := I₁.next x2 S₂
  have P₂ := P₁.next (tk := tk2) x2
  refine wpAny_bind ?_
  rcases bind_some e with ⟨c, σ₃, e1, e⟩ | ⟨k, σ₃, e1, rfl⟩
  rotate_left
  · exact wpAny_holding (h3 env N G _ _ _ _ _ _ _ e1 I₂ ((V.next I x).next I₁ x2) fun e β' h' tk f => P₂ e β' h' tk f)
  refine wpAny_holding (h3 env N G _ _ _ _ _ _ _ e1 I₂ ((V.next I x).next I₁ x2) fun vu β₃ h₃ tk3 x3 S₃ rc => ?_)
  have I₃ := I₂.next x3 S₃
  have P₃ := P₂.next (tk := tk3) x3
  refine wpAny_bind (wpAny_holding (wpAny_pure ?_))
  refine wpAny_newObj_type (hd := by size_fits) ?_
  have ho := I₂.mono x3 (I₁.mono x2 ra)
  have hl := I₂.mono x3 rb
  have xp : Ext (frs fr) β₃ h₃ β₃ (h₃.push { cls := .type "slice", dict := none, data := .fields [vl, vu, .none].toArray }) := .push _
  have Sp : SR β₃ (h₃.push { cls := .type "slice", dict := none, data := .fields [vl, vu, .none].toArray }) σ₃ := I₃.sr.keeps I₃.fns fun a o e _ => Heap.get?_push_of_some _ e
  have I₄ := I₃.next xp Sp
  have P₄ := P₃.next (tk := tk3) xp
  refine wpAny_bind (wpAny_standAt (wpAny_bind (getit_ok (slice_seq e) I₄ (I₃.mono xp ho) ?_)))
  show wpAny _ _ (operate [.ref h₃.objs.size, o] (getItem o (.ref h₃.objs.size)) >>= _) _ _ _
  refine wpAny_bind (wpAny_operating (slice_ok e I₄ ⟨_, Heap.get?_push_size _ rfl, rfl, rfl⟩ (I₃.mono xp ho) (I₃.mono xp hl) (I₃.mono xp rc) ?_))
  cases r with
  | ok d σ' => exact fun v β' h' tk' y S q => wpAny_bind (wpAny_letTemporaryGo (wpAny_pure (P₄ v β' h' tk' y S q)))
  | exc k σ' => exact fun e β' h' tk f => P₄ e β' h' tk f

theorem plain_any {args : List Expr} (hp : plainArgs args = true) (pos : Pos) (env : Env) : (backTo pos (starEach args env)).any (·.1) = false := by
  unfold plainArgs at hp
  rw [Bool.and_eq_true] at hp
  have h2 := hp.2
  clear hp
  induction args with
  | nil => rfl
  | cons e r ih =>
    rw [List.all_cons, Bool.and_eq_true] at h2
    have := ih h2.2
    have hs : starEach (e :: r) env = (false, eval e env) :: starEach r env := by
      cases e <;> first | rfl | (have := h2.1; simp at this)
    rw [hs]
    show (false || (backTo pos (starEach r env)).any (·.1)) = false
    rw [this]; rfl
theorem evalArgs_all {f : Value} {args : List Expr} {env : Env} {pos : Pos} {s : Shared} {Q : Args → Shared → Prop} {E : Value → Shared → Prop} {M : Model} (hp : plainArgs args = true)
    (h : wpAny M A (spliced (backTo pos (starEach args env))) (fun vs s' => Q ⟨vs, []⟩ s') E s) : wpAny M A (evalArgs f true (backTo pos (starEach args env)) []) Q E s := by
  have ha := plain_any hp pos env
  cases hl : backTo pos (starEach args env) with
  | nil =>
    rw [hl] at h
    unfold evalArgs
    show wpAny M A (spliced [] >>= _) Q E s
    refine wpAny_bind (wpAny_mono h (fun vs s' h' => ?_) fun _ _ x => x)
    refine wpAny_holding ?_
    exact wpAny_bind (wpAny_pure (wpAny_bind (wpAny_pure (wpAny_pure h'))))
  | cons x rest =>
    obtain ⟨b, t⟩ := x
    rw [hl] at h ha
    cases b with
    | false => exact PySem.Calls.evalArgs_plain h
    | true => simp at ha

theorem bname_val {f : Str} (hf : f ∈ bnames) : ∃ v, bootBuiltins f = some v ∧ isCallee v ∧ f ≠ "__name__" := by
  unfold bnames at hf
  simp only [List.mem_cons, List.not_mem_nil, or_false] at hf
  rcases hf with rfl | rfl | rfl | rfl | rfl | rfl | rfl
  · exact ⟨.builtin "len", by kernel_rfl, trivial, by decide⟩
  · exact ⟨.type "int", by kernel_rfl, trivial, by decide⟩
  · exact ⟨.type "str", by kernel_rfl, trivial, by decide⟩
  · exact ⟨.type "tuple", by kernel_rfl, trivial, by decide⟩
  · exact ⟨.type "range", by kernel_rfl, trivial, by decide⟩
  · exact ⟨.builtin "max", by kernel_rfl, trivial, by decide⟩
  · exact ⟨.builtin "isinstance", by kernel_rfl, trivial, by decide⟩

theorem callWith_callee {v : Value} {args : List Expr} {env : Env} {pos : Pos} {s : Shared} {Q : Value → Shared → Prop} {E : Value → Shared → Prop} (hv : isCallee v) (hp : plainArgs args = true)
    (h : wpAny (model C.prog C.w) A (spliced (backTo pos (starEach args env))) (fun vs s' => wpAny (model C.prog C.w) A (call v vs) Q E s') E s) : wpAny (model C.prog C.w) A (callWith pos v [] (backTo pos (starEach args env)) []) Q E s := by
  cases v <;> first | exact hv.elim | exact PySem.Calls.callWith_builtin (plain_any hp pos env) (evalArgs_all hp h) | exact PySem.callWith_type (plain_any hp pos env) (evalArgs_all hp h)

theorem sE_isinstance (W : Snd C Γ A fr) {x : Expr} {t : Str} (fp tp p : Pos) {N : Names} {env : Env} (h1 : SE C Γ A fr x) (hx : plainArgs [x, .Name t tp] = true) (ht : t = ("tuple" : Str)) (hg1 : isGlob N ("isinstance" : Str) = true) (hd1 : Γ.isDef ("isinstance" : Str) = false) (hg : isGlob N t = true) (hd : Γ.isDef t = false)
    (G : EOK env N) {β : List Addr} {s : Shared} {σ : Store} {ρ : Vars} {r : R PV} {Q : Value → Shared → Prop} {E : Value → Shared → Prop}
    (e : (evE Γ N ρ x >>= fun v => match v with | .tup _ => pure (.bool true) | .str _ => pure (.bool false) | .int _ => pure (.bool false) | _ => M.fail) σ = some r) (I : Inv C A fr β s.heap σ) (V : VOK env N β s.heap ρ) (P : Post C fr β s relV Q E r) :
    wpAny (model C.prog C.w) A (eval (.Call (.Name ("isinstance" : Str) fp) [x, .Name t tp] [] p) env) Q E s := by
  subst ht
  refine wpAny_Call_NameR (name_builtin (v := .builtin "isinstance") G I hg1 (by decide) (W.undef _ (by decide) hd1) (by decide) (by kernel_rfl) ?_)
  refine callWith_callee trivial hx ?_
  have hst : starEach [x, .Name ("tuple" : Str) tp] env = (false, eval x env) :: starEach [.Name ("tuple" : Str) tp] env := by
    unfold plainArgs at hx
    cases x <;> first | rfl | simp at hx
  rw [hst]
  show wpAny _ _ (spliced ((false, eval x env) :: [(false, eval (.Name ("tuple" : Str) tp) env)])) _ _ _
  refine PySem.Calls.spliced_cons ?_
  rcases bind_some e with ⟨a, σ₁, e1, e⟩ | ⟨k, σ₁, e1, rfl⟩
  · refine h1 env N G _ _ _ _ _ _ _ e1 I V fun v β₁ h₁ tk x S ra => ?_
    have I₁ := I.next x S
    have P₁ := P.next (tk := tk) x
    refine PySem.Calls.spliced_cons (name_builtin (v := .type "tuple") G I₁ hg (by decide) (W.undef _ (by decide) hd) (by decide) (by kernel_rfl) (PySem.Calls.spliced_nil ?_))
    split at e
    · cases pure_some e
      cases ra with
      | tup l q => exact PySem.IsiPair.isTuple_tuple (isTuple_at l) (fun _ _ e => e) (P₁.val (tk := tk) I₁.sr (.bool _))
    · cases pure_some e
      cases ra
      exact PySem.IsiPair.str_tuple (P₁.val I₁.sr (.bool _))
    · cases pure_some e
      cases ra
      exact PySem.IsiPair.int_tuple (P₁.val I₁.sr (.bool _))
    · exact (fail_some e).elim
  · exact h1 env N G _ _ _ _ _ _ _ e1 I V fun e β' h' tk f => P e β' h' tk f

theorem inK_now {β : List Addr} {σ : Store} (I : Inv C A fr β h σ) : C.K.In h := fun a o e => I.stays a o (I.inK a o e)

theorem sE_Call (W : Snd C Γ A fr) {f : Str} {args : List Expr} (fp p : Pos) (h1 : SEs C Γ A fr args) (h2 : ∀ x t q, args = [x, .Name t q] → SE C Γ A fr x) : SE C Γ A fr (.Call (.Name f fp) args [] p) := fun env N G β s σ ρ r Q E e I V P => by
  dsimp only at e; rw [evE.eq_def] at e; dsimp only at e
  show wpAny _ _ (eval _ env) _ _ _
  split at e
  · rename_i hf
    obtain ⟨rfl, hg1, hd1⟩ := hf
    split at e
    · rename_i x t tp
      split at e
      · rename_i ht
        obtain ⟨ht, hg, hd⟩ := ht
        by_cases hx : plainArgs [x, .Name t tp] = true
        · exact sE_isinstance W fp tp p (h2 x t tp rfl) hx ht hg1 hd1 hg hd G e I V P
        · exfalso
          unfold plainArgs at hx
          cases x <;> simp at hx
          rw [evE] at e
          · rcases bind_some e with ⟨a, σ₁, e1, e⟩ | ⟨k, σ₁, e1, rfl⟩ <;> exact (fail_some e1).elim
          all_goals (intros; rename_i q; cases q)
      · exact (fail_some e).elim
    · exact (fail_some e).elim
  split at e
  · rename_i hc
    obtain ⟨hg, hdbg, hp⟩ := hc
    split at e
    · rename_i hd
      obtain ⟨a, ha, hk⟩ := W.defs f hd
      refine wpAny_Call_NameR (name_glob G I hg hdbg ha ?_)
      have hkk : keepIn C.K (.ref a) = true := by
        unfold fnIn at hk
        unfold keepIn
        split at hk
        · rename_i q; simp only [q]
        · cases hk
      refine callWith_of (P := C.K.In) (by rw [plain_any hp p env]; rfl) (keeps_K hkk) (evalArgs_all hp ?_)
      rcases bind_some e with ⟨ds, σ₁, e1, e⟩ | ⟨k, σ₁, e1, rfl⟩
      · refine h1 p env N G _ _ _ _ _ _ _ e1 I V fun vs β₁ h₁ tk x S ra => ?_
        have I₁ := I.next x S
        refine ⟨inK_now I₁, ?_⟩
        exact W.call f ds σ₁ r hd e β₁ _ _ Q E a ha I₁ ra (P.next x)
      · exact h1 p env N G _ _ _ _ _ _ _ e1 I V fun e β' h' tk f => P e β' h' tk f
    · rename_i hd
      split at e
      · rename_i hb
        obtain ⟨v, hv, hcal, hn⟩ := bname_val hb
        refine wpAny_Call_NameR (name_builtin G I hg hdbg (W.undef f hb (by simpa using hd)) hn hv ?_)
        refine callWith_callee hcal hp ?_
        rcases bind_some e with ⟨ds, σ₁, e1, e⟩ | ⟨k, σ₁, e1, rfl⟩
        · refine h1 p env N G _ _ _ _ _ _ _ e1 I V fun vs β₁ h₁ tk x S ra => ?_
          have I₁ := I.next x S
          obtain ⟨v', hv', _, q⟩ := callBuiltin_ok e I₁ ra (P.next (tk := tk) x)
          rw [hv] at hv'; cases hv'
          exact q
        · exact h1 p env N G _ _ _ _ _ _ _ e1 I V fun e β' h' tk f => P e β' h' tk f
      · exact (fail_some e).elim
  · exact (fail_some e).elim
end
end Mine

-- M12
namespace Mine
open PySem PySem.W PyProof.Rows
variable [Z : Inhabited Frozen]

section
variable {C : Conf} {Γ : Ctx} {A : Around} {fr : List Env} {h : Heap}

/-! ## methods -/
def methodId (m : Str) : String := if m = "append" then "list.append" else if m = "extend" then "list.extend" else if m = "pop" then "list.pop" else "list.index"

theorem knows_ok {m : Str} {o : PV} {vo : Value} {β : List Addr} {s : Shared} {σ : Store} {r : R PUnit} (e : knows m o σ = some r) (I : Inv C A fr β s.heap σ) (ro : VR β s.heap vo o) :
    r = .ok ⟨⟩ σ ∧ ∀ pl (Q : Value × List Value → Shared → Prop) E, Q (.builtin (methodId m), [vo]) s → wpAny (model C.prog C.w) A (getMethod vo m pl) Q E s := by
  unfold knows at e
  split at e
  · rename_i n
    split at e
    · rename_i ds hds
      split at e
      · rename_i hm
        cases e
        obtain ⟨a1, vs, m1, rfl, h1, l1, q1⟩ := list_of I.sr ro hds
        refine ⟨rfl, fun pl Q E hq => ?_⟩
        have hT : s.TypeIs (.ref a1) "list" := ⟨_, l1, rfl⟩
        have hd : ∀ a, Value.ref a1 = .ref a → ∃ o, s.heap.get? a = some o ∧ o.dict = none := fun a q => by cases q; exact ⟨_, l1, rfl⟩
        rcases hm with rfl | rfl | rfl | rfl
        · exact getMethod_builtin hT PySem.F.plainAttrs_list PySem.F.slot_list_append PySem.F.type_list_append hd hq
        · exact getMethod_builtin hT PySem.F.plainAttrs_list PySem.F.slot_list_extend PySem.F.type_list_extend hd hq
        · exact getMethod_builtin hT PySem.F.plainAttrs_list PySem.F.slot_list_pop PySem.F.type_list_pop hd hq
        · exact getMethod_builtin hT PySem.F.plainAttrs_list PySem.F.slot_list_index PySem.F.type_list_index hd hq
      · cases e
    · cases e
  · cases e

theorem Post.turn {β : List Addr} {s : Shared} {σ : Store} {Q : Value → Shared → Prop} {E : Value → Shared → Prop} {d : PV} {v : Value} {n : Nat} {a : Addr} {f : Array Value → Array Value} {vs ws : List Value} {m : Nat} {ds : List PV} {tk : Tok}
    (P : Post C fr β s relV Q E (.ok d (σ.set n (.list ds)))) (I : Inv C A fr β s.heap σ) (ha : β[n]? = some a) (l : IsL s.heap a vs.toArray m) (hf : f vs.toArray = ws.toArray) (r : VRs β s.heap ws ds) (rv : VR β s.heap v d) :
    Q v { s with heap := s.heap.update a (Obj.mapSeq f), toks := tk } := by
  obtain ⟨x, S⟩ := I.sr.update I.fns ha l hf r
  exact P v β _ tk x S (I.mono x rv)

theorem findIdx_some {α : Type} {p : α → Bool} : ∀ {l : List α} {i : Nat}, l.findIdx? p = some i → ∃ h : i < l.length, p l[i] = true ∧ ∀ j (hj : j < l.length), j < i → p l[j] = false := by
  intro l
  intro i h
  rw [List.findIdx?_eq_some_iff_getElem] at h
  obtain ⟨h1, h2, h3⟩ := h
  exact ⟨h1, h2, fun j hj hlt => by simpa using h3 j hlt⟩

theorem callMethod_ok {m : Str} {o : PV} {vo : Value} {ds : List PV} {vs : List Value} {β : List Addr} {s : Shared} {σ : Store} {r : R PV} {Q : Value → Shared → Prop} {E : Value → Shared → Prop}
    (e : callMethod m o ds σ = some r) (hu : A.units + 2100 < cLine) (I : Inv C A fr β s.heap σ) (ro : VR β s.heap vo o) (rs : VRs β s.heap vs ds) (P : Post C fr β s relV Q E r) :
    wpAny (model C.prog C.w) A (call (.builtin (methodId m)) (vo :: vs)) Q E s := by
  have t3 := sizeLine_ge
  unfold callMethod at e
  split at e
  · rename_i n
    split at e
    · rename_i hm; subst hm
      split at e
      · rename_i v
        cases rs with
        | cons ra rr =>
        cases rr
        rcases bind_some e with ⟨xs, σ₁, e1, e⟩ | ⟨k, σ₁, e1, _⟩
        · obtain ⟨xs', hx, q⟩ := getList_some e1
          cases q
          obtain ⟨a1, ws, m1, rfl, h1, l1, q1⟩ := list_of I.sr ro hx
          split at e
          · rename_i hs
            have t1 := small_le hs
            have t2 := q1.length
            rcases bind_some e with ⟨_, σ₁, e2, e⟩ | ⟨k, σ₁, e2, _⟩
            · unfold setCell at e2
              split at e2
              · cases e2
                cases pure_some e
                refine call_meets PySem.F.slot_list_append ⟨_, l1, rfl⟩ PySem.F.entry_list_append (PySem.F.args_list_append_2 _ _) (PySem.list_append a1 _ m1 _ (by simp; omega)) ⟨l1, ?_⟩
                exact P.turn (tk := s.toks) I h1 l1 (by simp) (q1.append (.cons ra .nil)) .none
              · cases e2
            · unfold setCell at e2; split at e2 <;> cases e2
          · exact (fail_some e).elim
        · obtain ⟨_, _, q⟩ := getList_some e1; cases q
      · exact (fail_some e).elim
    split at e
    · rename_i hm; subst hm
      split at e
      · rename_i k
        cases rs with
        | cons ra rr =>
        cases rr
        rcases bind_some e with ⟨xs, σ₁, e1, e⟩ | ⟨k, σ₁, e1, _⟩
        · obtain ⟨xs', hx, q⟩ := getList_some e1
          cases q
          obtain ⟨a1, ws, m1, rfl, h1, l1, q1⟩ := list_of I.sr ro hx
          rcases bind_some e with ⟨ys, σ₁, e1, e⟩ | ⟨k, σ₁, e1, _⟩
          · obtain ⟨ys', hy, q⟩ := getList_some e1
            cases q
            obtain ⟨a2, us, m2, rfl, h2, l2, q2⟩ := list_of I.sr ra hy
            split at e
            · rename_i hs
              simp only [Bool.and_eq_true, decide_eq_true_eq] at hs
              have t1 := small_le hs.1.1
              have t4 := small_le hs.1.2
              have t2 := q1.length
              have t5 := q2.length
              rcases bind_some e with ⟨_, σ₁, e2, e⟩ | ⟨k, σ₁, e2, _⟩
              · unfold setCell at e2
                split at e2
                · cases e2
                  cases pure_some e
                  refine call_meets PySem.F.slot_list_extend ⟨_, l1, rfl⟩ PySem.F.entry_list_extend (PySem.F.args_list_extend_2 _ _) (PySem.AutoSeq1.list_extend_list_list_0 a1 _ m1 a2 _ m2 (PyProof.Rows.extend_door (by simp; omega)) (by simp; omega) (by simp; omega)) ⟨l1, l2, ?_⟩
                  exact P.turn (tk := s.toks) I h1 l1 (by simp) (q1.append q2) .none
                · cases e2
              · unfold setCell at e2; split at e2 <;> cases e2
            · exact (fail_some e).elim
          · obtain ⟨_, _, q⟩ := getList_some e1; cases q
        · obtain ⟨_, _, q⟩ := getList_some e1; cases q
      · exact (fail_some e).elim
    split at e
    · rename_i hm; subst hm
      split at e
      · cases rs
        rcases bind_some e with ⟨xs, σ₁, e1, e⟩ | ⟨k, σ₁, e1, _⟩
        · obtain ⟨xs', hx, q⟩ := getList_some e1
          cases q
          obtain ⟨a1, ws, m1, rfl, h1, l1, q1⟩ := list_of I.sr ro hx
          cases hv : xs.getLast? with
          | none => rw [hv] at e; exact (fail_some e).elim
          | some v =>
            rw [hv] at e
            dsimp only at e
            split at e
            · rename_i hs
              have t1 := small_le hs
              have t2 := q1.length
              rcases bind_some e with ⟨_, σ₁, e2, e⟩ | ⟨k, σ₁, e2, _⟩
              · unfold setCell at e2
                split at e2
                · cases e2
                  cases pure_some e
                  have hl : xs[xs.length - 1]? = some v := by rw [← hv, List.getLast?_eq_getElem?]
                  obtain ⟨w, hw, rw'⟩ := q1.get hl
                  have hpos : 0 < xs.length := by
                    have := (List.getElem?_eq_some_iff.mp hl).1
                    omega
                  refine call_meets PySem.F.slot_list_pop ⟨_, l1, rfl⟩ PySem.F.entry_list_pop (PySem.F.args_list_pop_1 _) (PySem.MeetsSeq.list_pop_last a1 _ m1 w (by simpa [t2] using hw) (by simp; omega)) ⟨l1, ?_⟩
                  have q9 : VRs β s.heap ws.dropLast xs.dropLast := by
                    rw [List.dropLast_eq_take, List.dropLast_eq_take, t2]
                    exact q1.take _
                  refine P.turn (tk := s.toks) (ws := ws.dropLast) I h1 l1 ?_ q9 rw'
                  rw [PyProof.Rows.Copied.erase_last_eq_pop]
                  · simp
                · cases e2
              · unfold setCell at e2; split at e2 <;> cases e2
            · exact (fail_some e).elim
        · obtain ⟨_, _, q⟩ := getList_some e1; cases q
      · exact (fail_some e).elim
    split at e
    · rename_i hm; subst hm
      split at e
      · rename_i x
        cases rs with
        | cons ra rr =>
        cases rr
        rcases bind_some e with ⟨xs, σ₁, e1, e⟩ | ⟨k, σ₁, e1, _⟩
        · obtain ⟨xs', hx, q⟩ := getList_some e1
          cases q
          obtain ⟨a1, ws, m1, rfl, h1, l1, q1⟩ := list_of I.sr ro hx
          split at e
          · rename_i hs
            simp only [Bool.and_eq_true, decide_eq_true_eq] at hs
            have t1 := small_le hs.2
            have t2 := q1.length
            obtain ⟨d, hd, rfl⟩ := lift_some e
            obtain ⟨i, hi, rfl⟩ := Option.map_eq_some_iff.mp hd
            obtain ⟨f, f1, f2⟩ := items_test (A' := A.in1) q1 ra hs.1.1.1 hs.1.1.2 (by show A.units + 1 + 2000 < cLine; omega) hs.1.2
            obtain ⟨hlt, hit, hno⟩ := findIdx_some hi
            have hlt' : i < ws.length := by omega
            have at_ : ∀ j (hj : j < ws.length) (hj' : j < xs.length), f ws[j] = pyEq xs[j] x := fun j hj hj' => f2 j _ _ (List.getElem?_eq_getElem hj) (List.getElem?_eq_getElem hj')
            refine call_meets PySem.F.slot_list_index ⟨_, l1, rfl⟩ PySem.F.entry_list_index (PySem.F.args_list_index_2 _ _)
              (SeqAt.list_indexAt a1 ws.toArray m1 none #[] _ f i (by simpa using hlt') (by omega) ?_ ?_) ⟨l1, fun y hy => f1 y (by simpa using hy), P.val I.sr (.int _ _)⟩
            · show f ws[i] = true
              rw [at_ i hlt' hlt]; exact hit
            · intro j hj hji
              have hj' : j < ws.length := by simpa using hj
              show f ws[j] = false
              rw [at_ j hj' (by omega)]; exact hno j (by omega) hji
          · exact (fail_some e).elim
        · obtain ⟨_, _, q⟩ := getList_some e1; cases q
      · exact (fail_some e).elim
    · exact (fail_some e).elim
  · exact (fail_some e).elim
end
end Mine

-- M13
namespace Mine
open PySem PySem.W PyProof.Rows
variable [Z : Inhabited Frozen]

section
variable {C : Conf} {Γ : Ctx} {A : Around} {fr : List Env} {h : Heap}

theorem sE_Method (W : Snd C Γ A fr) {x m : Str} {args : List Expr} (xp ap p : Pos) (h0 : SE C Γ A fr (.Name x xp)) (h1 : SEs C Γ A fr args) : SE C Γ A fr (.Call (.Attribute (.Name x xp) m ap) args [] p) := fun env N G β s σ ρ r Q E e I V P => by
  dsimp only at e; rw [evE.eq_def] at e; dsimp only at e
  show wpAny _ _ (eval _ env) _ _ _
  split at e
  rotate_left
  · exact (fail_some e).elim
  rename_i hc
  obtain ⟨hp, hline⟩ := hc
  rw [arm_eval_Call]
  have hbase : attributeBase (.Name x xp) m env (eval (.Name x xp) env) = eval (.Name x xp) env := rfl
  rw [hbase]
  refine step e I P (fun r' Q' e1 P1 => h0 env N G _ _ _ _ _ _ _ e1 I V P1) fun a σ₁ o β₁ h₁ tk e x1 I₁ ra P₁ => ?_
  refine wpAny_bind (wpAny_standAt ?_)
  rcases bind_some e with ⟨u, σ₂, e1, e⟩ | ⟨k, σ₂, e1, rfl⟩
  rotate_left
  · have := (knows_ok (s := { s with heap := h₁, toks := tk }) e1 I₁ ra).1; cases this
  obtain ⟨q, hm⟩ := knows_ok (s := { s with heap := h₁, toks := tk }) e1 I₁ ra
  cases q
  have hany := plain_any hp p env
  have hform : methodCallForm (args.length + ([] : List Keyword).length) (backTo p (starEach args env)) (backToKw p (keywordEach [] env)) = true := by
    unfold methodCallForm
    have h1 : (backTo p (starEach args env)).all (fun x => !x.1) = true := by
      rw [List.all_eq_not_any_not]
      simpa using hany
    have h2 : args.length ≤ 20 := by unfold plainArgs at hp; simp at hp; exact hp.1
    rw [h1]
    simp [backToKw, keywordEach]
    omega
  have hpos : methodCallPos true (.Name x xp) env ap p = pure p := by unfold methodCallPos; simp [hline]
  unfold methodCall
  rw [hform]
  refine wpAny_bind (wpAny_holding (hm _ _ _ ?_))
  refine wpAny_bind (wpAny_of_eq hpos ?_)
  refine PySem.Calls.callWith_builtin hany (evalArgs_all hp ?_)
  rcases bind_some e with ⟨ds, σ₂, e1, e⟩ | ⟨k, σ₂, e1, rfl⟩
  · refine h1 p env N G _ _ _ _ _ _ _ e1 I₁ (V.next I x1) fun vs β₂ h₂ tk2 x2 S ra2 => ?_
    exact callMethod_ok e W.budget (I₁.next x2 S) (I₁.mono x2 ra) ra2 (P₁.next x2)
  · exact h1 p env N G _ _ _ _ _ _ _ e1 I₁ (V.next I x1) fun e β' h' tk f => P₁ e β' h' tk f

/-! ## f-strings -/
def SF (C : Conf) (Γ : Ctx) (A : Around) (fr : List Env) (vs : List Expr) : Prop := ∀ env N, EOK env N → ∀ (β : List Addr) (s : Shared) (σ : Store) (ρ : Vars) (r : R (List Str)) (acc : Str) (Q : Str → Shared → Prop) (E : Value → Shared → Prop),
  evF Γ N ρ vs σ = some r → Inv C A fr β s.heap σ → VOK env N β s.heap ρ → acc.length + 100000 * vs.length ≤ 2000000 → Post C fr β s (fun _ _ a b => a = b) (fun ts s' => (ts.foldl (· ++ ·) acc).length ≤ 2000000 → Q (ts.foldl (· ++ ·) acc) s') E r → Joins (model C.prog C.w) A E (evalEach vs env) acc Q s

theorem sF_nil : SF C Γ A fr [] := fun env N G β s σ ρ r acc Q E e I V hl P => by
  rw [evF] at e
  cases pure_some e
  exact P [] β s.heap s.toks .refl I.sr rfl (by simpa using hl)
theorem sF_text {x : Str} {k : Nat} {p : Pos} {vs : List Expr} (h1 : SF C Γ A fr vs) : SF C Γ A fr (.Constant (.str x) k p :: vs) := fun env N G β s σ ρ r acc Q E e I V hl P => by
  rw [evF] at e
  split at e
  rotate_left
  · exact (fail_some e).elim
  rename_i hx
  have t1 := text_le hx
  have t3 := sizeLine_ge
  rw [List.length_cons] at hl
  show wpAny _ _ (eval _ env) _ _ _
  refine PySem.Calls.Constant_str ⟨x, _, rfl, by rw [strLen_append]; omega, ?_⟩
  rcases bind_some e with ⟨ds, σ₂, e1, e⟩ | ⟨k, σ₂, e1, rfl⟩
  · cases pure_some e
    exact h1 env N G _ _ _ _ _ _ _ _ e1 I V (by rw [strLen_append]; omega) fun v β' h' tk x S q => by
      have q' : v = ds := q
      subst q'
      exact P _ β' h' tk x S rfl
  · exact h1 env N G _ _ _ _ _ _ _ _ e1 I V (by rw [strLen_append]; omega) fun e β' h' tk f => P e β' h' tk f
theorem sF_field {x : Expr} {p : Pos} {vs : List Expr} {c : Int} (h0 : SE C Γ A fr x) (h1 : SF C Γ A fr vs) : SF C Γ A fr (.FormattedValue x c none p :: vs) := fun env N G β s σ ρ r acc Q E e I V hl P => by
  rw [evF] at e
  split at e
  rotate_left
  · exact (fail_some e).elim
  rename_i hc
  subst hc
  have t3 := sizeLine_ge
  rw [List.length_cons] at hl
  show wpAny _ _ (eval _ env) _ _ _
  refine wpAny_FormattedValue_plain ?_
  rcases bind_some e with ⟨a, σ₁, e1, e⟩ | ⟨k, σ₁, e1, rfl⟩
  rotate_left
  · exact h0 env N G _ _ _ _ _ _ _ e1 I V fun e β' h' tk f => P e β' h' tk f
  refine h0 env N G _ _ _ _ _ _ _ e1 I V fun v β₁ h₁ tk x S ra => ?_
  have I₁ := I.next x S
  have P₁ := P.next (tk := tk) x
  rcases bind_some e with ⟨t, σ₂, e1, e⟩ | ⟨k, σ₂, e1, rfl⟩
  rotate_left
  · obtain ⟨_, _, q⟩ := lift_some e1; cases q
  obtain ⟨t', ht, q⟩ := lift_some e1
  cases q
  have go : t.length ≤ 100000 → ∀ tk', Joins (model C.prog C.w) A E (evalEach vs env) (acc ++ t) Q { s with heap := h₁, toks := tk' } := by
    intro hlt tk'
    have P₂ := P.next (tk := tk') x
    rcases bind_some e with ⟨ds, σ₂, e1, e⟩ | ⟨k, σ₂, e1, rfl⟩
    · cases pure_some e
      exact h1 env N G _ _ _ _ _ _ _ _ e1 I₁ (V.next I x) (by rw [strLen_append]; omega) fun v β' h' tk x S q => by
        have q' : v = ds := q
        subst q'
        exact P₂ _ β' h' tk x S rfl
    · exact h1 env N G _ _ _ _ _ _ _ _ e1 I₁ (V.next I x) (by rw [strLen_append]; omega) fun e β' h' tk f => P₂ e β' h' tk f
  unfold fieldText at ht
  split at ht
  · rename_i i _
    cases ra
    split at ht
    · rename_i hi
      cases ht
      have hlen : (strOfInt i).length ≤ 100000 := by
        have e := int_text_length_le10 (k := 9) (by decide) hi
        unfold strOfInt
        rw [PySem.ofString_length]; omega
      exact wpAny_formatField_int (natAbs_log hi) ⟨strOfInt i, _, rfl, by rw [strLen_append]; omega, go hlen _⟩
    · cases ht
  · rename_i y
    cases ra
    split at ht
    · rename_i hy
      cases ht
      have t1 := text_le hy
      exact wpAny_formatField_str ⟨t, _, rfl, by rw [strLen_append]; omega, go t1 _⟩ ⟨t, _, rfl, by rw [strLen_append]; omega, go t1 _⟩ (by omega)
    · cases ht
  · cases ht
theorem sF_bad {x : Expr} {vs : List Expr} (hb : ∀ (N : Names) (ρ : Vars), evF Γ N ρ (x :: vs) = M.fail) : SF C Γ A fr (x :: vs) := fun env N G β s σ ρ r acc Q E e I V hl P => by
  rw [hb] at e; exact (fail_some e).elim

theorem many_texts {n : Nat} (h : n ≤ 8) : 0 + 100000 * (n + 1 + 1) ≤ 2000000 := by omega
theorem sE_Joined {x y : Expr} {vs : List Expr} (p : Pos) (h1 : SF C Γ A fr (x :: y :: vs)) : SE C Γ A fr (.JoinedStr (x :: y :: vs) p) := fun env N G β s σ ρ r Q E e I V P => by
  dsimp only at e; rw [evE] at e
  split at e
  rotate_left
  · exact (fail_some e).elim
  rename_i hl
  have t3 := sizeLine_ge
  show wpAny _ _ (joinParts Str.empty (evalEach (x :: y :: vs) env)) _ _ _
  refine wpAny_joinPartsRec _ _ _ _ ?_
  have hz : Str.empty.length + 100000 * (x :: y :: vs).length ≤ 2000000 := by
    have e0 : Str.empty.length = 0 := rfl
    rw [e0, List.length_cons, List.length_cons]; exact many_texts hl
  rcases bind_some e with ⟨ts, σ₁, e1, e⟩ | ⟨k, σ₁, e1, rfl⟩
  · cases pure_some e
    refine h1 env N G _ _ _ _ _ _ _ _ e1 I V hz fun v β' h' tk x S q => ?_
    have q' : v = ts := q
    subst q'
    exact fun hle => ⟨by omega, P _ β' h' _ x S (.str _ _)⟩
  · exact h1 env N G _ _ _ _ _ _ _ _ e1 I V hz fun e β' h' tk f => P e β' h' tk f
end
end Mine

-- M14
namespace Mine
open PySem PySem.W PyProof.Rows
variable [Z : Inhabited Frozen]

section
variable {C : Conf} {Γ : Ctx} {A : Around} {fr : List Env} {β : List Addr} {h : Heap} {σ : Store}

/-- a list of our own comes into the store -/
theorem SR.adopt (S : SR β h σ) {D : Addr} {vs : List Value} {n : Nat} {ds : List PV} (l : IsL h D vs.toArray n) (q : VRs β h vs ds) (hn : D ∉ β) : SR (β ++ [D]) h (σ ++ [.list ds]) := by
  have x : Ext [] β h (β ++ [D]) h → True := fun _ => trivial
  have up : ∀ {v : Value} {d : PV}, VR β h v d → VR (β ++ [D]) h v d := by
    intro v d r
    induction r using VR.rec (motive_2 := fun vs ds _ => VRs (β ++ [D]) h vs ds) with
    | none => exact .none
    | bool b => exact .bool b
    | int i t => exact .int i t
    | str x t => exact .str x t
    | tup e _ ih => exact .tup e ih
    | ref e => exact .ref (by rw [List.getElem?_append_left (List.getElem?_eq_some_iff.mp e).1]; exact e)
    | rng e => exact .rng e
    | old => exact .old
    | nil => exact .nil
    | cons _ _ a b => exact .cons a b
  have ups : ∀ {vs : List Value} {ds : List PV}, VRs β h vs ds → VRs (β ++ [D]) h vs ds := by
    intro vs
    induction vs with
    | nil => intro ds x; cases x; exact .nil
    | cons v vs ih => intro ds x; cases x with | cons a r => exact .cons (up a) (ih r)
  refine ⟨by simp [S.len], ?_, ?_⟩
  · refine List.nodup_append.mpr ⟨S.nodup, by simp, fun a ha b hb e => ?_⟩
    simp at hb
    rw [e, hb] at ha
    exact hn ha
  · intro i a c ha hc
    by_cases hi : i < β.length
    · rw [List.getElem?_append_left hi] at ha
      rw [List.getElem?_append_left (S.len ▸ hi)] at hc
      have r := S.cell i a c ha hc
      cases c with
      | list es => obtain ⟨us, m, l', q'⟩ := r; exact ⟨us, m, l', ups q'⟩
      | dict _ => exact r.elim
    · have hb : i = β.length := by
        have := (List.getElem?_eq_some_iff.mp ha).1
        simp at this; omega
      subst hb
      simp at ha
      rw [S.len] at hc
      simp at hc
      subst ha hc
      exact ⟨vs, n, l, ups q⟩

theorem closure_from {env : Env} : ∀ (names : List (Str × NameKind)) (acc : List (Str × Addr)), (∀ p ∈ names, p.2 = .free → ∃ c, env.cells.lookup p.1 = some c) → (∀ y c, acc.lookup y = some c → env.cells.lookup y = some c) →
    ∃ cl, (forIn names acc (fun (p : Str × NameKind) (cs : List (Str × Addr)) => if (p.2 == .free) = true then do let a ← cellOf env p.1; pure (ForInStep.yield ((p.1, a) :: cs)) else pure (ForInStep.yield cs)) : Sem (List (Str × Addr))) = pure cl ∧
      (∀ y c, cl.lookup y = some c → env.cells.lookup y = some c) ∧ (∀ y c, acc.lookup y = some c → (cl.lookup y).isSome) ∧ (∀ p ∈ names, p.2 = .free → (cl.lookup p.1).isSome)
  | [], acc, _, h => ⟨acc, rfl, h, fun y c e => by rw [e]; rfl, fun p hp => (nomatch hp)⟩
  | (n, k) :: r, acc, hs, h => by
    rw [List.forIn_cons]
    by_cases hk : k = .free
    · subst hk
      obtain ⟨c, hc⟩ := hs (n, .free) List.mem_cons_self rfl
      have hcell : cellOf env n = pure c := by unfold cellOf; rw [hc]
      have hacc : ∀ y c', ((n, c) :: acc).lookup y = some c' → env.cells.lookup y = some c' := by
        intro y c' e
        rw [List.lookup_cons] at e
        cases hb : y == n with
        | true => rw [hb] at e; cases e; rw [beq_iff_eq.mp hb]; exact hc
        | false => rw [hb] at e; exact h y c' e
      obtain ⟨cl, e1, e2, e3, e4⟩ := closure_from r ((n, c) :: acc) (fun p hp => hs p (List.mem_cons_of_mem _ hp)) hacc
      refine ⟨cl, ?_, e2, fun y c' e => ?_, fun p hp hf => ?_⟩
      · simp only [beq_self_eq_true, if_true, hcell, pure_bind]
        exact e1
      · cases hb : y == n with
        | true => exact e3 y c (by rw [List.lookup_cons, hb])
        | false => exact e3 y c' (by rw [List.lookup_cons, hb]; exact e)
      · rcases List.mem_cons.mp hp with rfl | hp
        · exact e3 n c (by simp)
        · exact e4 p hp hf
    · obtain ⟨cl, e1, e2, e3, e4⟩ := closure_from r acc (fun p hp => hs p (List.mem_cons_of_mem _ hp)) h
      have hb : (k == NameKind.free) = false := by simpa using hk
      refine ⟨cl, ?_, e2, e3, fun p hp hf => ?_⟩
      · simp only [hb, Bool.false_eq_true, if_false, pure_bind]
        exact e1
      · rcases List.mem_cons.mp hp with rfl | hp
        · exact absurd hf hk
        · exact e4 p hp hf

theorem closure_ok {env : Env} {scope : Scope} (hs : ∀ p ∈ scope.names, p.2 = .free → ∃ c, env.cells.lookup p.1 = some c) :
    ∃ cl, closureFor scope env = pure cl ∧ ∀ p ∈ scope.names, p.2 = .free → cl.lookup p.1 = env.cells.lookup p.1 := by
  obtain ⟨cl, e1, e2, _, e4⟩ := closure_from scope.names [] hs (fun y c e => by simp at e)
  refine ⟨cl, ?_, fun p hp hf => ?_⟩
  · rw [← e1]
    unfold closureFor
    simp
  · obtain ⟨c, hc⟩ := Option.isSome_iff_exists.mp (e4 p hp hf)
    rw [hc, e2 _ _ hc]

theorem bind_ok {α δ : Type} {m : M α} {f : α → M δ} {σ σ' : Store} {b : δ} (e : (m >>= f) σ = some (.ok b σ')) : ∃ a σ₁, m σ = some (.ok a σ₁) ∧ f a σ₁ = some (.ok b σ') := by
  rcases bind_some e with q | ⟨k, σ₁, _, q⟩
  · exact q
  · cases q
theorem quiet_ok {α : Type} {m : M α} {σ : Store} {r : R α} (e : quiet m σ = some r) : ∃ a σ', r = .ok a σ' ∧ m σ = some (.ok a σ') := by
  unfold quiet at e
  split at e
  · rename_i a σ' q; cases e; exact ⟨a, σ', rfl, q⟩
  · cases e
theorem still_ok {v : PV} {ds : List PV} {σ σ₀ : Store} {r : R PUnit} (e : still v ds σ = some r) (h0 : ItemsOf v σ₀ ds) : r = .ok ⟨⟩ σ ∧ ItemsOf v σ ds := by
  unfold still at e
  split at e
  · split at e
    · rename_i h
      cases e
      obtain ⟨l, hl, rfl⟩ := h
      exact ⟨rfl, hl⟩
    · cases e
  · cases e
    refine ⟨rfl, ?_⟩
    rename_i hne
    cases v <;> first | exact h0 | exact (hne _ rfl).elim

theorem iter_self {v : PV} {I : Addr} {i : Nat} {s : Shared} {Q : Value → Shared → Prop} {E : Value → Shared → Prop} (y : ItAt β s.heap v I i) (h : Q (.ref I) s) : wpAny (model C.prog C.w) A (pyIter (.ref I)) Q E s := by
  unfold ItAt at y
  split at y
  · obtain ⟨a, vs, n, l, q, it⟩ := y; exact wpAny_pyIter_tupleiter it h
  · obtain ⟨a, ha, it⟩ := y; exact wpAny_pyIter_listiter it h
  · obtain ⟨k, t, hk, it⟩ := y
    rcases hk with rfl | rfl
    · exact wpAny_pyIter_striter_ascii it h
    · exact wpAny_pyIter_striter_wide it h
  · exact wpAny_pyIter_rangeiter y h
  · exact y.elim

theorem fresh_back {fr : List Addr} {β₁ : List Addr} {h₁ : Heap} {σ₁ : Store} (x : Ext fr β h β₁ h₁) (S : SR β₁ h₁ σ₁) {a : Addr} (e : h₁.get? a = none) : h.get? a = none := by
  cases q : h.get? a with
  | none => rfl
  | some o =>
    by_cases hm : a ∈ β
    · obtain ⟨new, rfl, _⟩ := x.grow
      obtain ⟨_, _, l⟩ := S.isL (List.mem_append_left new hm)
      have l' := e.symm.trans l; cases l'
    · obtain ⟨sl, q'⟩ := x.slots a o q hm
      rw [e] at q'; cases q'

theorem relab_look {N sc : Names} {y : Str} : (relab N sc).lookup y = some .cell → (∀ p ∈ sc, p.2 ≠ .cell) → (y, NameKind.free) ∈ sc ∧ N.lookup y = some .cell := by
  induction sc with
  | nil => intro h; simp [relab] at h
  | cons p r ih =>
    obtain ⟨n, k⟩ := p
    intro h hn
    have hr := fun h' => ih h' fun p hp => hn p (List.mem_cons_of_mem _ hp)
    unfold relab at h hr
    rw [List.map_cons] at h
    by_cases hc : (k == .free && N.lookup n == some .cell) = true
    · rw [if_pos hc] at h
      rw [List.lookup_cons] at h
      cases hb : y == n with
      | true =>
        simp at hc
        rw [beq_iff_eq.mp hb]
        exact ⟨by rw [hc.1]; exact List.mem_cons_self, hc.2⟩
      | false => rw [hb] at h; have := hr h; exact ⟨List.mem_cons_of_mem _ this.1, this.2⟩
    · rw [if_neg hc] at h
      rw [List.lookup_cons] at h
      cases hb : y == n with
      | true => rw [hb] at h; cases h; exact absurd rfl (hn _ List.mem_cons_self)
      | false => rw [hb] at h; have := hr h; exact ⟨List.mem_cons_of_mem _ this.1, this.2⟩
theorem relab_local {N sc : Names} {y : Str} : sc.lookup y = some .local → (relab N sc).lookup y = some .local := by
  induction sc with
  | nil => intro h; simp at h
  | cons p r ih =>
    obtain ⟨n, k⟩ := p
    intro h
    unfold relab at ih ⊢
    rw [List.map_cons]
    rw [List.lookup_cons] at h
    cases hb : y == n with
    | true =>
      rw [hb] at h; cases h
      rw [if_neg (by simp), List.lookup_cons, hb]
    | false =>
      rw [hb] at h
      by_cases hc : (k == .free && N.lookup n == some .cell) = true
      · rw [if_pos hc, List.lookup_cons, hb]; exact ih h
      · rw [if_neg hc, List.lookup_cons, hb]; exact ih h
end
end Mine

-- M15
namespace Mine
open PySem PySem.W PyProof.Rows
variable [Z : Inhabited Frozen]

section
variable {C : Conf} {Γ : Ctx} {A : Around} {fr : List Env} {β : List Addr} {h : Heap} {σ : Store}

theorem VOK.weaken {env : Env} {N : Names} {ρ ρ' : Vars} (V : VOK env N β h ρ) (w : ∀ y d, ρ' y = some d → ρ y = some d) : VOK env N β h ρ' := by
  refine ⟨?_, fun y hy => ?_⟩
  · obtain ⟨m, n, q⟩ := V.loc
    exact ⟨m, n, fun y d hy hd => q y d hy (w y d hd)⟩
  · obtain ⟨c, hc, ov, n, q⟩ := V.cel y hy
    exact ⟨c, hc, ov, n, fun d hd => q d (w y d hd)⟩

theorem compOk_some {N : Names} {scope : Scope} {x : Str} (h : compOk N scope x = true) : scope.kind = .function ∧ scope.names.lookup x = some .local ∧ (∀ p ∈ scope.names, p.2 ≠ .cell) ∧
    (∀ p ∈ scope.names, p.2 = .local → scope.names.lookup p.1 = some .local) ∧ (∀ p ∈ scope.names, p.2 = .free → N.lookup p.1 = some .cell) := by
  unfold compOk at h
  simp only [Bool.and_eq_true, List.all_eq_true, beq_iff_eq, bne_iff_ne, Bool.or_eq_true] at h
  obtain ⟨⟨⟨h1, h2⟩, _⟩, h4⟩ := h
  refine ⟨h1, h2, fun p hp => (h4 p hp).1.1, fun p hp hl => ?_, fun p hp hl => ?_⟩
  · rcases (h4 p hp).1.2 with q | q
    · exact absurd hl q
    · exact q
  · rcases (h4 p hp).2 with q | q
    · exact absurd hl q
    · exact q.1

/-- the comprehension's turns -/
theorem comp_core {elt iter : Expr} {x : Str} {px : Pos} {ifs : List Expr} {scope : Scope} {pos fpos : Pos} {use : Option (Value → Sem Unit)} (h1 : SE C Γ A fr iter) (h2 : SI C Γ A fr ifs) (h3 : SE C Γ A fr elt)
    {env : Env} {N : Names} (G : EOK env N) (hok : compOk N scope x = true) {s : Shared} {ρ : Vars} {r : R (List PV)} {Q : Value → Shared → Prop} {E : Value → Shared → Prop}
    (e : compM (evE Γ N ρ iter) (fun d => evI Γ (relab N scope.names) (Vars.comp (relab N scope.names) ρ x d) ifs) (fun d => evE Γ (relab N scope.names) (Vars.comp (relab N scope.names) ρ x d) elt) σ = some r)
    (hfold : ∀ v, foldedSetIterable iter env v = pure v) (I : Inv C A fr β s.heap σ) (V : VOK env N β s.heap ρ)
    (hexc : ∀ k σ', r = .exc k σ' → ∀ e β' h' tk, Fly C fr β s.heap k σ' e β' h' → E e { s with heap := h', toks := tk })
    (hfin : ∀ outs σ', r = .ok outs σ' → ∀ D L vs n m β' h' tk, Ext (frs fr) β s.heap β' h' → Inv C A fr β' h' σ' → IsL h' D vs.toArray n → VRs β' h' vs outs → D ∉ β' → s.heap.get? D = none → s.heap.get? L = none → D ≠ L → h'.Ns L m →
      compPost (model C.prog C.w) A E use Q (.ref D) L (.ok .next) { s with heap := h', toks := tk }) :
    wpAny (model C.prog C.w) A (comprehension (.ListComp elt [⟨.Name x px, iter, ifs, 0⟩] scope pos) scope env fpos (newList []) false (eval iter env) use) Q E s := by
  obtain ⟨hkind, hx, hcell, hnames, hfree⟩ := compOk_some hok
  obtain ⟨cl, hclos, hcl⟩ := closure_ok (env := env) (scope := scope) fun p hp hf => by
    obtain ⟨c, hc, _⟩ := V.cel p.1 (hfree p hp hf)
    exact ⟨c, hc⟩
  refine wpAny_comprehension_free (use := use) rfl hfold hclos hkind hnames ?_
  unfold compM at e
  rcases bind_some e with ⟨v, σ₁, e1, e⟩ | ⟨k, σ₁, e1, rfl⟩
  rotate_left
  · exact h1 env N G _ _ _ _ _ _ _ e1 I V fun e β' h' tk f => hexc _ _ rfl e β' h' tk f
  refine h1 env N G _ _ _ _ _ _ _ e1 I V fun xv β₁ h₁ tk x₁ S₁ ra => ?_
  have I₁ := I.next x₁ S₁
  have V₁ := V.next I x₁
  rcases bind_some e with ⟨ds, σ₂, e2, e⟩ | ⟨k, σ₂, e2, rfl⟩
  rotate_left
  · obtain ⟨_, q, _⟩ := items_some e2; cases q
  obtain ⟨ds', q, hit, hlen⟩ := items_some e2
  cases q
  obtain ⟨all, σend, rfl, eq⟩ := quiet_ok e
  have fresh : ∀ a, h₁.objs.size ≤ a → s.heap.get? a = none := fun a ha => fresh_back x₁ S₁ (by
    cases q : h₁.get? a with
    | none => rfl
    | some o => exact absurd (Heap.lt_size q) (Nat.not_lt.mpr ha))
  refine pyIter_ok (s := { s with heap := h₁, toks := tk }) hit I₁ ra fun o tk₂ hI => ?_
  refine wpAny_newObj_type (wpAny_newFunctionEnv hcell (by intro y hy; simp at hy) (fun h₂ hns₂ hsb₂ => ?_) hkind) (by size_fits)
  dsimp only at hns₂ hsb₂ hI ⊢
  generalize hH1 : h₁.push o = H1 at hns₂ hsb₂ hI ⊢
  generalize hH2 : H1.push { cls := .type "list", dict := none, data := .seq ([] : List Value).toArray } = H2 at hns₂ hsb₂ ⊢
  have zI : H1.objs.size = h₁.objs.size + 1 := by rw [← hH1, Heap.size_push]
  have zL : H2.objs.size = h₁.objs.size + 2 := by rw [← hH2, Heap.size_push, zI]
  generalize hD : H1.objs.size = D at hH2 hns₂ hsb₂ ⊢
  generalize hL : H2.objs.size = L at hns₂ hsb₂ ⊢
  generalize hJ : h₁.objs.size = J at hI ⊢
  have sz1 : h₁.objs.size ≤ L := by omega
  have sz2 : h₁.objs.size ≤ D := by omega
  have nDJ : D ≠ J := by omega
  have nDL : D ≠ L := by omega
  have nJL : J ≠ L := by omega
  have fJ : s.heap.get? J = none := fresh J (by omega)
  have fD : s.heap.get? D = none := fresh D (by omega)
  have fL : s.heap.get? L = none := fresh L (by omega)
  have base_none : ∀ a, s.heap.get? a = none → C.base.get? a = none := fun a ha => by
    cases q : C.base.get? a with
    | none => rfl
    | some o => rw [I.stays a o q] at ha; cases ha
  -- the first heap of the turns
  have kk : ∀ b o', h₁.get? b = some o' → h₂.get? b = some o' := fun b o' e => by
    have hb := Heap.lt_size e
    refine (hsb₂.2 b (Nat.ne_of_lt (Nat.lt_of_lt_of_le hb sz1))).trans (Heap.get?_push_of_some _ ?_)
    rw [← hH2]
    refine Heap.get?_push_of_some _ ?_
    rw [← hH1]
    exact Heap.get?_push_of_some _ e
  have xk : Ext (frs fr) β₁ h₁ β₁ h₂ := .of_keeps kk
  have Sk : SR β₁ h₂ σ₁ := I₁.sr.keeps I₁.fns fun a o e _ => kk a o e
  have I₂ := I₁.next xk Sk
  have D2 : IsL h₂ D ([] : List Value).toArray 0 := by
    refine (hsb₂.2 D nDL).trans (Heap.get?_push_of_some _ ?_)
    rw [← hH2, ← hD]
    exact Heap.get?_push_size _ rfl
  have J2 : ItAt β₁ h₂ v J 0 := by
    have q1 : ItAt β₁ H2 v J 0 := hI.but (J := D) (fun b o' hb e => by rw [← hH2]; exact Heap.get?_push_of_some _ e) (.none (by rw [← hD]; exact get?_size _)) nDJ.symm
    have q2 : ItAt β₁ (H2.push { cls := .type (if (some env).isSome then "dict" else "frame"), data := .dict #[] }) v J 0 := q1.but (J := L) (fun b o' hb e => Heap.get?_push_of_some _ e) (.none (by rw [← hL]; exact get?_size _)) nJL
    refine q2.but (J := L) hsb₂.extBut ?_ nJL
    refine .of fun o e c => ?_
    rw [← hL] at e
    have := e.symm.trans (Heap.get?_push_size (h := H2) rfl)
    cases this
    rcases c with ⟨xs, n, q⟩ | ⟨_, fs, q⟩ <;> cases q
  have nDβ : D ∉ β₁ := fun hm => by
    obtain ⟨_, _, l⟩ := S₁.isL hm
    exact Nat.lt_irrefl _ (Nat.lt_of_lt_of_le (Heap.lt_size l) sz2)
  let N' := relab N scope.names
  let cenv := compEnvC scope cl L env
  have G' : EOK cenv N' := by
    refine ⟨hkind, ?_, G.glob, G.bui⟩
    show (scope.names.map fun (n, k) => if (k == .free && env.scope.kind == .function && env.kindOf n == some .cell) then (n, NameKind.cell) else (n, k)) = relab N scope.names
    unfold relab
    refine List.map_congr_left fun p _ => ?_
    obtain ⟨n, k⟩ := p
    show (if (k == .free && env.scope.kind == .function && env.kindOf n == some .cell) = true then (n, NameKind.cell) else (n, k)) = _
    rw [G.kind]
    unfold Env.kindOf
    rw [G.names]
    simp
  have cells : ∀ y, N'.lookup y = some .cell → cl.lookup y = env.cells.lookup y ∧ N.lookup y = some .cell := fun y hy => by
    obtain ⟨q1, q2⟩ := relab_look hy hcell
    exact ⟨hcl _ q1 rfl, q2⟩
  have cell_old : ∀ y c, N'.lookup y = some .cell → cl.lookup y = some c → ∃ o, s.heap.get? c = some o := fun y c hy hc => by
    obtain ⟨q1, q2⟩ := cells y hy
    obtain ⟨c', hc', ov, ⟨o, ho, _⟩, _⟩ := V.cel y q2
    rw [q1, hc'] at hc; cases hc
    exact ⟨o, ho⟩
  have cell_ne : ∀ J', s.heap.get? J' = none → ∀ y c, N'.lookup y = some .cell → cenv.cells.lookup y = some c → c ≠ J' := fun J' hJ' y c hy hc q => by
    subst q
    obtain ⟨o, ho⟩ := cell_old y c hy hc
    rw [hJ'] at ho; cases ho
  have V2 : VOK cenv N' β₁ h₂ (Vars.base N' ρ) := by
    refine ⟨⟨_, hns₂, fun y d hy hd => ?_⟩, fun y hy => ?_⟩
    · unfold Vars.base at hd; rw [if_pos hy] at hd; cases hd
    · obtain ⟨q1, q2⟩ := cells y hy
      obtain ⟨c, hc, ov, n, q⟩ := (V₁.next I₁ xk).cel y q2
      refine ⟨c, q1.trans hc, ov, n, fun d hd => q d ?_⟩
      unfold Vars.base at hd
      split at hd
      · cases hd
      · exact hd
  have base_w : ∀ d y d', Vars.base N' ρ y = some d' → y ≠ x → Vars.comp N' ρ x d y = some d' := fun d y d' hd hy => by
    unfold Vars.comp; rw [if_neg hy]; exact hd
  have hxl : N'.lookup x = some .local := relab_local hx
  have comp_w : ∀ d y d', Vars.base N' ρ y = some d' → Vars.comp N' ρ x d y = some d' := fun d y d' hd => by
    by_cases hy : y = x
    · subst hy; unfold Vars.base at hd; rw [if_pos hxl] at hd; cases hd
    · exact base_w d y d' hd hy
  have loop : ∀ s₃ : Shared, s₃ = { s with heap := h₂, toks := tk₂ } → codeAny (model C.prog C.w) A (.compLoop (.ListComp elt [⟨.Name x px, iter, ifs, 0⟩] scope pos) 0 (.ref J) (.ref D) cenv) (compPost (model C.prog C.w) A E use Q (.ref D) L) s₃ := by
    rintro s₃ rfl
    refine codeAny_compLoop_tests (fun k s' => ∃ i outs rest vsD nD m β' h' tk σ', s' = { s with heap := h', toks := tk } ∧ k = ds.length + 1 - i ∧ i ≤ ds.length ∧ Ext (frs fr) β s.heap β' h' ∧ Inv C A fr β' h' σ' ∧ ItAt β' h' v J i ∧ ItemsOf v σ' ds ∧
      IsL h' D (vsD : List Value).toArray nD ∧ VRs β' h' vsD outs ∧ outs.length ≤ i ∧ D ∉ β' ∧ h'.Ns L m ∧ VOK cenv N' β' h' (Vars.base N' ρ) ∧
      each (fun d => do
        let ok ← evI Γ N' (Vars.comp N' ρ x d) ifs
        let r ← (if ok then do let v ← evE Γ N' (Vars.comp N' ρ x d) elt; pure (some v) else pure .none)
        let _ ← still v ds
        pure r) (ds.drop i) σ' = some (.ok rest σend) ∧ outs ++ rest = all) ?_ (ds.length + 1)
      ⟨0, [], all, [], 0, _, β₁, h₂, tk₂, σ₁, rfl, rfl, Nat.zero_le _, x₁.trans xk, I₂, J2, hit, D2, .nil, Nat.le_refl _, nDβ, hns₂, V2, by simpa using eq, by simp⟩
    rintro k s' ⟨i, outs, rest, vsD, nD, m, β', h', tk', σ', rfl, rfl, hi, xx, I', J', it', D', q', ho, nD', L', V', e', hall⟩
    have nDfr : D ∉ frs fr := fun hm => by
      obtain ⟨m', o', es, ep, ho', hd', _⟩ := I'.fns D hm
      have := D'.symm.trans ho'; cases this; cases hd'
    by_cases hlt : i < ds.length
    · have hd : ds[i]? = some ds[i] := List.getElem?_eq_getElem hlt
      have hdrop : ds.drop i = ds[i] :: ds.drop (i + 1) := List.drop_eq_getElem_cons hlt
      rw [hdrop] at e'
      rw [each] at e'
      obtain ⟨ov, σ₃, ef, e'⟩ := bind_ok e'
      obtain ⟨vs', σ₄, er, e'⟩ := bind_ok e'
      have ee := pure_some e'
      cases ee
      obtain ⟨okv, σ₅, et, ef⟩ := bind_ok ef
      obtain ⟨rv, σ₆, ev, ef⟩ := bind_ok ef
      obtain ⟨_, σ₇, es, ef⟩ := bind_ok ef
      have ee := pure_some ef
      cases ee
      obtain ⟨ee, it6⟩ := still_ok es it'
      cases ee
      refine next_item (s := { s with heap := h', toks := tk' }) it' hd I' J' fun w h33 tk3 rw3 J3 k3 => ?_
      have sJ := J'.core
      have kp3 := keep3_but k3 sJ
      have I3 := I'.but k3 (base_none J fJ) sJ fun hm => absurd hm (J'.not_fr I'.fns)
      have D3 : IsL h33 D vsD.toArray nD := k3 D _ nDJ D'
      have L3 : h33.Ns L m := L'.at' fun o e => k3 L o nJL.symm e
      have V3 : VOK cenv N' β' h33 (Vars.base N' ρ) := V'.but k3 sJ nJL.symm (cell_ne J fJ)
      have q3 := q'.core kp3
      have xx3 := xx.but fJ k3
      dsimp only
      rw [arm_assign_Name]
      refine wpAny_bind (wpAny_standAt (wpAny_bindName (wpAny_storeName_local (env := cenv) (by show cenv.scope.names.lookup x = _; rw [G'.names]; exact hxl) L3 (fun h4 hn4 hs4 => ?_) (by rw [G'.kind]; rfl))))
      have sL := ns_core (β := β') L3
      have k4 := hs4.extBut
      have kp4 := keep3_but k4 sL
      have I4 := I3.but k4 (base_none L fL) sL fun hm => ⟨_, hn4⟩
      have D4 : IsL h4 D vsD.toArray nD := k4 D _ nDL D3
      have J4 := J3.but k4 sL nJL
      have xx4 := xx3.but fL k4
      have q4 := q3.core kp4
      have V4 : VOK cenv N' β' h4 (Vars.comp N' ρ x ds[i]) := by
        refine ⟨⟨_, hn4, fun y d hy hd' => ?_⟩, fun y hy => ?_⟩
        · by_cases hyx : y = x
          · subst hyx
            unfold Vars.comp at hd'
            rw [if_pos rfl] at hd'
            cases hd'
            exact ⟨w, by simp, rw3.core kp4⟩
          · unfold Vars.comp at hd'
            rw [if_neg hyx, if_pos hy] at hd'
            cases hd'
        · obtain ⟨c, hc, ov, n, q⟩ := V3.cel y hy
          refine ⟨c, hc, ov, ?_, fun d hd' => ?_⟩
          · obtain ⟨o, ho', hd''⟩ := n
            exact ⟨o, k4 c o (cell_ne L fL y c hy hc) ho', hd''⟩
          · have hyx : y ≠ x := fun q => by subst q; rw [hxl] at hy; cases hy
            unfold Vars.comp at hd'
            rw [if_neg hyx] at hd'
            obtain ⟨v', hv', r'⟩ := q d hd'
            exact ⟨v', hv', r'.core kp4⟩
      refine h2 cenv N' G' β' _ _ _ _ _ _ et I4 V4 fun okw β5 h5 tk5 x5 S5 rel5 => ?_
      have rel5' : okw = okv := rel5
      subst rel5'
      have I5 := I4.next x5 S5
      have D5 : IsL h5 D vsD.toArray nD := x5.keep D _ D4 nD' nDfr
      have nD5 : D ∉ β5 := x5.not_new D4 nD'
      have L5 := ns_slots I4.sr x5 hn4
      have J5 := J4.next I4 x5
      have V5 := V4.next I4 x5
      have q5 := I4.monos x5 q4
      have xx5 := xx4.trans x5
      cases okw with
      | false =>
        rw [if_neg (by simp)] at ev
        have ee := pure_some ev
        cases ee
        rw [if_neg (by simp)]
        refine ⟨ds.length + 1 - (i + 1), by omega, i + 1, outs, vs', vsD, nD, _, β5, h5, tk5, σ₃, rfl, rfl, hlt, xx5, I5, J5, it6, D5, q5, by omega, nD5, L5, V5.weaken (comp_w _), er, ?_⟩
        simpa using hall
      | true =>
        rw [if_pos rfl] at ev
        obtain ⟨ev1, σ₈, ev2, ev⟩ := bind_ok ev
        have ee := pure_some ev
        cases ee
        rw [if_pos rfl]
        refine h3 cenv N' G' β5 _ _ _ _ _ _ ev2 I5 V5 fun y β6 h6 tk6 x6 S6 ry => ?_
        have I6 := I5.next x6 S6
        have D6 : IsL h6 D vsD.toArray nD := x6.keep D _ D5 nD5 nDfr
        have nD6 : D ∉ β6 := x6.not_new D5 nD5
        have L6 := ns_slots I5.sr x6 L5
        have J6 := J5.next I5 x6
        have V6 := V5.next I5 x6
        have q6 := I5.monos x6 q5
        have xx6 := xx5.trans x6
        have t3 := sizeLine_ge
        have t4 := q6.length
        refine call_meets PySem.F.slot_list_append ⟨_, D6, rfl⟩ PySem.F.entry_list_append (PySem.F.args_list_append_2 _ _) (PySem.list_append D _ nD y (by simp; omega)) ⟨D6, ?_⟩
        have sD : Safe β6 h6 D := .list D6 nD6
        have k7 : Heap.ExtBut D h6 (h6.update D (Obj.mapSeq fun x_1 => x_1.push y)) := (Heap.SameBut.update ..).extBut
        have kp7 := keep3_but k7 sD
        have D7 := IsL.update D6 fun x_1 => x_1.push y
        have eD : vsD.toArray.push y = (vsD ++ [y]).toArray := by simp
        rw [eD] at D7
        refine ⟨ds.length + 1 - (i + 1), by omega, i + 1, outs ++ [ev1], vs', vsD ++ [y], _, _, β6, _, tk6, σ₃, rfl, rfl, hlt, xx6.but fD k7, I6.but k7 (base_none D fD) sD (fun hm => absurd hm nDfr), J6.but k7 sD nDJ.symm, it6, D7,
          (q6.core kp7).append (.cons (ry.core kp7) .nil), by simp; omega, nD6, L6.at' fun o e => k7 L o nDL.symm e, (V6.weaken (comp_w _)).but k7 sD nDL.symm (cell_ne D fD), er, ?_⟩
        simpa using hall
    · have hi' : i = ds.length := by omega
      subst hi'
      refine next_end (s := { s with heap := h', toks := tk' }) it' I' J' fun h3 tk3 k3 => ?_
      have sJ := J'.core
      have kp3 := keep3_but k3 sJ
      have I3 := I'.but k3 (base_none J fJ) sJ fun hm => absurd hm (J'.not_fr I'.fns)
      have D3 : IsL h3 D vsD.toArray nD := k3 D _ nDJ D'
      have L3 : h3.Ns L m := L'.at' fun o e => k3 L o nJL.symm e
      have q3 := q'.core kp3
      have xx3 := xx.but fJ k3
      rw [List.drop_length, each] at e'
      have ee := pure_some e'
      cases ee
      rw [List.append_nil] at hall
      subst hall
      exact hfin _ _ rfl D L vsD nD m β' h3 tk3 xx3 I3 D3 q3 nD' fD fL nDL L3
  exact codeAny_compStart_list (loop _ rfl) (iter_self (C := C) (β := β₁) J2 (loop _ rfl))

end
end Mine

-- M16
namespace Mine
open PySem PySem.W PyProof.Rows
variable [Z : Inhabited Frozen]

section
variable {C : Conf} {Γ : Ctx} {A : Around} {fr : List Env} {β : List Addr} {h : Heap} {σ : Store}

theorem sE_bad {x : Expr} (hb : ∀ (N : Names) (ρ : Vars), evE Γ N ρ x = M.fail) : SE C Γ A fr x := fun env N G β s σ ρ r Q E e I V P => by
  dsimp only at e; rw [hb] at e; exact (fail_some e).elim
theorem evE_set {N : Names} {ρ : Vars} {es : List Expr} {k : Nat} {p : Pos} : evE Γ N ρ (.Set es k p) = M.fail := by rw [evE.eq_def]; first | done | rfl
theorem fold_ok {x : Expr} {N : Names} {ρ : Vars} {r : R PV} {env : Env} (e : evE Γ N ρ x σ = some r) (v : Value) : foldedSetIterable x env v = pure v := by
  unfold foldedSetIterable
  split
  · rw [evE_set] at e; exact (fail_some e).elim
  · rfl
theorem comp_src {N : Names} {ρ : Vars} {x : Expr} {t : PV → M Bool} {b : PV → M PV} {r : R (List PV)} (e : compM (evE Γ N ρ x) t b σ = some r) : ∃ r', evE Γ N ρ x σ = some r' := by
  unfold compM at e
  rcases bind_some e with ⟨a, σ₁, e1, _⟩ | ⟨k, σ₁, e1, _⟩ <;> exact ⟨_, e1⟩

theorem sE_ListComp {elt iter : Expr} {x : Str} {px : Pos} {ifs : List Expr} {scope : Scope} (pos : Pos) (h1 : SE C Γ A fr iter) (h2 : SI C Γ A fr ifs) (h3 : SE C Γ A fr elt) : SE C Γ A fr (.ListComp elt [⟨.Name x px, iter, ifs, 0⟩] scope pos) := fun env N G β s σ ρ r Q E e I V P => by
  dsimp only at e; rw [evE] at e
  split at e
  rotate_left
  · exact (fail_some e).elim
  rename_i hok
  show wpAny _ _ (eval _ env) _ _ _
  rw [PySem.eval_ListComp]
  rcases bind_some e with ⟨outs, σ₁, e1, e⟩ | ⟨k, σ₁, e1, rfl⟩
  · obtain ⟨r', hr'⟩ := comp_src e1
    refine comp_core (use := none) h1 h2 h3 G hok e1 (fold_ok hr') I V (fun k σ' q => by cases q) fun outs' σ' q D L vs n m β' h' tk x I' D' q' nD fD fL nDL L' => ?_
    cases q
    unfold newCell at e
    cases e
    refine ⟨m, L', fun h'' sb => ?_⟩
    have k := sb.extBut
    have sL := ns_core (β := β') L'
    have kp := keep3_but k sL
    have D'' : IsL h'' D vs.toArray n := k D _ nDL D'
    have xx := x.but fL k
    have S := (I'.sr.core kp).adopt D'' (q'.core kp) nD
    have nDβ : D ∉ β := fun hm => by
      obtain ⟨_, _, l⟩ := I.sr.isL hm
      have := fD.symm.trans l; cases this
    obtain ⟨new, hg, hnew⟩ := xx.grow
    have x2 : Ext (frs fr) β s.heap (β' ++ [D]) h'' := ⟨⟨new ++ [D], by rw [hg, List.append_assoc], fun a ha => by
      rcases List.mem_append.mp ha with ha | ha
      · exact hnew a ha
      · simp at ha; subst ha; exact ⟨fD, nDβ⟩⟩, xx.keep, xx.slots⟩
    exact P _ _ _ _ x2 S (.ref (by rw [← I'.sr.len]; simp))
  · obtain ⟨r', hr'⟩ := comp_src e1
    refine comp_core (use := none) h1 h2 h3 G hok e1 (fold_ok hr') I V (fun k' σ' q e β' h' tk f => by cases q; exact P e β' h' tk f) fun outs' σ' q => by cases q

theorem sT_of {x : Expr} (h1 : SE C Γ A fr x) (he : ∀ (N : Names) (ρ : Vars) w, evT Γ N ρ x w = w >>= fun v => match v with | .bool b => pure b | _ => M.fail)
    (ht : ∀ env w, isTrue x env w = w >>= fun v => standAt x.pos >>= fun _ => holding [v] (truthy v)) : ST C Γ A fr x := sT_plain h1 he ht

theorem evE_comp_bad {N : Names} {ρ : Vars} {elt : Expr} {gens : List Comprehension} {scope : Scope} {p : Pos} (hg : ∀ x px iter ifs, gens ≠ [⟨.Name x px, iter, ifs, 0⟩]) : evE Γ N ρ (.ListComp elt gens scope p) = M.fail := by
  rw [evE.eq_def]
  split
  all_goals first
    | rfl
    | (exfalso; rename_i q; injection q with _ q2; exact hg _ _ _ _ q2)
    | (exfalso; rename_i q; injection q)

theorem exprs (W : Snd C Γ A fr) : ∀ n : Nat, (∀ x : Expr, sizeOf x ≤ n → SE C Γ A fr x ∧ ST C Γ A fr x) ∧
    (∀ xs : List Expr, sizeOf xs ≤ n → SEs C Γ A fr xs ∧ (∀ op, SA C Γ A fr op xs) ∧ (∀ op, SB C Γ A fr op xs) ∧ SI C Γ A fr xs ∧ SF C Γ A fr xs ∧ ∀ ops, SC C Γ A fr ops xs) := by
  intro n
  induction n with
  | zero =>
    refine ⟨fun x hx => ?_, fun xs hx => ?_⟩
    · exfalso; cases x <;> simp at hx
    · exfalso; cases xs <;> simp at hx
  | succ n ih =>
    obtain ⟨ihE, ihL⟩ := ih
    have SEx : ∀ x : Expr, sizeOf x ≤ n + 1 → SE C Γ A fr x := by
      intro x hx
      cases x with
      | Constant c k p => exact sE_Constant c k p
      | Name x p => exact sE_Name W x p
      | BinOp l op r p => exact sE_BinOp op p (ihE l (by simp at hx; omega)).1 (ihE r (by simp at hx; omega)).1
      | UnaryOp op x p =>
        have h1 := ihE x (by simp at hx; omega)
        cases op with
        | USub => exact sE_USub p h1.1
        | Not => exact sE_Not p h1.1
        | _ => exact sE_bad fun N ρ => by rw [evE.eq_def]; first | done | rfl
      | IfExp t b o p => exact sE_IfExp p (ihE t (by simp at hx; omega)).2 (ihE b (by simp at hx; omega)).1 (ihE o (by simp at hx; omega)).1
      | BoolOp op vs p => exact sE_BoolOp p ((ihL vs (by simp at hx; omega)).2.2.1 op)
      | Compare l ops rs p => exact sE_Compare p (ihE l (by simp at hx; omega)).1 ((ihL rs (by simp at hx; omega)).2.2.2.2.2 ops)
      | Tuple es k p => exact sE_Tuple k p (ihL es (by simp at hx; omega)).1
      | List es p => exact sE_List p (ihL es (by simp at hx; omega)).1
      | Subscript v i p =>
        have h1 := (ihE v (by simp at hx; omega)).1
        have h2 := (ihE i (by simp at hx; omega)).1
        cases i with
        | Slice lo hi st q =>
          cases st with
          | none =>
            refine sE_slice p q h1 ?_ ?_
            · cases lo with
              | none => exact sO_none
              | some y => exact sO_some (ihE y (by simp at hx; omega)).1
            · cases hi with
              | none => exact sO_none
              | some y => exact sO_some (ihE y (by simp at hx; omega)).1
          | some st => exact sE_item p (by intro a b c q; cases q) h1 h2
        | _ => exact sE_item p (by intro a b c q; cases q) h1 h2
      | Call f args kws p =>
        cases kws with
        | cons kw kws =>
          refine sE_bad fun N ρ => ?_
          cases f with
          | Attribute o m ap => cases o <;> (rw [evE.eq_def]; first | done | rfl)
          | _ => (rw [evE.eq_def]; first | done | rfl)
        | nil =>
          cases f with
          | Name f fp =>
            have ha := ihL args (by simp at hx; omega)
            exact sE_Call W fp p ha.1 fun x t q e => by
              subst e
              exact (ihE x (by simp at hx; omega)).1
          | Attribute o m ap =>
            cases o with
            | Name x xp => exact sE_Method W xp ap p (sE_Name W x xp) (ihL args (by simp at hx; omega)).1
            | _ => exact sE_bad fun N ρ => by rw [evE.eq_def]; first | done | rfl
          | _ => exact sE_bad fun N ρ => by rw [evE.eq_def]; first | done | rfl
      | ListComp elt gens scope p =>
        by_cases hg : ∃ x px iter ifs, gens = [⟨.Name x px, iter, ifs, 0⟩]
        · obtain ⟨x, px, iter, ifs, rfl⟩ := hg
          exact sE_ListComp p (ihE iter (by simp at hx; omega)).1 (ihL ifs (by simp at hx; omega)).2.2.2.1 (ihE elt (by simp at hx; omega)).1
        · exact sE_bad fun N ρ => evE_comp_bad fun x px iter ifs q => hg ⟨x, px, iter, ifs, q⟩
      | JoinedStr vs p =>
        cases vs with
        | nil => exact sE_bad fun N ρ => by rw [evE.eq_def]; first | done | rfl
        | cons x vs =>
          cases vs with
          | nil => exact sE_bad fun N ρ => by rw [evE.eq_def]; first | done | rfl
          | cons y vs => exact sE_Joined p (ihL (x :: y :: vs) (by simp at hx ⊢; omega)).2.2.2.2.1
      | _ => exact sE_bad fun N ρ => by rw [evE.eq_def]; first | done | rfl
    refine ⟨fun x hx => ⟨SEx x hx, ?_⟩, fun xs hx => ?_⟩
    · cases x with
      | UnaryOp op x p =>
        cases op with
        | Not => exact sT_Not p (ihE x (by simp at hx; omega)).2
        | _ => exact sT_of (SEx _ hx) (fun N ρ w => by rw [evT.eq_def]; first | done | rfl) (fun env w => rfl)
      | BoolOp op vs p => exact sT_BoolOp p ((ihL vs (by simp at hx; omega)).2.1 op)
      | IfExp t b o p => exact sT_IfExp p
      | Compare l ops rs p => exact sT_Compare p (ihE l (by simp at hx; omega)).1 ((ihL rs (by simp at hx; omega)).2.2.2.2.2 ops)
      | _ => exact sT_of (SEx _ hx) (fun N ρ w => by rw [evT.eq_def]; first | done | rfl) (fun env w => rfl)
    · cases xs with
      | nil =>
        exact ⟨sEs_nil, fun op => sA_nil op, fun op => sB_nil op, sI_nil, sF_nil, fun ops => sC_bad fun N ρ a => by cases ops with | nil => (rw [evC.eq_def]; first | done | rfl) | cons o os => cases os <;> (rw [evC.eq_def]; first | done | rfl)⟩
      | cons x xs =>
        have h1 := ihE x (by simp at hx; omega)
        have h2 := ihL xs (by simp at hx; omega)
        refine ⟨?_, fun op => sA_cons op h1.2 (h2.2.1 op), fun op => ?_, ?_, ?_, fun ops => ?_⟩
        · by_cases hs : ∃ y q, x = .Starred y q
          · obtain ⟨y, q, rfl⟩ := hs
            intro pos env N G β s σ ρ r Q E e I V P
            dsimp only at e; rw [evEs.eq_def] at e; exact (fail_some e).elim
          · exact sEs_cons (fun y q e => hs ⟨y, q, e⟩) h1.1 h2.1
        · cases xs with
          | nil => exact sB_one op h1.1
          | cons y ys => exact sB_cons op h1.1 (h2.2.2.1 op)
        · cases xs with
          | nil => exact sI_one h1.2
          | cons y ys => exact sI_more
        · cases x with
          | Constant c k p =>
            cases c with
            | str x => exact sF_text h2.2.2.2.2.1
            | _ => exact sF_bad fun N ρ => by rw [evF.eq_def]; first | done | rfl
          | FormattedValue y c spec p =>
            cases spec with
            | none => exact sF_field (ihE y (by simp at hx; omega)).1 h2.2.2.2.2.1
            | some sp => exact sF_bad fun N ρ => by rw [evF.eq_def]; first | done | rfl
          | _ => exact sF_bad fun N ρ => by rw [evF.eq_def]; first | done | rfl
        · cases ops with
          | nil => exact sC_bad fun N ρ a => by rw [evC.eq_def]; first | done | rfl
          | cons o os =>
            cases os with
            | nil =>
              cases xs with
              | nil => exact sC_one W o h1.1
              | cons y ys => exact sC_bad fun N ρ a => by rw [evC.eq_def]; first | done | rfl
            | cons o2 os => exact sC_cons W o o2 h1.1 (h2.2.2.2.2.2 (o2 :: os))

theorem expr_ok (W : Snd C Γ A fr) (x : Expr) : SE C Γ A fr x := ((exprs W _).1 x (Nat.le_refl _)).1
theorem test_ok (W : Snd C Γ A fr) (x : Expr) : ST C Γ A fr x := ((exprs W _).1 x (Nat.le_refl _)).2
theorem exprs_ok (W : Snd C Γ A fr) (xs : List Expr) : SEs C Γ A fr xs := ((exprs W _).2 xs (Nat.le_refl _)).1
end
end Mine

-- M17
namespace Mine
open PySem PySem.W PyProof.Rows
variable [Z : Inhabited Frozen]

/-- the names of a call's own frame -/
structure FOK (C : Conf) (env : Env) (N : Names) (h₀ : Heap) : Prop where
  fresh : h₀.get? env.locals = none
  cells : ∀ y c, N.lookup y = some .cell → env.cells.lookup y = some c → h₀.get? c = none ∧ c ≠ env.locals
  inj : ∀ y y' c, N.lookup y = some .cell → N.lookup y' = some .cell → env.cells.lookup y = some c → env.cells.lookup y' = some c → y = y'
  stays : C.base.StaysIn h₀

/-- where a call stands -/
structure At (C : Conf) (A : Around) (fr : List Env) (env : Env) (N : Names) (β₀ : List Addr) (h₀ : Heap) (β : List Addr) (h : Heap) (σ : Store) (ρ : Vars) : Prop where
  x : Ext (frs fr) β₀ h₀ β h
  I : Inv C A fr β h σ
  V : VOK env N β h ρ

/-- an exception made in this very call -/
structure Made (C : Conf) (A : Around) (fr : List Env) (β : List Addr) (h : Heap) (k : Exn) (σ' : Store) (e : Value) (β' : List Addr) (h' : Heap) : Prop where
  x : Ext (frs fr) β h β' h'
  I : Inv C A fr β' h' σ'
  obj : ∃ ea oe vs a0, e = .ref ea ∧ h'.get? ea = some oe ∧ oe.cls = .ref (C.cls k) ∧ oe.data = .fields vs ∧ vs[0]? = some a0 ∧ vs[1]? = some .none ∧ h.get? ea = none
theorem Made.of_ext {C : Conf} {A : Around} {fr : List Env} {β β₁ β' : List Addr} {h h₁ h' : Heap} {k : Exn} {σ' : Store} {e : Value} (x : Ext (frs fr) β h β₁ h₁) (m : Made C A fr β₁ h₁ k σ' e β' h') (b : ∀ a, h₁.get? a = none → h.get? a = none) : Made C A fr β h k σ' e β' h' := by
  obtain ⟨ea, oe, vs, a0, h1, h2, h3, h4, h5, h6, h7⟩ := m.obj
  exact ⟨x.trans m.x, m.I, ea, oe, vs, a0, h1, h2, h3, h4, h5, h6, b ea h7⟩

def PostS (C : Conf) (A : Around) (fr : List Env) (env : Env) (N : Names) (β₀ : List Addr) (s₀ : Shared) (Q : Flow → Shared → Prop) (E : Value → Shared → Prop) : SO → Prop
  | .next ρ σ => ∀ β h tk, At C A fr env N β₀ s₀.heap β h σ ρ → Q .next { s₀ with heap := h, toks := tk }
  | .brk ρ σ => ∀ β h tk, At C A fr env N β₀ s₀.heap β h σ ρ → Q .brk { s₀ with heap := h, toks := tk }
  | .ret d σ => ∀ v β h tk, Ext (frs fr) β₀ s₀.heap β h → Inv C A fr β h σ → VR β h v d → Q (.ret v) { s₀ with heap := h, toks := tk }
  | .exc k _ σ => ∀ e β h tk, (Fly C fr β₀ s₀.heap k σ e β h ∨ Made C A fr β₀ s₀.heap k σ e β h) → E e { s₀ with heap := h, toks := tk }

section
variable {C : Conf} {Γ : Ctx} {A : Around} {fr : List Env} {env : Env} {N : Names} {β₀ β : List Addr} {s₀ : Shared} {h h₁ : Heap} {σ : Store} {ρ : Vars} {E : Value → Shared → Prop} {tk : Tok}

theorem base_fresh (F : FOK C env N s₀.heap) {J : Addr} (hJ : s₀.heap.get? J = none) : C.base.get? J = none := by
  cases q : C.base.get? J with
  | none => rfl
  | some o => rw [F.stays _ o q] at hJ; cases hJ
theorem At.but (T : At C A fr env N β₀ s₀.heap β h σ ρ) (F : FOK C env N s₀.heap) {J : Addr} (hJ : s₀.heap.get? J = none) (k : Heap.ExtBut J h h₁) (sJ : Safe β h J) (nfr : J ∉ frs fr) (nl : env.locals ≠ J)
    (nc : ∀ y c, N.lookup y = some .cell → env.cells.lookup y = some c → c ≠ J) : At C A fr env N β₀ s₀.heap β h₁ σ ρ :=
  ⟨T.x.but hJ k, T.I.but k (base_fresh F hJ) sJ fun hm => absurd hm nfr, T.V.but k sJ nl nc⟩

/-- a value at work in a statement -/
theorem At.go {α γ : Type} {m : M α} {f : α → Store → Option SO} {o : SO} {t : Sem γ} {k : γ → Sem Flow} {rel : List Addr → Heap → γ → α → Prop} {Q : Flow → Shared → Prop}
    (e : M.then m ρ σ f = some o) (T : At C A fr env N β₀ s₀.heap β h σ ρ) (P : PostS C A fr env N β₀ s₀ Q E o)
    (h1 : ∀ (r' : R α) (Q' : γ → Shared → Prop), m σ = some r' → Post C fr β { s₀ with heap := h, toks := tk } rel Q' E r' → wpAny (model C.prog C.w) A t Q' E { s₀ with heap := h, toks := tk })
    (h2 : ∀ a σ₁ v β₁ h₁ tk₁, f a σ₁ = some o → Ext (frs fr) β h β₁ h₁ → At C A fr env N β₀ s₀.heap β₁ h₁ σ₁ ρ → rel β₁ h₁ v a → wpAny (model C.prog C.w) A (k v) Q E { s₀ with heap := h₁, toks := tk₁ }) :
    wpAny (model C.prog C.w) A (t >>= k) Q E { s₀ with heap := h, toks := tk } := by
  rcases then_some e with ⟨a, σ₁, e1, e⟩ | ⟨k, σ₁, e1, rfl⟩
  · exact wpAny_bind (h1 _ _ e1 fun v β₁ h₁ tk₁ x S ra => h2 a σ₁ v β₁ h₁ tk₁ e x ⟨T.x.trans x, T.I.next x S, T.V.next T.I x⟩ ra)
  · exact wpAny_bind (h1 _ _ e1 fun e β' h' tk' f => P e β' h' tk' (.inl (f.of_ext T.x)))

theorem ns_env (T : At C A fr env N β₀ s₀.heap β h σ ρ) : ∃ m, h.Ns env.locals m := let ⟨m, n, _⟩ := T.V.loc; ⟨m, n⟩

theorem store_ok {A' : Around} {x : Str} {v : Value} {d : PV} {Q : Unit → Shared → Prop} (hx : canStore N x = true) (G : EOK env N) (F : FOK C env N s₀.heap) (T : At C A fr env N β₀ s₀.heap β h σ ρ) (r : VR β h v d)
    (hq : ∀ h' tk', At C A fr env N β₀ s₀.heap β h' σ (Vars.set ρ x d) → Heap.ExtBut env.locals h h' ∨ (∃ c v, h.IsCell c v ∧ Heap.ExtBut c h h') → Q () { s₀ with heap := h', toks := tk' }) :
    wpAny (model C.prog C.w) A' (storeName env x v) Q E { s₀ with heap := h, toks := tk } := by
  have kn : env.kindOf x = N.lookup x := by unfold Env.kindOf; rw [G.names]
  unfold canStore at hx
  rw [Bool.or_eq_true, beq_iff_eq, beq_iff_eq] at hx
  obtain ⟨m, n, q⟩ := T.V.loc
  rcases hx with hl | hl
  · refine wpAny_storeName_local (kn.trans hl) n (fun h' hn' hs' => hq h' _ ⟨T.x.but F.fresh hs'.extBut, T.I.but hs'.extBut (base_fresh F F.fresh) (ns_core n) (fun _ => ⟨_, hn'⟩), ⟨_, hn', fun y d' hy hd => ?_⟩, fun y hy => ?_⟩ (.inl hs'.extBut)) (by rw [G.kind]; rfl)
    · have kp := keep3_but hs'.extBut (ns_core (β := β) n)
      by_cases hyx : y = x
      · subst hyx
        unfold Vars.set at hd; rw [if_pos rfl] at hd; cases hd
        exact ⟨v, by simp, r.core kp⟩
      · unfold Vars.set at hd; rw [if_neg hyx] at hd
        obtain ⟨v', hv', r'⟩ := q y d' hy hd
        exact ⟨v', by simp [hyx, hv'], r'.core kp⟩
    · have kp := keep3_but hs'.extBut (ns_core (β := β) n)
      obtain ⟨c, hc, ov, ⟨o, ho, hd⟩, qc⟩ := T.V.cel y hy
      have hne := (F.cells y c hy hc).2
      refine ⟨c, hc, ov, ⟨o, hs'.extBut c o hne ho, hd⟩, fun d' hd' => ?_⟩
      have hyx : y ≠ x := fun e => by subst e; rw [hl] at hy; cases hy
      unfold Vars.set at hd'; rw [if_neg hyx] at hd'
      obtain ⟨v', hv', r'⟩ := qc d' hd'
      exact ⟨v', hv', r'.core kp⟩
  · obtain ⟨c, hc, ov, hcell, qc⟩ := T.V.cel x hl
    obtain ⟨fc, ne⟩ := F.cells x c hl hc
    have sc := cell_core (β := β) hcell
    have nfr : c ∉ frs fr := fun hm => by
      obtain ⟨m', o, es, ep, ho, hd, _⟩ := T.I.fns c hm
      obtain ⟨o', ho', hd'⟩ := hcell
      rw [ho] at ho'; cases ho'; rw [hd] at hd'; cases hd'
    refine wpAny_storeName_cell G.kind (kn.trans hl) hc hcell fun h' hc' hs' => hq h' tk ⟨T.x.but fc hs'.extBut, T.I.but hs'.extBut (base_fresh F fc) sc (fun hm => absurd hm nfr), ⟨m, n.at' fun o e => hs'.extBut _ o ne.symm e, fun y d' hy hd => ?_⟩, fun y hy => ?_⟩ (.inr ⟨c, ov, hcell, hs'.extBut⟩)
    · have kp := keep3_but hs'.extBut sc
      have hyx : y ≠ x := fun e => by subst e; rw [hl] at hy; cases hy
      unfold Vars.set at hd; rw [if_neg hyx] at hd
      obtain ⟨v', hv', r'⟩ := q y d' hy hd
      exact ⟨v', hv', r'.core kp⟩
    · have kp := keep3_but hs'.extBut sc
      by_cases hyx : y = x
      · subst hyx
        refine ⟨c, hc, _, hc', fun d' hd' => ?_⟩
        unfold Vars.set at hd'; rw [if_pos rfl] at hd'; cases hd'
        exact ⟨v, rfl, r.core kp⟩
      · obtain ⟨c2, hc2, ov2, ⟨o, ho, hd⟩, qc2⟩ := T.V.cel y hy
        have hne : c2 ≠ c := fun e => by subst e; exact hyx (F.inj y x _ hy hl hc2 hc)
        refine ⟨c2, hc2, ov2, ⟨o, hs'.extBut c2 o hne ho, hd⟩, fun d' hd' => ?_⟩
        unfold Vars.set at hd'; rw [if_neg hyx] at hd'
        obtain ⟨v', hv', r'⟩ := qc2 d' hd'
        exact ⟨v', hv', r'.core kp⟩

/-! ## statements -/
def SS (C : Conf) (Γ : Ctx) (A : Around) (fr : List Env) (env : Env) (N : Names) (f : Vars → Store → Option SO) (t : Sem Flow) : Prop :=
  ∀ β₀ (s₀ : Shared) β h tk σ ρ o Q E, f ρ σ = some o → FOK C env N s₀.heap → PassesOwn (model C.prog C.w) A env E → At C A fr env N β₀ s₀.heap β h σ ρ → PostS C A fr env N β₀ s₀ Q E o → wpAny (model C.prog C.w) A t Q E { s₀ with heap := h, toks := tk }
abbrev SSt (C : Conf) (Γ : Ctx) (A : Around) (fr : List Env) (env : Env) (N : Names) (st : Stmt) : Prop := SS C Γ A fr env N (evS Γ N st) (exec st env)
abbrev SSs (C : Conf) (Γ : Ctx) (A : Around) (fr : List Env) (env : Env) (N : Names) (st : List Stmt) : Prop := SS C Γ A fr env N (evSs Γ N st) (execs st env)

theorem ss_nil : SSs C Γ A fr env N [] := fun β₀ s₀ β h tk σ ρ o Q E e F hE T P => by
  rw [evSs] at e; cases e
  exact wpAny_execs_nil (P β h tk T)
theorem ss_cons {st : Stmt} {r : List Stmt} (h1 : SSt C Γ A fr env N st) (h2 : SSs C Γ A fr env N r) : SSs C Γ A fr env N (st :: r) := fun β₀ s₀ β h tk σ ρ o Q E e F hE T P => by
  rw [evSs] at e
  refine wpAny_execs_cons ?_
  cases e1 : evS Γ N st ρ σ with
  | none => rw [e1] at e; cases e
  | some o1 =>
    rw [e1] at e
    refine h1 β₀ s₀ β h tk σ ρ o1 _ E e1 F hE T ?_
    cases o1 with
    | next ρ' σ' => exact fun β' h' tk' T' => h2 β₀ s₀ β' h' tk' σ' ρ' o Q E e F hE T' P
    | brk ρ' σ' => cases e; exact P
    | ret d σ' => cases e; exact P
    | exc k ρ' σ' => cases e; exact P
theorem s_Return (W : Snd C Γ A fr) (G : EOK env N) (x : Expr) (p : Pos) : SSt C Γ A fr env N (.Return (some x) p) := fun β₀ s₀ β h tk σ ρ o Q E e F hE T P => by
  rw [evS] at e
  refine wpAny_Return_some ?_
  rcases then_some e with ⟨a, σ₁, e1, e⟩ | ⟨k, σ₁, e1, rfl⟩
  · cases e
    exact expr_ok W x env N G β { s₀ with heap := h, toks := tk } σ ρ _ _ _ e1 T.I T.V fun v β₁ h₁ tk₁ x S ra => P v β₁ h₁ tk₁ (T.x.trans x) (T.I.next x S) ra
  · exact expr_ok W x env N G β { s₀ with heap := h, toks := tk } σ ρ _ _ _ e1 T.I T.V fun e β' h' tk' f => P e β' h' tk' (.inl (f.of_ext T.x))
theorem s_If (W : Snd C Γ A fr) (G : EOK env N) (t : Expr) {b o : List Stmt} (p : Pos) (h1 : SSs C Γ A fr env N b) (h2 : SSs C Γ A fr env N o) : SSt C Γ A fr env N (.If t b o p) := fun β₀ s₀ β h tk σ ρ o Q E e F hE T P => by
  rw [evS] at e
  refine wpAny_If ?_
  rcases then_some e with ⟨a, σ₁, e1, e⟩ | ⟨k, σ₁, e1, rfl⟩
  · refine test_ok W t env N G β { s₀ with heap := h, toks := tk } σ ρ _ _ _ e1 T.I T.V fun v β₁ h₁ tk₁ x S ra => ?_
    have ra' : v = a := ra
    subst ra'
    have T' : At C A fr env N β₀ s₀.heap β₁ h₁ σ₁ ρ := ⟨T.x.trans x, T.I.next x S, T.V.next T.I x⟩
    cases v with
    | true => exact h1 β₀ s₀ β₁ h₁ tk₁ σ₁ ρ _ Q E e F hE T' P
    | false => exact h2 β₀ s₀ β₁ h₁ tk₁ σ₁ ρ _ Q E e F hE T' P
  · exact test_ok W t env N G β { s₀ with heap := h, toks := tk } σ ρ _ _ _ e1 T.I T.V fun e β' h' tk' f => P e β' h' tk' (.inl (f.of_ext T.x))
theorem s_Break (p : Pos) : SSt C Γ A fr env N (.Break p) := fun β₀ s₀ β h tk σ ρ o Q E e F hE T P => by
  rw [evS] at e; cases e
  rw [arm_exec_Break]
  exact wpAny_bind (wpAny_standAt (wpAny_pure (P β h tk T)))
theorem s_Expr (W : Snd C Γ A fr) (G : EOK env N) {ob : Expr} {m : Str} {ap : Pos} {args : List Expr} {cp : Pos} (p : Pos) : SSt C Γ A fr env N (.Expr (.Call (.Attribute ob m ap) args [] cp) p) := fun β₀ s₀ β h tk σ ρ o Q E e F hE T P => by
  rw [evS] at e
  refine wpAny_Expr_any ?_ (by unfold interactive; rw [G.kind]; rfl) rfl
  rcases then_some e with ⟨a, σ₁, e1, e⟩ | ⟨k, σ₁, e1, rfl⟩
  · cases e
    exact expr_ok W _ env N G β { s₀ with heap := h, toks := tk } σ ρ _ _ _ e1 T.I T.V fun v β₁ h₁ tk₁ x S ra => P β₁ h₁ tk₁ ⟨T.x.trans x, T.I.next x S, T.V.next T.I x⟩
  · exact expr_ok W _ env N G β { s₀ with heap := h, toks := tk } σ ρ _ _ _ e1 T.I T.V fun e β' h' tk' f => P e β' h' tk' (.inl (f.of_ext T.x))
end
end Mine

-- M18
namespace Mine
open PySem PySem.W PyProof.Rows
variable [Z : Inhabited Frozen]

section
variable {C : Conf} {Γ : Ctx} {A : Around} {fr : List Env} {env : Env} {N : Names} {β₀ β : List Addr} {s₀ : Shared} {h h₁ : Heap} {σ : Store} {ρ : Vars} {E : Value → Shared → Prop} {tk : Tok}

theorem swaps_pure {value : Expr} {x : Str} {p : Pos} {line : Nat} : ∃ b, swapsWith value (some (.Name x p)) line env = pure b ∧ (b = true → (∃ elt gens scope q, value = .ListComp elt gens scope q) ∨ ∀ (Γ : Ctx) (N : Names) (ρ : Vars), evE Γ N ρ value = M.fail) := by
  cases value with
  | ListComp elt gens scope q => exact ⟨_, rfl, fun _ => .inl ⟨_, _, _, _, rfl⟩⟩
  | SetComp elt gens scope q => exact ⟨_, rfl, fun _ => .inr fun Γ N ρ => by rw [evE.eq_def]⟩
  | DictComp k elt gens scope q => exact ⟨_, rfl, fun _ => .inr fun Γ N ρ => by rw [evE.eq_def]⟩
  | _ => exact ⟨false, rfl, fun q => by cases q⟩

theorem adopt_at (F : FOK C env N s₀.heap) (T : At C A fr env N β₀ s₀.heap β h σ ρ) {D : Addr} {vs : List Value} {n : Nat} {ds : List PV} (l : IsL h D vs.toArray n) (q : VRs β h vs ds) (hn : D ∉ β) (fD : s₀.heap.get? D = none) : At C A fr env N β₀ s₀.heap (β ++ [D]) h (σ ++ [.list ds]) ρ := by
  have S := T.I.sr.adopt l q hn
  have x1 : Ext (frs fr) β₀ s₀.heap (β ++ [D]) h := by
    obtain ⟨new, hg, hnew⟩ := T.x.grow
    refine ⟨⟨new ++ [D], by rw [hg, List.append_assoc], fun a ha => ?_⟩, T.x.keep, T.x.slots⟩
    rcases List.mem_append.mp ha with ha | ha
    · exact hnew a ha
    · simp at ha; subst ha
      exact ⟨fD, fun hm => hn (by rw [hg]; exact List.mem_append_left _ hm)⟩
  have up : ∀ {v : Value} {d : PV}, VR β h v d → VR (β ++ [D]) h v d := by
    intro v d r
    induction r using VR.rec (motive_2 := fun vs ds _ => VRs (β ++ [D]) h vs ds) with
    | none => exact .none
    | bool b => exact .bool b
    | int i t => exact .int i t
    | str x t => exact .str x t
    | tup e _ ih => exact .tup e ih
    | ref e => exact .ref (by rw [List.getElem?_append_left (List.getElem?_eq_some_iff.mp e).1]; exact e)
    | rng e => exact .rng e
    | old => exact .old
    | nil => exact .nil
    | cons _ _ a b => exact .cons a b
  refine ⟨x1, T.I.move T.I.stays T.I.fns S fun a ha => ?_, ⟨?_, fun y hy => ?_⟩⟩
  · rcases List.mem_append.mp ha with ha | ha
    · exact T.I.fresh a ha
    · simp at ha; subst ha
      exact base_fresh F fD
  · obtain ⟨m, n', q'⟩ := T.V.loc
    exact ⟨m, n', fun y d hy hd => let ⟨v, hv, r⟩ := q' y d hy hd; ⟨v, hv, up r⟩⟩
  · obtain ⟨c, hc, ov, n', q'⟩ := T.V.cel y hy
    exact ⟨c, hc, ov, n', fun d hd => let ⟨v, hv, r⟩ := q' d hd; ⟨v, hv, up r⟩⟩

theorem s_AssignName (W : Snd C Γ A fr) (G : EOK env N) {x : Str} {value : Expr} (px p : Pos) : SSt C Γ A fr env N (.Assign [.Name x px] value p) := fun β₀ s₀ β h tk σ ρ o Q E e F hE T P => by
  rw [evS] at e
  split at e
  rotate_left
  · cases e
  rename_i hx
  obtain ⟨b, hs, hb⟩ := swaps_pure (env := env) (value := value) (x := x) (p := px) (line := p.line)
  cases b with
  | false =>
    refine wpAny_Assign_Name ?_ hs
    rcases then_some e with ⟨a, σ₁, e1, e⟩ | ⟨k, σ₁, e1, rfl⟩
    · cases e
      refine expr_ok W _ env N G β { s₀ with heap := h, toks := tk } σ ρ _ _ _ e1 T.I T.V fun v β₁ h₁ tk₁ x S ra => ?_
      exact store_ok (s₀ := s₀) (β₀ := β₀) hx G F ⟨T.x.trans x, T.I.next x S, T.V.next T.I x⟩ ra fun h' tk' T' _ => P _ _ _ T'
    · exact expr_ok W _ env N G β { s₀ with heap := h, toks := tk } σ ρ _ _ _ e1 T.I T.V fun e β' h' tk' f => P e β' h' tk' (.inl (f.of_ext T.x))
  | true =>
    rcases hb rfl with ⟨elt, gens, scope, q, rfl⟩ | hbad
    rotate_left
    · rw [hbad] at e
      rcases then_some e with ⟨a, σ₁, e1, e⟩ | ⟨k, σ₁, e1, rfl⟩ <;> exact (fail_some e1).elim
    have e0 : ∃ r, evE Γ N ρ (.ListComp elt gens scope q) σ = some r := by
      rcases then_some e with ⟨a, σ₁, e1, _⟩ | ⟨k, σ₁, e1, _⟩ <;> exact ⟨_, e1⟩
    by_cases hg : ∃ x px iter ifs, gens = [⟨.Name x px, iter, ifs, 0⟩]
    rotate_left
    · exfalso
      obtain ⟨r, e0⟩ := e0
      rw [evE_comp_bad fun x px iter ifs q => hg ⟨x, px, iter, ifs, q⟩] at e0
      exact fail_some e0
    obtain ⟨y, py, iter, ifs, rfl⟩ := hg
    rw [PySem.exec_Assign_Name_used _ _ _ _ hs]
    refine wpAny_bind (wpAny_standAt ?_)
    show wpAny _ _ ((comprehension (.ListComp elt [⟨.Name y py, iter, ifs, 0⟩] scope q) scope env (firstIterPos [⟨.Name y py, iter, ifs, 0⟩] q) (newList []) (firstAsync [⟨.Name y py, iter, ifs, 0⟩]) (firstIter [⟨.Name y py, iter, ifs, 0⟩] env) (some (assign (.Name x px) env)) >>= fun _ => pure ()) >>= fun _ => pure Flow.next) _ _ _
    refine wpAny_bind (wpAny_bind ?_)
    have eN : evE Γ N ρ (.ListComp elt [⟨.Name y py, iter, ifs, 0⟩] scope q) = if compOk N scope y = true then (do
        let vs ← compM (evE Γ N ρ iter) (fun d => evI Γ (relab N scope.names) (Vars.comp (relab N scope.names) ρ y d) ifs) (fun d => evE Γ (relab N scope.names) (Vars.comp (relab N scope.names) ρ y d) elt)
        newCell (.list vs)) else M.fail := by rw [evE]
    rw [eN] at e
    by_cases hok : compOk N scope y = true
    rotate_left
    · rw [if_neg hok] at e
      rcases then_some e with ⟨a, σ₁, e1, e⟩ | ⟨k, σ₁, e1, rfl⟩ <;> exact (fail_some e1).elim
    rw [if_pos hok] at e
    have oldL : ∀ J, h.get? J = none → s₀.heap.get? J = none := fun J hJ => fresh_back T.x T.I.sr hJ
    have fin : ∀ {r : R (List PV)}, compM (evE Γ N ρ iter) (fun d => evI Γ (relab N scope.names) (Vars.comp (relab N scope.names) ρ y d) ifs) (fun d => evE Γ (relab N scope.names) (Vars.comp (relab N scope.names) ρ y d) elt) σ = some r →
        (∀ k σ', r = .exc k σ' → o = .exc k ρ σ') → (∀ outs σ', r = .ok outs σ' → o = .next (Vars.set ρ x (.ref σ'.length)) (σ' ++ [.list outs])) →
        wpAny (model C.prog C.w) A (comprehension (.ListComp elt [⟨.Name y py, iter, ifs, 0⟩] scope q) scope env (firstIterPos [⟨.Name y py, iter, ifs, 0⟩] q) (newList []) false (eval iter env) (some (assign (.Name x px) env)))
          (fun _ s' => wpAny (model C.prog C.w) A (pure ()) (fun _ s'' => wpAny (model C.prog C.w) A (pure Flow.next) Q E s'') E s') E { s₀ with heap := h, toks := tk } := by
      intro r e1 hexc hok'
      obtain ⟨r', hr'⟩ := comp_src e1
      refine comp_core (use := some (assign (.Name x px) env)) (expr_ok W iter) (((exprs W _).2 ifs (Nat.le_refl _)).2.2.2.1) (expr_ok W elt) G hok e1 (fold_ok hr') T.I T.V (fun k σ' q e' β' h' tk' f => ?_) fun outs σ' q D L vs n m β' h' tk' xx I' D' q' nD fD fL nDL L' => ?_
      · have := hexc k σ' q; subst this
        exact P e' β' h' tk' (.inl (f.of_ext T.x))
      · have := hok' outs σ' q; subst this
        have T' : At C A fr env N β₀ s₀.heap β' h' σ' ρ := ⟨T.x.trans xx, I', T.V.next T.I xx⟩
        have T2 := adopt_at F T' D' q' nD (oldL D fD)
        refine wpAny_assign_Name (store_ok (s₀ := s₀) (β₀ := β₀) (d := .ref σ'.length) hx G F T2 (.ref (by rw [← I'.sr.len]; simp)) fun h2 tk2 T3 hch => ?_)
        have hlL : env.locals ≠ L := fun e => by
          obtain ⟨m', o', es, ep, ho, _⟩ := ns_env T
          rw [e] at ho; have := fL.symm.trans ho; cases this
        have L2 : h2.Ns L m := by
          rcases hch with k | ⟨c, v, hc, k⟩
          · exact L'.at' fun o e => k L o hlL.symm e
          · refine L'.at' fun o e => k L o (fun q => ?_) e
            subst q
            obtain ⟨o1, es, ep, ho1, hd1, _⟩ := L'
            obtain ⟨o2, ho2, hd2⟩ := hc
            rw [ho1] at ho2; cases ho2; rw [hd1] at hd2; cases hd2
        refine ⟨m, L2, fun h3 sb => wpAny_pure (wpAny_pure (P _ _ _ (T3.but F (oldL L fL) sb.extBut (ns_core L2) (fun hm => ?_) hlL fun z c hz hc q => ?_)))⟩
        · obtain ⟨m', o', es, ep, ho, _⟩ := T.I.fns L hm
          have := fL.symm.trans ho; cases this
        · subst q
          obtain ⟨c', hc', ov, ⟨o', ho', _⟩, _⟩ := T.V.cel z hz
          rw [hc] at hc'; cases hc'
          have := fL.symm.trans ho'; cases this
    rcases then_some e with ⟨a, σ₁, e1, e⟩ | ⟨k, σ₁, e1, rfl⟩
    · cases e
      rcases bind_some e1 with ⟨outs, σ₂, e2, e3⟩ | ⟨k, σ₂, e2, q⟩
      · unfold newCell at e3
        cases e3
        exact fin e2 (fun k σ' q => by cases q) fun outs' σ' q => by cases q; rfl
      · cases q
    · rcases bind_some e1 with ⟨outs, σ₂, e2, e3⟩ | ⟨k, σ₂, e2, q⟩
      · unfold newCell at e3; cases e3
      · cases q
        exact fin e2 (fun k' σ' q => by cases q; rfl) fun outs' σ' q => by cases q
end
end Mine

-- M19
namespace Mine
open PySem PySem.W PyProof.Rows
variable [Z : Inhabited Frozen]

section
variable {C : Conf} {Γ : Ctx} {A : Around} {fr : List Env} {env : Env} {N : Names} {β₀ β : List Addr} {s₀ : Shared} {h h₁ : Heap} {σ : Store} {ρ : Vars} {E : Value → Shared → Prop} {tk : Tok}

theorem names_some : ∀ {ts : List Expr} {xs : List Str} {f : Expr → Option Str}, targetNames ts = some xs → (∀ x p, f (.Name x p) = some x ∨ f (.Name x p) = none) →
    (ts.filterMap f).length ≤ ts.length ∧ xs.length = ts.length ∧ ((ts.filterMap f).length = ts.length → ts.filterMap f = xs) ∧ ∀ t ∈ ts, ∃ x p, t = .Name x p
  | [], xs, f, h, hf => by
    rw [targetNames] at h; cases h
    exact ⟨by simp, rfl, fun _ => rfl, fun t ht => (nomatch ht)⟩
  | t :: ts, xs, f, h, hf => by
    cases t with
    | Name x p =>
      rw [targetNames] at h
      obtain ⟨ys, hy, rfl⟩ := Option.map_eq_some_iff.mp h
      obtain ⟨h1, h2, h3, h4⟩ := names_some (f := f) hy hf
      refine ⟨?_, by simp [h2], ?_, fun t ht => ?_⟩
      · rcases hf x p with q | q <;> simp [List.filterMap_cons, q] <;> omega
      · intro hl
        rcases hf x p with q | q
        · simp only [List.filterMap_cons, q, List.length_cons] at hl ⊢
          rw [h3 (by omega)]
        · simp only [List.filterMap_cons, q, List.length_cons] at hl
          omega
      · rcases List.mem_cons.mp ht with rfl | ht
        · exact ⟨x, p, rfl⟩
        · exact h4 t ht
    | _ => rw [targetNames] at h <;> first | cases h | (intros; rename_i q; cases q)

theorem swapped_pure {ts : List Expr} {xs : List Str} {value : Expr} {k : Nat} {p : Pos} (hn : targetNames ts = some xs) (hv : tupleOk value = true) :
    ∃ o, swappedStores [.Tuple ts k p] value env = pure o ∧ (o = none ∨ o = some xs) := by
  cases value with
  | Tuple vs k2 q =>
    unfold tupleOk at hv
    simp only [Bool.not_eq_true'] at hv
    unfold swappedStores
    dsimp only
    split
    · exact ⟨none, rfl, .inl rfl⟩
    split
    · exact ⟨none, rfl, .inl rfl⟩
    split
    · exact ⟨none, rfl, .inl rfl⟩
    rename_i hlen
    split
    · exact ⟨none, rfl, .inl rfl⟩
    split
    · rename_i hc; rw [hv] at hc; cases hc
    · refine ⟨_, rfl, .inr ?_⟩
      have q := names_some (ts := ts) (xs := xs) (f := fun
        | .Name id pos => if (env.kindOf id == some .local && pos.line == (ts.head?.map (·.pos.line)).getD 0) = true then some id else none
        | _ => none) hn fun x p => by
          dsimp only
          split
          · exact .inl rfl
          · exact .inr rfl
      simp only [Bool.or_eq_true, not_or, Bool.not_eq_true, bne_eq_false_iff_eq] at hlen
      exact congrArg some (q.2.2.1 hlen.1)
  | _ => exact ⟨none, rfl, .inl rfl⟩

/-- a store by its name -/
def Stores (C : Conf) (A : Around) (env : Env) : List Str → List (Value → Sem Unit) → Prop
  | [], [] => True
  | x :: xs, t :: ts => (∀ v (s : Shared) (Q : Unit → Shared → Prop) E, wpAny (model C.prog C.w) A (storeName env x v) Q E s → wpAny (model C.prog C.w) A (t v) Q E s) ∧ Stores C A env xs ts
  | _, _ => False

theorem inOrder_ok (G : EOK env N) (F : FOK C env N s₀.heap) : ∀ (xs : List Str) (ts : List (Value → Sem Unit)) (vs : List Value) (ds : List PV) (h : Heap) (tk : Tok) (ρ : Vars) (Q : Unit → Shared → Prop), Stores C A env xs ts → xs.all (canStore N) = true → ds.length = xs.length →
    At C A fr env N β₀ s₀.heap β h σ ρ → VRs β h vs ds → (∀ h' tk', At C A fr env N β₀ s₀.heap β h' σ (Vars.setAll ρ xs ds) → Q () { s₀ with heap := h', toks := tk' }) →
    wpAny (model C.prog C.w) A (assignInOrder ts vs) Q E { s₀ with heap := h, toks := tk }
  | [], [], vs, ds, h, tk, ρ, Q, _, _, hl, T, r, hq => by
    have : assignInOrder [] vs = pure () := by cases vs <;> rfl
    rw [this]
    refine wpAny_pure (hq h tk ?_)
    have : Vars.setAll ρ [] ds = ρ := by cases ds <;> rfl
    rw [this]; exact T
  | x :: xs, t :: ts, [], ds, h, tk, ρ, Q, _, _, hl, T, r, hq => by
    cases r; simp at hl
  | x :: xs, t :: ts, v :: vs, ds, h, tk, ρ, Q, ⟨h1, h2⟩, ha, hl, T, r, hq => by
    cases r with
    | cons ra rr =>
      rw [List.all_cons, Bool.and_eq_true] at ha
      show wpAny _ _ (holding vs (t v) >>= fun _ => assignInOrder ts vs) _ _ _
      refine wpAny_bind (wpAny_holding (h1 _ _ _ _ (store_ok (s₀ := s₀) (β₀ := β₀) ha.1 G F T ra fun h' tk' T' hch => ?_)))
      have kp : Keep3 β h h' := by
        rcases hch with k | ⟨c, v, hc, k⟩
        · obtain ⟨m, n⟩ := ns_env T
          exact keep3_but k (ns_core n)
        · exact keep3_but k (cell_core hc)
      exact inOrder_ok G F xs ts vs _ h' tk' _ Q h2 ha.2 (by simpa using hl) T' (rr.core kp) hq
  | [], _ :: _, _, _, _, _, _, _, hs, _, _, _, _, _ => hs.elim
  | _ :: _, [], _, _, _, _, _, _, hs, _, _, _, _, _ => hs.elim

theorem set_set (ρ : Vars) {x y : Str} (d e : PV) (hne : x ≠ y) : Vars.set (Vars.set ρ x d) y e = Vars.set (Vars.set ρ y e) x d := by
  funext z
  unfold Vars.set
  by_cases h1 : z = y
  · subst h1
    rw [if_pos rfl, if_neg (Ne.symm hne), if_pos rfl]
  · rw [if_neg h1]
    by_cases h2 : z = x
    · rw [if_pos h2, if_pos h2]
    · rw [if_neg h2, if_neg h2, if_neg h1]
theorem setAll_rev {ρ : Vars} {xs : List Str} {ds : List PV} (hn : xs.Nodup) (hl : ds.length = xs.length) (h2 : 2 ≤ xs.length) (h3 : xs.length ≤ 3) : Vars.setAll ρ xs.reverse ds.reverse = Vars.setAll ρ xs ds := by
  rcases xs with _ | ⟨a, _ | ⟨b, _ | ⟨c, _ | ⟨z, r⟩⟩⟩⟩
  · simp at h2
  · simp at h2
  · rcases ds with _ | ⟨d, _ | ⟨e, _ | ⟨f, r'⟩⟩⟩ <;> simp at hl
    simp at hn
    show Vars.set (Vars.set ρ b e) a d = Vars.set (Vars.set ρ a d) b e
    exact set_set _ _ _ (Ne.symm hn)
  · rcases ds with _ | ⟨d, _ | ⟨e, _ | ⟨f, _ | ⟨g, r'⟩⟩⟩⟩ <;> simp at hl
    simp at hn
    show Vars.set (Vars.set (Vars.set ρ c f) b e) a d = Vars.set (Vars.set (Vars.set ρ a d) b e) c f
    rw [set_set _ f e (Ne.symm hn.2), set_set _ f d (Ne.symm hn.1.2), set_set _ e d (Ne.symm hn.1.1)]
  · simp at h3

theorem stores_names : ∀ {ts : List Expr} {xs : List Str}, targetNames ts = some xs → Stores C A env xs ((assignEach ts env).map (·.2)) ∧ (assignEach ts env).findIdx? (·.1) = none ∧ (assignEach ts env).length = xs.length
  | [], xs, h => by rw [targetNames] at h; cases h; exact ⟨trivial, rfl, rfl⟩
  | t :: ts, xs, h => by
    cases t with
    | Name x p =>
      rw [targetNames] at h
      obtain ⟨ys, hy, rfl⟩ := Option.map_eq_some_iff.mp h
      obtain ⟨h1, h2, h3⟩ := stores_names hy
      have e : assignEach (.Name x p :: ts) env = (false, assign (.Name x p) env) :: assignEach ts env := rfl
      rw [e]
      refine ⟨⟨fun v s Q E hq => wpAny_assign_Name hq, h1⟩, ?_, by simp [h3]⟩
      rw [List.findIdx?_cons]
      simp [h2]
    | _ => rw [targetNames] at h <;> first | cases h | (intros; rename_i q; cases q)

theorem unpack_ok {v : Value} {ds : List PV} {n : Nat} {Q : List Value → Shared → Prop} (F : FOK C env N s₀.heap) (T : At C A fr env N β₀ s₀.heap β h σ ρ) (r : VR β h v (.tup ds)) (hl : ds.length = n)
    (hq : ∀ vs h', VRs β h' vs ds → At C A fr env N β₀ s₀.heap β h' σ ρ → Q vs { s₀ with heap := h', toks := tk }) : wpAny (model C.prog C.w) A (unpackItems v n none) Q E { s₀ with heap := h, toks := tk } := by
  cases r with
  | tup l q =>
    rename_i a vs m
    have hz : n = vs.toArray.size := by simp [q.length, hl]
    rw [hz]
    refine wpAny_unpackItems_tuple T.I.hh (isTuple_at l) fun h' k => ?_
    have J : h.get? h.objs.size = none := get?_size h
    have sJ : Safe β h h.objs.size := .none J
    have kp := keep3_but k sJ
    have J0 := fresh_back T.x T.I.sr J
    have e : vs.toArray.toList = vs := by simp
    rw [e]
    refine hq vs h' (q.core kp) (T.but F J0 k sJ (fun hm => ?_) (fun e => ?_) fun y c hy hc e => ?_)
    · obtain ⟨m', o, es, ep, ho, _⟩ := T.I.fns _ hm
      rw [J] at ho; cases ho
    · obtain ⟨m', o, es, ep, ho, _⟩ := ns_env T
      rw [e, J] at ho; cases ho
    · subst e
      obtain ⟨c', hc', ov, ⟨o, ho, _⟩, _⟩ := T.V.cel y hy
      rw [hc] at hc'; cases hc'
      rw [J] at ho; cases ho

theorem exec_Assign_arm' (targets value pos) : exec (.Assign targets value pos) env = (do
    standAt pos
    if ← swapsWithSole targets value pos.line env then do
      evalThenUse value env fun v => assignAll v ((assignEach targets env).map (·.2))
      pure .next
    else do
      let v ← eval value env
      assignStores env v (← swappedStores targets value env) ((assignEach targets env).map (·.2))) := rfl

theorem s_AssignTuple (W : Snd C Γ A fr) (G : EOK env N) {ts : List Expr} {value : Expr} (k : Nat) (tp p : Pos) : SSt C Γ A fr env N (.Assign [.Tuple ts k tp] value p) := fun β₀ s₀ β h tk σ ρ o Q E e F hE T P => by
  rw [evS] at e
  split at e
  rotate_left
  · cases e
  rename_i xs hxs
  split at e
  rotate_left
  · cases e
  rename_i hc
  simp only [Bool.and_eq_true, decide_eq_true_eq] at hc
  obtain ⟨⟨⟨⟨hv, ha⟩, hn⟩, h2⟩, h3⟩ := hc
  obtain ⟨w, hw, hw'⟩ := swapped_pure (env := env) (k := k) (p := tp) hxs hv
  rw [exec_Assign_arm', hw]
  have hsw : swapsWithSole [.Tuple ts k tp] value p.line env = pure false := by
    cases value <;> rfl
  rw [hsw]
  refine wpAny_bind (wpAny_standAt (wpAny_bind (wpAny_pure ?_)))
  rw [if_neg (by decide)]
  refine At.go (rel := relV) e T P (fun r' Q' e1 P1 => expr_ok W _ env N G _ _ _ _ _ _ _ e1 T.I T.V P1) fun d σ₁ v β₁ h₁ tk₁ e x T₁ ra => ?_
  split at e
  rotate_left
  · cases e
  rename_i ds
  split at e
  rotate_left
  · cases e
  rename_i hl
  cases e
  refine wpAny_bind (wpAny_pure ?_)
  obtain ⟨st1, st2, st3⟩ := stores_names (C := C) (A := A) (env := env) hxs
  rcases hw' with rfl | rfl
  · show wpAny _ _ (assign (.Tuple ts k tp) env v >>= fun _ => pure Flow.next) _ _ _
    rw [arm_assign_Tuple]
    refine wpAny_bind (wpAny_bind (wpAny_standAt ?_))
    unfold unpack
    rw [st2]
    refine wpAny_bind (wpAny_holding (unpack_ok F T₁ ra (by rw [st3]; exact hl) fun vs h' rv T₂ => ?_))
    exact inOrder_ok G F xs _ vs ds h' _ ρ _ st1 ha hl T₂ rv fun h3 tk3 T₃ => wpAny_pure (P _ _ _ T₃)
  · show wpAny _ _ (rule "assign.swapped-stores" >>= fun _ => unpackItems v xs.length none >>= fun items => assignInOrder (xs.reverse.map fun n => bindName env n) items.reverse >>= fun _ => pure Flow.next) _ _ _
    refine wpAny_bind (wpAny_rule (wpAny_bind (unpack_ok F T₁ ra hl fun vs h' rv T₂ => wpAny_bind ?_)))
    have rev : ∀ {vs : List Value} {ds : List PV}, VRs β₁ h' vs ds → VRs β₁ h' vs.reverse ds.reverse := by
      intro vs
      induction vs with
      | nil => intro ds r; cases r; exact .nil
      | cons v vs ih => intro ds r; cases r with | cons a b => rw [List.reverse_cons, List.reverse_cons]; exact (ih b).append (.cons a .nil)
    have sts : ∀ ys : List Str, Stores C A env ys (ys.map fun n => bindName env n) := by
      intro ys
      induction ys with
      | nil => trivial
      | cons y ys ih => exact ⟨fun v s Q E hq => wpAny_bindName hq, ih⟩
    refine inOrder_ok G F xs.reverse _ vs.reverse ds.reverse h' _ ρ _ (sts _) (by rw [List.all_reverse]; exact ha) (by simp [hl]) T₂ (rev rv) fun h3' tk3 T₃ => wpAny_pure (P β₁ h3' tk3 ?_)
    rw [setAll_rev hn hl h2 h3] at T₃
    exact T₃
end
end Mine

-- M20
namespace Mine
open PySem PySem.W PyProof.Rows
variable [Z : Inhabited Frozen]

section
variable {C : Conf} {Γ : Ctx} {A : Around} {fr : List Env} {env : Env} {N : Names} {β₀ β : List Addr} {s₀ : Shared} {h h₁ : Heap} {σ : Store} {ρ : Vars} {E : Value → Shared → Prop} {tk : Tok}

/-- an item of a list is stored -/
theorem setItem_ok {l : Addr} {items : List Value} {n : Nat} {i : Int} {k : Nat} {t : Tok} {v : Value} {s : Shared} {Q : Unit → Shared → Prop} (hl : IsL s.heap l items.toArray n) (hn : k < items.length) (hf : Builtin.List.listFitsIndex i = true) (hi : i = (k : Int))
    (hQ : Q () { s with heap := s.heap.update l (Obj.mapSeq (·.setIfInBounds k v)) }) : wpAny (model C.prog C.w) A (setItem (.ref l) (.int i t) v) Q E s := by
  have hT : s.TypeIs (.ref l) "list" := ⟨_, hl, rfl⟩
  unfold setItem
  try with_reducible refine wpAny_holding ?_
  first | refine wpAny_bind (wpAny_pure ?_) | skip
  refine wpAny_bind (wpAny_sequenceKey hT (by decide) ?_)
  refine wpAny_bind (wpAny_callSpecial?_slot (name := Str.ofString "__setitem__") hT PySem.slot_list_setitem
    (wpAny_call_entry PySem.slot_list_setitem hT PySem.entry_list_setitem ?_ (PySem.args_list_setitem _ _ _)))
  show wpAny _ _ (Builtin.List.listSubscript? (.int i t) >>= _) _ _ s
  refine wpAny_bind (wpAny_listSubscript_int hf ?_)
  subst hi
  have hx : items.toArray[k]? = some items[k] := by simp [hn]
  show wpAny _ _ ((seqItemAt l k >>= fun r => pure (r.map (k, ·))) >>= _) _ _ s
  refine wpAny_bind (wpAny_bind (wpAny_seqItemAt hl rfl (wpAny_pure ?_)))
  rw [hx]
  show wpAny _ _ (setSeqItemAt l k v >>= _) _ _ s
  refine wpAny_bind (wpAny_setSeqItemAt hl rfl ?_)
  first
    | exact wpAny_bind (wpAny_pure (wpAny_pure ⟨.none, rfl, wpAny_pure hQ⟩))
    | exact wpAny_pure ⟨.none, rfl, wpAny_pure hQ⟩

theorem s_AssignItem (W : Snd C Γ A fr) (G : EOK env N) {ob i value : Expr} (ip p : Pos) : SSt C Γ A fr env N (.Assign [.Subscript ob i ip] value p) := fun β₀ s₀ β h tk σ ρ o Q E e F hE T P => by
  rw [evS] at e
  have hs : swapsWith value (some (.Subscript ob i ip)) p.line env = pure false := by cases value <;> rfl
  refine wpAny_Assign_Subscript ?_ hs
  rcases then_some e with ⟨v, σ₁, e1, e⟩ | ⟨k, σ₁, e1, rfl⟩
  rotate_left
  · exact expr_ok W _ env N G β { s₀ with heap := h, toks := tk } σ ρ _ _ _ e1 T.I T.V fun e β' h' tk' f => P e β' h' tk' (.inl (f.of_ext T.x))
  refine expr_ok W _ env N G β { s₀ with heap := h, toks := tk } σ ρ _ _ _ e1 T.I T.V fun vv β₁ h₁ tk₁ x1 S1 rv => ?_
  have T₁ : At C A fr env N β₀ s₀.heap β₁ h₁ σ₁ ρ := ⟨T.x.trans x1, T.I.next x1 S1, T.V.next T.I x1⟩
  rcases then_some e with ⟨ov, σ₂, e1, e⟩ | ⟨k, σ₂, e1, rfl⟩
  rotate_left
  · exact expr_ok W _ env N G β₁ { s₀ with heap := h₁, toks := tk₁ } σ₁ ρ _ _ _ e1 T₁.I T₁.V fun e β' h' tk' f => P e β' h' tk' (.inl (f.of_ext T₁.x))
  refine expr_ok W _ env N G β₁ { s₀ with heap := h₁, toks := tk₁ } σ₁ ρ _ _ _ e1 T₁.I T₁.V fun vo β₂ h₂ tk₂ x2 S2 ro => ?_
  have T₂ : At C A fr env N β₀ s₀.heap β₂ h₂ σ₂ ρ := ⟨T₁.x.trans x2, T₁.I.next x2 S2, T₁.V.next T₁.I x2⟩
  rcases then_some e with ⟨kv, σ₃, e1, e⟩ | ⟨k, σ₃, e1, rfl⟩
  rotate_left
  · exact expr_ok W _ env N G β₂ { s₀ with heap := h₂, toks := tk₂ } σ₂ ρ _ _ _ e1 T₂.I T₂.V fun e β' h' tk' f => P e β' h' tk' (.inl (f.of_ext T₂.x))
  refine expr_ok W _ env N G β₂ { s₀ with heap := h₂, toks := tk₂ } σ₂ ρ _ _ _ e1 T₂.I T₂.V fun vk β₃ h₃ tk₃ x3 S3 rk => ?_
  have T₃ : At C A fr env N β₀ s₀.heap β₃ h₃ σ₃ ρ := ⟨T₂.x.trans x3, T₂.I.next x3 S3, T₂.V.next T₂.I x3⟩
  obtain ⟨σ₄, e4, rfl⟩ := Option.map_eq_some_iff.mp e
  unfold setItemOf at e4
  split at e4
  rotate_left
  · cases e4
  rename_i n j
  split at e4
  rotate_left
  · cases e4
  rename_i ds hds
  split at e4
  rotate_left
  · cases e4
  rename_i hj
  cases e4
  have ro' := T₂.I.mono x3 ro
  have rv' := T₂.I.mono x3 (T₁.I.mono x2 rv)
  cases rk with
  | int _ tj =>
  obtain ⟨a1, vs, m1, rfl, h1, l1, q1⟩ := list_of T₃.I.sr ro' hds
  have hlen := q1.length
  obtain ⟨jn, rfl⟩ := Int.eq_ofNat_of_zero_le hj.1
  have hset : (vs.toArray.setIfInBounds jn vv) = (vs.set jn vv).toArray := by simp
  obtain ⟨xx, SS⟩ := T₃.I.sr.update T₃.I.fns (f := fun a => a.setIfInBounds jn vv) h1 l1 hset (q1.set jn rv')
  refine setItem_ok (s := { s₀ with heap := h₃, toks := tk₃ }) l1 (by omega) (fitsIndex_of (by omega) (by omega)) rfl ?_
  refine P β₃ _ tk₃ ⟨T₃.x.trans xx, T₃.I.next xx ?_, T₃.V.next T₃.I xx⟩
  simpa using SS

/-- the same stand, seen from a later heap -/
theorem rebase (F : FOK C env N s₀.heap) (T : At C A fr env N β₀ s₀.heap β h σ ρ) : ∃ g : Heap, FOK C env N g ∧ At C A fr env N β g β h σ ρ ∧ Ext (frs fr) β₀ s₀.heap β g ∧
    (∀ a o, h.get? a = some o → a ≠ env.locals → (∀ y c, N.lookup y = some .cell → env.cells.lookup y = some c → c ≠ a) → g.get? a = some o) ∧ (∀ a o, g.get? a = some o → h.get? a = some o) := by
  let as : List Addr := env.locals :: N.filterMap fun p => if N.lookup p.1 = some .cell then env.cells.lookup p.1 else none
  have hin : ∀ y c, N.lookup y = some .cell → env.cells.lookup y = some c → c ∈ as := fun y c hy hc => by
    refine List.mem_cons_of_mem _ (List.mem_filterMap.mpr ⟨(y, .cell), mem_of_lookup hy, ?_⟩)
    show (if N.lookup y = some .cell then env.cells.lookup y else none) = some c
    rw [if_pos hy]; exact hc
  have hout : ∀ a ∈ as, a = env.locals ∨ ∃ y, N.lookup y = some .cell ∧ env.cells.lookup y = some a := fun a ha => by
    rcases List.mem_cons.mp ha with q | ha
    · exact .inl q
    · obtain ⟨⟨y, k⟩, _, hq⟩ := List.mem_filterMap.mp ha
      dsimp only at hq
      split at hq
      · rename_i hy; exact .inr ⟨y, hy, hq⟩
      · cases hq
  have none0 : ∀ a ∈ as, s₀.heap.get? a = none := fun a ha => by
    rcases hout a ha with rfl | ⟨y, hy, hc⟩
    · exact F.fresh
    · exact (F.cells y a hy hc).1
  have keep : ∀ a o, h.get? a = some o → a ∉ as → (hideAll h as).get? a = some o := fun a o e n => hideAll_get as e n
  have old : ∀ a o, s₀.heap.get? a = some o → a ∉ as := fun a o e hm => by rw [none0 a hm] at e; cases e
  refine ⟨hideAll h as, ⟨hideAll_none as List.mem_cons_self, fun y c hy hc => ⟨hideAll_none as (hin y c hy hc), (F.cells y c hy hc).2⟩, F.inj, fun a o e => keep a o (T.I.stays a o e) (old a o (F.stays a o e))⟩,
    ⟨⟨⟨[], by simp, by simp⟩, fun a o e _ _ => of_hideAll as e, fun a o e _ => ⟨o.slots, of_hideAll as e⟩⟩, T.I, T.V⟩,
    ⟨T.x.grow, fun a o e n f => keep a o (T.x.keep a o e n f) (old a o e), fun a o e n => ?_⟩, fun a o e n1 n2 => keep a o e fun hm => ?_, fun a o e => of_hideAll as e⟩
  · obtain ⟨sl, q⟩ := T.x.slots a o e n
    exact ⟨sl, keep a _ q (old a o e)⟩
  · rcases hout a hm with q | ⟨y, hy, hc⟩
    · exact n1 q
    · exact n2 y a hy hc rfl

theorem s_While (W : Snd C Γ A fr) (G : EOK env N) {t : Expr} {body : List Stmt} (p : Pos) (h1 : SSs C Γ A fr env N body) : SSt C Γ A fr env N (.While t body [] p) := fun β₀ s₀ β h tk σ ρ o Q E e F hE T P => by
  rw [evS] at e
  refine wpAny_While ?_
  refine codeAny_whileLoop (fun n s' => ∃ β h tk σ ρ, s' = { s₀ with heap := h, toks := tk } ∧ At C A fr env N β₀ s₀.heap β h σ ρ ∧ whileGo (fun ρ' => evT Γ N ρ' t (evE Γ N ρ' t)) (fun ρ' σ' => evSs Γ N body ρ' σ') n ρ σ = some o) ?_ Γ.fuel ⟨β, h, tk, σ, ρ, rfl, T, e⟩
  rintro n s' ⟨β', h', tk', σ', ρ', rfl, T', e'⟩
  cases n with
  | zero => rw [whileGo] at e'; cases e'
  | succ n =>
    rw [whileGo] at e'
    refine wpAny_passesOwn hE ?_
    rcases then_some e' with ⟨c, σ₁, e1, e'⟩ | ⟨k, σ₁, e1, rfl⟩
    rotate_left
    · exact test_ok W t env N G β' { s₀ with heap := h', toks := tk' } σ' ρ' _ _ _ e1 T'.I T'.V fun e β' h' tk' f => P e β' h' tk' (.inl (f.of_ext T'.x))
    refine test_ok W t env N G β' { s₀ with heap := h', toks := tk' } σ' ρ' _ _ _ e1 T'.I T'.V fun v β₁ h₁ tk₁ x S ra => ?_
    have ra' : v = c := ra
    subst ra'
    have T₁ : At C A fr env N β₀ s₀.heap β₁ h₁ σ₁ ρ' := ⟨T'.x.trans x, T'.I.next x S, T'.V.next T'.I x⟩
    cases v with
    | false =>
      rw [if_neg (by decide)] at e'
      cases e'
      rw [if_neg (by decide)]
      exact wpAny_execs_nil (P β₁ h₁ tk₁ T₁)
    | true =>
      rw [if_pos rfl] at e'
      rw [if_pos rfl]
      refine wpAny_passesOwn hE ?_
      cases e2 : evSs Γ N body ρ' σ₁ with
      | none => rw [e2] at e'; cases e'
      | some o1 =>
        rw [e2] at e'
        refine h1 β₀ s₀ β₁ h₁ tk₁ σ₁ ρ' o1 _ E e2 F hE T₁ ?_
        cases o1 with
        | next ρ2 σ2 => exact fun β2 h2 tk2 T2 => ⟨n, Nat.lt_succ_self _, β2, h2, tk2, σ2, ρ2, rfl, T2, e'⟩
        | brk ρ2 σ2 => cases e'; exact P
        | ret d σ2 => cases e'; exact P
        | exc k ρ2 σ2 => cases e'; exact P

theorem VR.mono' {fr : List Addr} {β β₁ : List Addr} {h h₁ : Heap} {σ : Store} (S : SR β h σ) (F : ∀ a o, h.get? a = some o → (∀ es n, o.data ≠ .dict es n) → a ∉ fr) (x : Ext fr β h β₁ h₁) {v : Value} {d : PV} (r : VR β h v d) : VR β₁ h₁ v d := by
  induction r using VR.rec (motive_2 := fun vs ds _ => VRs β₁ h₁ vs ds) with
  | none => exact .none
  | bool b => exact .bool b
  | int i t => exact .int i t
  | str x t => exact .str x t
  | tup e _ ih => exact .tup (x.keep _ _ e (S.not_in e (by simp)) (F _ _ e (by intro es n q; cases q))) ih
  | ref e => exact .ref (x.at? e)
  | rng e => exact .rng (x.keep _ _ e (S.not_in e (by simp)) (F _ _ e (by intro es n q; cases q)))
  | old => exact .old
  | nil => exact .nil
  | cons _ _ a b => exact .cons a b
theorem VRs.mono' {fr : List Addr} {β β₁ : List Addr} {h h₁ : Heap} {σ : Store} (S : SR β h σ) (F : ∀ a o, h.get? a = some o → (∀ es n, o.data ≠ .dict es n) → a ∉ fr) (x : Ext fr β h β₁ h₁) {vs : List Value} {ds : List PV} (r : VRs β h vs ds) : VRs β₁ h₁ vs ds := by
  induction vs generalizing ds with
  | nil => cases r; exact .nil
  | cons v vs ih => cases r with | cons a b => exact .cons (a.mono' S F x) (ih b)
theorem ItAt.ext {fr : List Addr} {β β₁ : List Addr} {h h₁ : Heap} {σ : Store} {v : PV} {I : Addr} {i : Nat} (y : ItAt β h v I i) (S : SR β h σ) (F : ∀ a o, h.get? a = some o → (∀ es n, o.data ≠ .dict es n) → a ∉ fr) (x : Ext fr β h β₁ h₁) : ItAt β₁ h₁ v I i := by
  obtain ⟨o, ho, hc, fs, hd⟩ := y.obj
  have k : h₁.get? I = some o := x.keep I o ho (S.not_seq ho fun xs n q => by rw [hd] at q; cases q) (F _ _ ho fun es n q => by rw [hd] at q; cases q)
  have kk : ∀ o', h.get? I = some o' → h₁.get? I = some o' := fun o' e => by rw [ho] at e; cases e; exact k
  unfold ItAt at y ⊢
  split at y
  · obtain ⟨a, vs, n, l, q, o', ho', r⟩ := y
    exact ⟨a, vs, n, x.keep _ _ l (S.not_in l (by simp)) (F _ _ l (by intro es n q; cases q)), q.mono' S F x, o', kk _ ho', r⟩
  · obtain ⟨a, ha, o', ho', r⟩ := y; exact ⟨a, x.at? ha, o', kk _ ho', r⟩
  · obtain ⟨c, t, hk, o', ho', r⟩ := y; exact ⟨c, t, hk, o', kk _ ho', r⟩
  · exact kk _ y
  · exact y.elim

theorem s_For (W : Snd C Γ A fr) (G : EOK env N) {x : Str} {iter : Expr} {body : List Stmt} (px p : Pos) (h1 : SSs C Γ A fr env N body) : SSt C Γ A fr env N (.For (.Name x px) iter body [] p) := fun β₀ s₀ β h tk σ ρ o Q E e F hE T P => by
  rw [evS] at e
  split at e
  rotate_left
  · cases e
  rename_i hx
  have hfold : ∀ v, foldedSetIterable iter env v = pure v := by
    rcases then_some e with ⟨c, σ₁, e1, _⟩ | ⟨k, σ₁, e1, _⟩ <;> exact fold_ok e1
  refine wpAny_For ?_ hfold
  rcases then_some e with ⟨v, σ₁, e1, e⟩ | ⟨k, σ₁, e1, rfl⟩
  rotate_left
  · exact expr_ok W _ env N G β { s₀ with heap := h, toks := tk } σ ρ _ _ _ e1 T.I T.V fun e β' h' tk' f => P e β' h' tk' (.inl (f.of_ext T.x))
  refine expr_ok W _ env N G β { s₀ with heap := h, toks := tk } σ ρ _ _ _ e1 T.I T.V fun vv β₁ h₁ tk₁ x1 S1 rv => ?_
  have T₁ : At C A fr env N β₀ s₀.heap β₁ h₁ σ₁ ρ := ⟨T.x.trans x1, T.I.next x1 S1, T.V.next T.I x1⟩
  rcases then_some e with ⟨ds, σ₂, e2, e⟩ | ⟨k, σ₂, e2, rfl⟩
  rotate_left
  · obtain ⟨_, q, _⟩ := items_some e2; cases q
  obtain ⟨ds', q, hit, hlen⟩ := items_some e2
  cases q
  refine pyIter_ok (s := { s₀ with heap := h₁, toks := tk₁ }) hit T₁.I rv fun ob tk₂ hI => ?_
  have fJ1 : h₁.get? h₁.objs.size = none := get?_size h₁
  have fJ : s₀.heap.get? h₁.objs.size = none := fresh_back T₁.x T₁.I.sr fJ1
  have nfr : h₁.objs.size ∉ frs fr := fun hm => by
    obtain ⟨m', o', es, ep, ho, _⟩ := T₁.I.fns _ hm
    rw [fJ1] at ho; cases ho
  have nl : env.locals ≠ h₁.objs.size := fun q => by
    obtain ⟨m', o', es, ep, ho, _⟩ := ns_env T₁
    rw [q, fJ1] at ho; cases ho
  have nc : ∀ y c, N.lookup y = some .cell → env.cells.lookup y = some c → c ≠ h₁.objs.size := fun y c hy hc q => by
    subst q
    obtain ⟨c', hc', ov, ⟨o', ho', _⟩, _⟩ := T₁.V.cel y hy
    rw [hc] at hc'; cases hc'
    rw [fJ1] at ho'; cases ho'
  have k2 : Heap.ExtBut h₁.objs.size h₁ (h₁.push ob) := fun b o' _ e => Heap.get?_push_of_some _ e
  have T₂ := T₁.but F fJ k2 (.none fJ1) nfr nl nc
  generalize hJ : h₁.objs.size = J at hI fJ nfr nl nc T₂ ⊢
  generalize h₁.push ob = h₂ at hI T₂ ⊢
  dsimp only at hI ⊢
  refine codeAny_forLoop_any (fun n s' => ∃ i β h tk σ ρ, s' = { s₀ with heap := h, toks := tk } ∧ n = ds.length + 1 - i ∧ i ≤ ds.length ∧ At C A fr env N β₀ s₀.heap β h σ ρ ∧ ItAt β h v J i ∧ ItemsOf v σ ds ∧
    forGo x (fun _ σ' => stillB v ds σ') (fun ρ' σ' => evSs Γ N body ρ' σ') (ds.drop i) ρ σ = some o) ?_ (ds.length + 1) ⟨0, β₁, h₂, tk₂, σ₁, ρ, rfl, rfl, Nat.zero_le _, T₂, hI, hit, by simpa using e⟩
  rintro n s' ⟨i, β', h', tk', σ', ρ', rfl, rfl, hi, T', J', it', e'⟩
  by_cases hlt : i < ds.length
  · have hd : ds[i]? = some ds[i] := List.getElem?_eq_getElem hlt
    rw [List.drop_eq_getElem_cons hlt, forGo] at e'
    refine next_item (s := { s₀ with heap := h', toks := tk' }) it' hd T'.I J' fun w h3 tk3 rw3 J3 k3 => ?_
    have sJ := J'.core
    have T3 := T'.but F fJ k3 sJ nfr nl nc
    dsimp only
    have hlo : letOwnedTupleGo (.Name x px) (.ref J) w = pure () := rfl
    rw [hlo]
    refine wpAny_pure (wpAny_assign_Name (store_ok (s₀ := s₀) (β₀ := β₀) hx G F T3 rw3 fun h4 tk4 T4 hch => ?_))
    have J4 : ItAt β' h4 v J (i + 1) := by
      rcases hch with k | ⟨c, cv, hc, k⟩
      · obtain ⟨m, n⟩ := ns_env T3
        exact J3.but k (ns_core n) nl.symm
      · refine J3.but k (cell_core hc) fun q => ?_
        subst q
        obtain ⟨o1, ho1, hc1, fs, hd1⟩ := J3.obj
        obtain ⟨o2, ho2, hd2⟩ := hc
        rw [ho1] at ho2; cases ho2; rw [hd1] at hd2; cases hd2
    refine wpAny_passesOwn hE ?_
    obtain ⟨g, Fg, Tg, xg, kg, gk⟩ := rebase F T4
    have Jg : ∀ o, h4.get? J = some o → g.get? J = some o := fun o e => kg J o e nl.symm fun y c hy hc => nc y c hy hc
    have kc : ∀ a o, h4.get? a = some o → Core o → g.get? a = some o := fun a o e c => kg a o e (fun q => by
      subst q
      obtain ⟨m', n'⟩ := ns_env T4
      obtain ⟨o2, es, ep, ho2, hd2, _⟩ := n'
      rw [e] at ho2; cases ho2
      rcases c with ⟨xs, n, q⟩ | ⟨_, fs, q⟩ <;> rw [hd2] at q <;> cases q) fun y c' hy hc q => by
        subst q
        obtain ⟨c2, hc2, ov, ⟨o2, ho2, hd2⟩, _⟩ := T4.V.cel y hy
        rw [hc] at hc2; cases hc2
        rw [e] at ho2; cases ho2
        rcases c with ⟨xs, n, q⟩ | ⟨_, fs, q⟩ <;> rw [hd2] at q <;> cases q
    have kp : Keep3 β' h4 g := fun a o e c _ => kc a o e c
    have og : ∀ a, g.get? a = none → s₀.heap.get? a = none := fun a e => by
      cases q : s₀.heap.get? a with
      | none => rfl
      | some o =>
        by_cases hm : a ∈ β₀
        · obtain ⟨new, hg, _⟩ := T4.x.grow
          obtain ⟨_, _, l⟩ := T4.I.sr.isL (a := a) (by rw [hg]; exact List.mem_append_left _ hm)
          have := kc a _ l (.inl ⟨_, _, rfl⟩)
          rw [e] at this; cases this
        · obtain ⟨sl, q2⟩ := xg.slots a o q hm
          rw [e] at q2; cases q2
    cases e2 : evSs Γ N body (Vars.set ρ' x ds[i]) σ' with
    | none => rw [e2] at e'; cases e'
    | some o1 =>
      rw [e2] at e'
      refine h1 β' { s₀ with heap := g } β' h4 tk4 σ' _ o1 _ E e2 Fg hE Tg ?_
      cases o1 with
      | next ρ2 σ2 =>
        intro β5 h5 tk5 T5'
        have T5 : At C A fr env N β₀ s₀.heap β5 h5 σ2 ρ2 := ⟨xg.trans T5'.x, T5'.I, T5'.V⟩
        dsimp only at e'
        split at e'
        rotate_left
        · cases e'
        rename_i hst
        have it5 : ItemsOf v σ2 ds := by
          unfold stillB at hst
          split at hst
          · simp at hst
            exact hst
          · rename_i hne
            cases v <;> first | exact it' | exact (hne _ rfl).elim
        refine ⟨ds.length + 1 - (i + 1), by omega, i + 1, β5, h5, tk5, σ2, ρ2, rfl, rfl, hlt, T5, ?_, it5, e'⟩
        have Jn : ItAt β' g v J (i + 1) := by
          unfold ItAt at J4 ⊢
          split at J4
          · obtain ⟨a, vs, n, l, q, o', ho', r⟩ := J4
            exact ⟨a, vs, n, kc _ _ l (.inl ⟨_, _, rfl⟩), q.core kp, o', Jg _ ho', r⟩
          · obtain ⟨a, ha, o', ho', r⟩ := J4; exact ⟨a, ha, o', Jg _ ho', r⟩
          · obtain ⟨c, t, hk, o', ho', r⟩ := J4; exact ⟨c, t, hk, o', Jg _ ho', r⟩
          · exact Jg _ J4
          · exact J4.elim
        exact Jn.ext (T4.I.sr.core kp) (fun a o e hd => T4.I.fns.not (gk a o e) hd) T5'.x
      | brk ρ2 σ2 => cases e'; exact fun β5 h5 tk5 T5 => P β5 h5 tk5 ⟨xg.trans T5.x, T5.I, T5.V⟩
      | ret d σ2 => cases e'; exact fun v β5 h5 tk5 x5 I5 r5 => P v β5 h5 tk5 (xg.trans x5) I5 r5
      | exc k ρ2 σ2 => cases e'; exact fun e β5 h5 tk5 f => P e β5 h5 tk5 (f.imp (·.of_ext xg) fun m => ⟨xg.trans m.x, m.I, let ⟨ea, oe, vs, a0, h1, h2, h3, h4, h5, h6, h7⟩ := m.obj; ⟨ea, oe, vs, a0, h1, h2, h3, h4, h5, h6, og ea h7⟩⟩)
  · have hi' : i = ds.length := by omega
    subst hi'
    rw [List.drop_length, forGo] at e'
    cases e'
    refine next_end (s := { s₀ with heap := h', toks := tk' }) it' T'.I J' fun h3 tk3 k3 => ?_
    have T3 := T'.but F fJ k3 J'.core nfr nl nc
    exact wpAny_execs_nil (P β' h3 tk3 T3)
end
end Mine

-- M21
namespace Mine
open PySem PySem.W PyProof.Rows
variable [Z : Inhabited Frozen]

section
variable {C : Conf} {Γ : Ctx} {A : Around} {fr : List Env} {env : Env} {N : Names} {β₀ β : List Addr} {s₀ : Shared} {h h₁ : Heap} {σ : Store} {ρ : Vars} {E : Value → Shared → Prop} {tk : Tok}

theorem raise_own (W : Snd C Γ A fr) {k : Exn} {s : Shared} {x : Sem Value} {Q : Flow → Shared → Prop} (hh : A.handled = none)
    (h : wpAny (model C.prog C.w) A x (fun v s₁ => ∃ ea oe vs, v = .ref ea ∧ C.K.In s₁.heap ∧ s₁.heap.get? ea = some oe ∧ oe.cls = .ref (C.cls k) ∧ oe.data = .fields vs ∧ vs[1]? = some .none ∧ E (.ref ea) s₁) E s) :
    wpAny (model C.prog C.w) A (raiseStmt env (some x) none) Q E s := by
  unfold raiseStmt
  refine wpAny_bind (wpAny_mono h (fun v s₁ h₁ => ?_) fun _ _ x => x)
  obtain ⟨ea, oe, vs, rfl, X, he, hc, hd, h1, hE⟩ := h₁
  refine wpAny_bind (wpAny_pure ?_)
  have nc : ∀ c, oe.data ≠ .cls c := fun c q => by rw [hd] at q; cases q
  have isT : ∀ {Q : Bool → Shared → Prop} {E}, Q false s₁ → wpAny (model C.prog C.w) A (isType (.ref ea)) Q E s₁ := fun hq => by
    obtain ⟨hp, g, d, tk, os⟩ := s₁
    exact ks_wpAny_isType_inst he nc hq
  have tyE : ∀ {Q : Value → Shared → Prop} {E}, Q (.ref (C.cls k)) s₁ → wpAny (model C.prog C.w) A (typeOf (.ref ea)) Q E s₁ := fun hq => by
    simp only [typeOf]
    exact wpAny_bind (wpAny_load he (wpAny_pure (hc ▸ hq)))
  refine wpAny_bind (wpAny_holding ?_)
  unfold excFromValue isExcClass
  refine wpAny_bind (wpAny_bind (isT ?_))
  rw [if_neg (by decide)]
  refine wpAny_pure ?_
  rw [if_neg (by decide)]
  unfold isInstance
  refine wpAny_bind (wpAny_bind (tyE ((looks_subIn X (W.exSub k)) A _ E s₁ (fun _ _ e => e) ?_)))
  rw [if_pos rfl]
  refine wpAny_pure ?_
  dsimp only
  refine wpAny_bind (isT ?_)
  rw [if_neg (by decide)]
  unfold raisedInstance
  refine wpAny_bind (wpAny_bind (tyE (wpAny_bind ((looks_typeIn X (W.exType k)) A _ E s₁ (fun _ _ e => e) ?_))))
  rw [if_pos (by decide)]
  refine wpAny_pure ?_
  unfold setFlight
  refine wpAny_bind (wpAny_bind (wpAny_field he hd h1 ?_))
  rw [if_neg (by decide)]
  refine wpAny_pure ?_
  exact wpAny_raiseNew_none hh hE

theorem s_Raise (W : Snd C Γ A fr) (G : EOK env N) {X : Str} {ex : Expr} (xp cp p : Pos) : SSt C Γ A fr env N (.Raise (some (.Call (.Name X xp) [ex] [] cp)) none p) := fun β₀ s₀ β h tk σ ρ o Q E e F hE T P => by
  rw [evS] at e
  split at e
  rotate_left
  · cases e
  rename_i k hk
  split at e
  rotate_left
  · cases e
  rename_i hc
  simp only [Bool.and_eq_true, decide_eq_true_eq, beq_iff_eq] at hc
  obtain ⟨⟨hg, hdf⟩, hdbg⟩ := hc
  rw [arm_exec_Raise]
  refine wpAny_bind (wpAny_standAt ?_)
  show wpAny _ _ (raiseStmt env (some (eval (.Call (.Name X xp) [ex] [] cp) env >>= fun v => standAt p >>= fun _ => pure v)) none) _ _ _
  have hns : plainArgs [ex] = true ∨ ∀ (Γ : Ctx) N ρ, evE Γ N ρ ex = M.fail := by
    cases ex with
    | Starred a b => exact .inr fun Γ N ρ => by rw [evE.eq_def]
    | _ => exact .inl rfl
  rcases hns with hp | hbad
  rotate_left
  · rw [hbad] at e
    rcases then_some e with ⟨a, σ₁, e1, e⟩ | ⟨k, σ₁, e1, rfl⟩ <;> exact (fail_some e1).elim
  refine raise_own (k := k) W T.I.hh ?_
  have hcls := W.exns X k hk
  refine wpAny_bind (wpAny_Call_NameR (name_glob G T.I hg hdbg hcls ?_))
  refine callWith_of (P := C.K.In) (by rw [plain_any hp cp env]; rfl) (keeps_K (W.exCall k)) (evalArgs_all hp ?_)
  have hst : starEach [ex] env = [(false, eval ex env)] := by
    cases ex <;> first | rfl | (unfold plainArgs at hp; simp at hp)
  rw [hst]
  refine PySem.Calls.spliced_cons ?_
  rcases then_some e with ⟨v, σ₁, e1, e⟩ | ⟨k, σ₁, e1, rfl⟩
  rotate_left
  · exact expr_ok W _ env N G β { s₀ with heap := h, toks := tk } σ ρ _ _ _ e1 T.I T.V fun e β' h' tk' f => P e β' h' tk' (.inl (f.of_ext T.x))
  refine expr_ok W _ env N G β { s₀ with heap := h, toks := tk } σ ρ _ _ _ e1 T.I T.V fun vv β₁ h₁ tk₁ x1 S1 rv => ?_
  have T₁ : At C A fr env N β₀ s₀.heap β₁ h₁ σ₁ ρ := ⟨T.x.trans x1, T.I.next x1 S1, T.V.next T.I x1⟩
  refine PySem.Calls.spliced_nil ?_
  refine ⟨inK_now T₁.I, ?_⟩
  split at e
  rotate_left
  · cases e
  rename_i y
  split at e
  rotate_left
  · cases e
  rename_i hy
  cases e
  cases rv with
  | str _ ty =>
  refine W.make k β₁ { s₀ with heap := h₁, toks := tk₁ } σ₁ y ty _ _ T₁.I (text_le hy) fun h' tk' ea oe vs a0 kk fe he hc hd h0 h1 => ?_
  have xk : Ext (frs fr) β₁ h₁ β₁ h' := .of_keeps kk
  have I' := T₁.I.next xk (T₁.I.sr.keeps T₁.I.fns fun a o e _ => kk a o e)
  refine wpAny_bind (wpAny_standAt (wpAny_pure ⟨ea, oe, vs, rfl, inK_now I', he, hc, hd, h1, P _ _ _ _ (.inr ⟨T₁.x.trans xk, I', ea, oe, vs, a0, rfl, he, hc, hd, h0, h1, fresh_back T₁.x T₁.I.sr fe⟩)⟩))
end
end Mine

-- M22
namespace Mine
open PySem PySem.W PyProof.Rows
variable [Z : Inhabited Frozen]

section
variable {C : Conf} {Γ : Ctx} {A : Around} {fr : List Env} {env : Env} {N : Names} {β₀ β β' : List Addr} {s₀ : Shared} {h h₁ h' h3 : Heap} {σ σ' : Store} {ρ : Vars} {E : Value → Shared → Prop} {tk : Tok}

theorem Fly.ext {k : Exn} {e : Value} (I : Inv C A fr β h σ) (f : Fly C fr β h k σ' e β' h') {B : Heap} (hB : ∀ a o, h.get? a = some o → a ∉ β → a ∉ frs fr → B.get? a = some o) (up : h'.UpToSlots h3) (st : B.StaysIn h3) : Ext (frs fr) β h β' h3 := by
  refine ⟨f.grow, fun a o e n m => st _ _ (hB a o e n m), fun a o e n => ?_⟩
  by_cases hf : ∃ vs, o.data = .fields vs
  · obtain ⟨vs, hvs⟩ := hf
    exact ⟨o.slots, st _ _ (hB a o e n (I.fns.not e fun es p q => by rw [hvs] at q; cases q))⟩
  · obtain ⟨sl, q⟩ := f.slots a o e n
    obtain ⟨sl2, q2⟩ := up a _ q fun vs q => hf ⟨vs, q⟩
    exact ⟨sl2, q2⟩

theorem call_eq {f : Str} {fp cp : Pos} {args : List Expr} (hg : isGlob N f = true) (hd : f ≠ ("__debug__" : Str)) (hp : plainArgs args = true) (hdef : Γ.isDef f = true) : evE Γ N ρ (.Call (.Name f fp) args [] cp) = (do
    let vs ← evEs Γ N ρ args
    Γ.call f vs) := by
  rw [evE.eq_def]
  dsimp only
  rw [if_neg (by rw [hdef]; simp), if_pos ⟨hg, hd, hp⟩, if_pos hdef]

theorem s_Try (W : Snd C Γ A fr) (G : EOK env N) (hfr : ∃ outer, fr = env :: outer) (hfL : ∃ L, env.frame = some L) {x f X y : Str} {args : List Expr} {k2 : Nat} (px fp cp p1 xp py p4 p2 p3 p : Pos) :
    SSt C Γ A fr env N (.Try [.Assign [.Name x px] (.Call (.Name f fp) args [] cp) p1] [.ExceptHandler (some (.Name X xp)) .none [.Assign [.Name y py] (.Constant .none k2 p4) p2] p3] [] [] p) := fun β₀ s₀ β h tk σ ρ o Q E e F hE T P => by
  obtain ⟨outer, hfr⟩ := hfr
  obtain ⟨L, hfL⟩ := hfL
  rw [evS] at e
  split at e
  rotate_left
  · cases e
  rename_i hc
  simp only [Bool.and_eq_true, decide_eq_true_eq] at hc
  obtain ⟨⟨⟨⟨⟨⟨⟨hx, hy⟩, hgX⟩, hdX⟩, hgf⟩, hdf⟩, hdef⟩, hp⟩ := hc
  have ec := call_eq (ρ := ρ) (fp := fp) (cp := cp) hgf hdf hp hdef
  refine wpAny_Try_except (wpAny_execs_cons (wpAny_Assign_Name ?_ rfl))
  cases eX : Γ.exn X with
  | none => rw [eX] at e; dsimp only at e; cases e
  | some k =>
  rw [eX, ← ec] at e
  cases e1 : evE Γ N ρ (.Call (.Name f fp) args [] cp) σ with
  | none => rw [e1] at e; cases e
  | some r =>
  rw [e1] at e
  refine expr_ok W _ env N G β { s₀ with heap := h, toks := tk } σ ρ r _ _ e1 T.I T.V ?_
  cases r with
  | ok d σ₁ =>
    cases e
    intro v β₁ h₁ tk₁ x1 S1 rv
    have T₁ : At C A fr env N β₀ s₀.heap β₁ h₁ σ₁ ρ := ⟨T.x.trans x1, T.I.next x1 S1, T.V.next T.I x1⟩
    exact store_ok (s₀ := s₀) (β₀ := β₀) hx G F T₁ rv fun h' tk' T' _ => wpAny_execs_nil (wpAny_execs_nil (P _ _ _ T'))
  | exc k' σ₁ =>
    dsimp only at e
    split at e
    rotate_left
    · cases e
    rename_i hk
    subst hk
    cases e
    intro e β₁ h₁ tk₁ fl
    obtain ⟨ea, B, a0, rfl, hfly, hB, hS⟩ := fl.fly
    have hfl' := hfly
    rw [hfr] at hfl'
    refine wpAny_looks_onW (L := L) (by rw [T.I.frames, hfr]) hfL hfl' fun h2 held up2 => ?_
    refine wpAny_landsW held fun h3 fly3 up3 => ?_
    have xB : Ext (frs fr) β h β₁ h3 := fl.ext T.I hB (up2.trans up3) fly3.1
    have I3 := T.I.next xB (hS.core fun a o e _ _ => fly3.1 a o e)
    obtain ⟨ob, hob, hobc⟩ := fly3.there
    have X3 := inK_now I3
    have hcls := W.exns X k eX
    refine wpAny_handleBy_cons (codeAny_handlers_test ?_) (by intro q; cases q)
    refine PySem.Calls.Name_function_global G.kind (glob_name G hgX) (PySem.Calls.loadGlobal_global (G.glob ▸ globNow I3) hcls ?_) (debug_ne hdX)
    refine (exm_one X3 (fun A Q E s kk q => by simp only [typeOf]; exact wpAny_bind (wpAny_load (kk _ _ hob) (wpAny_pure (hobc ▸ q)))) (W.exMatch k)) _ _ _ _ (fun _ _ e => e) ?_
    rw [if_pos rfl]
    refine codeAny_handlers_suite ?_
    refine lands_againW fly3 fun h4 fly4 up4 => ?_
    have x4 : Ext (frs fr) β h β₁ h4 := fl.ext T.I hB ((up2.trans up3).trans up4) fly4.1
    have T4 : At C A fr env N β₀ s₀.heap β₁ h4 σ₁ ρ := ⟨T.x.trans x4, T.I.next x4 (hS.core fun a o e _ _ => fly4.1 a o e), T.V.next T.I x4⟩
    refine wpAny_execs_cons (wpAny_Assign_Name ?_ rfl)
    show wpAny _ _ (constValue env .none) _ _ _
    refine wpAny_pure ?_
    exact store_ok (s₀ := s₀) (β₀ := β₀) hy G F T4 .none fun h' tk' T' _ => wpAny_execs_nil (P _ _ _ T')
end
end Mine

-- M23
namespace Mine
open PySem PySem.W PyProof.Rows
variable [Z : Inhabited Frozen]

section
variable {C : Conf} {Γ : Ctx} {A : Around} {fr : List Env} {env : Env} {N : Names} {β₀ β : List Addr} {s₀ : Shared} {h h₁ : Heap} {σ : Store} {ρ : Vars} {E : Value → Shared → Prop} {tk : Tok}

theorem s_bad {st : Stmt} (hb : ∀ ρ σ, evS Γ N st ρ σ = none) : SSt C Γ A fr env N st := fun β₀ s₀ β h tk σ ρ o Q E e F hE T P => by
  rw [hb] at e; cases e

theorem evS_raise {exc cause : Option Expr} {p : Pos} (hn : ¬ ∃ X xp ex cp, exc = some (.Call (.Name X xp) [ex] [] cp) ∧ cause = none) (ρ : Vars) (σ : Store) : evS Γ N (.Raise exc cause p) ρ σ = none := by
  rw [evS.eq_def]
  split
  all_goals first
    | rfl
    | (exfalso; rename_i q; injection q with q1 q2; subst q1 q2; exact hn ⟨_, _, _, _, rfl, rfl⟩)
    | (exfalso; rename_i q; injection q)
theorem evS_try {body : List Stmt} {hs : List ExceptHandler} {orelse fin : List Stmt} {p : Pos} (hn : ¬ ∃ x px f fp args cp p1 X xp y py k p4 p2 p3, body = [.Assign [.Name x px] (.Call (.Name f fp) args [] cp) p1] ∧ hs = [.ExceptHandler (some (.Name X xp)) .none [.Assign [.Name y py] (.Constant .none k p4) p2] p3] ∧ orelse = [] ∧ fin = [])
    (ρ : Vars) (σ : Store) : evS Γ N (.Try body hs orelse fin p) ρ σ = none := by
  rw [evS.eq_def]
  split
  all_goals first
    | rfl
    | (exfalso; rename_i q; injection q with q1 q2 q3 q4; subst q1 q2 q3 q4; exact hn ⟨_, _, _, _, _, _, _, _, _, _, _, _, _, _, _, rfl, rfl, rfl, rfl⟩)
    | (exfalso; rename_i q; injection q)
theorem evS_assign {ts : List Expr} {v : Expr} {p : Pos} (h1 : ∀ x q, ts ≠ [.Name x q]) (h2 : ∀ es k q, ts ≠ [.Tuple es k q]) (h3 : ∀ o i q, ts ≠ [.Subscript o i q]) (ρ : Vars) (σ : Store) : evS Γ N (.Assign ts v p) ρ σ = none := by
  rw [evS.eq_def]
  split
  all_goals first
    | rfl
    | (exfalso; rename_i q; injection q with q1 q2; exact h1 _ _ q1)
    | (exfalso; rename_i q; injection q with q1 q2; exact h2 _ _ _ q1)
    | (exfalso; rename_i q; injection q with q1 q2; exact h3 _ _ _ q1)
    | (exfalso; rename_i q; injection q)
theorem evS_expr {v : Expr} {p : Pos} (h1 : ∀ o m ap args cp, v ≠ .Call (.Attribute o m ap) args [] cp) (ρ : Vars) (σ : Store) : evS Γ N (.Expr v p) ρ σ = none := by
  rw [evS.eq_def]
  split
  all_goals first
    | rfl
    | (exfalso; rename_i q; injection q with q1 q2; exact h1 _ _ _ _ _ q1)
    | (exfalso; rename_i q; injection q)
theorem evS_for {t it : Expr} {body orelse : List Stmt} {p : Pos} (h1 : ¬ ∃ x q, t = .Name x q ∧ orelse = []) (ρ : Vars) (σ : Store) : evS Γ N (.For t it body orelse p) ρ σ = none := by
  rw [evS.eq_def]
  split
  all_goals first
    | rfl
    | (exfalso; rename_i q; injection q with q1 q2 q3 q4; subst q1 q4; exact h1 ⟨_, _, rfl, rfl⟩)
    | (exfalso; rename_i q; injection q)

theorem stmts (W : Snd C Γ A fr) (G : EOK env N) (hfr : ∃ outer, fr = env :: outer) (hfL : ∃ L, env.frame = some L) : ∀ n : Nat, (∀ st : Stmt, sizeOf st ≤ n → SSt C Γ A fr env N st) ∧ (∀ sts : List Stmt, sizeOf sts ≤ n → SSs C Γ A fr env N sts) := by
  intro n
  induction n with
  | zero =>
    refine ⟨fun x hx => ?_, fun xs hx => ?_⟩
    · exfalso; cases x <;> simp at hx
    · exfalso; cases xs <;> simp at hx
  | succ n ih =>
    obtain ⟨ihS, ihL⟩ := ih
    refine ⟨fun st hx => ?_, fun sts hx => ?_⟩
    · cases st with
      | Return v p =>
        cases v with
        | some v => exact s_Return W G v p
        | none => exact s_bad fun ρ σ => by rw [evS.eq_def]
      | Assign ts v p =>
        by_cases h1 : ∃ x q, ts = [.Name x q]
        · obtain ⟨x, q, rfl⟩ := h1; exact s_AssignName W G q p
        by_cases h2 : ∃ es k q, ts = [.Tuple es k q]
        · obtain ⟨es, k, q, rfl⟩ := h2; exact s_AssignTuple W G k q p
        by_cases h3 : ∃ o i q, ts = [.Subscript o i q]
        · obtain ⟨o, i, q, rfl⟩ := h3; exact s_AssignItem W G q p
        exact s_bad (evS_assign (fun x q e => h1 ⟨x, q, e⟩) (fun a b c e => h2 ⟨a, b, c, e⟩) fun a b c e => h3 ⟨a, b, c, e⟩)
      | If t b o p => exact s_If W G t p (ihL b (by simp at hx; omega)) (ihL o (by simp at hx; omega))
      | For t it body orelse p =>
        by_cases h1 : ∃ x q, t = .Name x q ∧ orelse = []
        · obtain ⟨x, q, rfl, rfl⟩ := h1
          exact s_For W G q p (ihL body (by simp at hx; omega))
        · exact s_bad (evS_for h1)
      | While t body orelse p =>
        cases orelse with
        | nil => exact s_While W G p (ihL body (by simp at hx; omega))
        | cons a r => exact s_bad fun ρ σ => by rw [evS.eq_def]
      | Break p => exact s_Break p
      | Raise exc cause p =>
        by_cases h1 : ∃ X xp ex cp, exc = some (.Call (.Name X xp) [ex] [] cp) ∧ cause = none
        · obtain ⟨X, xp, ex, cp, rfl, rfl⟩ := h1
          exact s_Raise W G xp cp p
        · exact s_bad (evS_raise h1)
      | Try body hs orelse fin p =>
        by_cases h1 : ∃ x px f fp args cp p1 X xp y py k p4 p2 p3, body = [.Assign [.Name x px] (.Call (.Name f fp) args [] cp) p1] ∧ hs = [.ExceptHandler (some (.Name X xp)) .none [.Assign [.Name y py] (.Constant .none k p4) p2] p3] ∧ orelse = [] ∧ fin = []
        · obtain ⟨x, px, f, fp, args, cp, p1, X, xp, y, py, k, p4, p2, p3, rfl, rfl, rfl, rfl⟩ := h1
          exact s_Try W G hfr hfL px fp cp p1 xp py p4 p2 p3 p
        · exact s_bad (evS_try h1)
      | Expr v p =>
        by_cases h1 : ∃ o m ap args cp, v = .Call (.Attribute o m ap) args [] cp
        · obtain ⟨o, m, ap, args, cp, rfl⟩ := h1
          exact s_Expr W G p
        · exact s_bad (evS_expr fun o m ap args cp e => h1 ⟨o, m, ap, args, cp, e⟩)
      | _ => exact s_bad fun ρ σ => by rw [evS.eq_def]
    · cases sts with
      | nil => exact ss_nil
      | cons st r => exact ss_cons (ihS st (by simp at hx; omega)) (ihL r (by simp at hx; omega))
theorem stmts_ok (W : Snd C Γ A fr) (G : EOK env N) (hfr : ∃ outer, fr = env :: outer) (hfL : ∃ L, env.frame = some L) (sts : List Stmt) : SSs C Γ A fr env N sts := (stmts W G hfr hfL _).2 sts (Nat.le_refl _)
end
end Mine

-- M24
namespace Mine
open PySem PySem.W PyProof.Rows
variable [Z : Inhabited Frozen]

theorem cells_some : ∀ (names : List (Str × NameKind)) (n : Nat) (acc : List (Str × Addr)) (x : Str), ((x, NameKind.cell) ∈ names ∨ (acc.lookup x).isSome = true) → ((cellsFrom n names acc).lookup x).isSome = true
  | [], _, acc, x, h => by
    rcases h with h | h
    · cases h
    · exact h
  | (m, k) :: r, n, acc, x, h => by
    unfold cellsFrom
    split
    · rename_i hk
      refine cells_some r _ _ x ?_
      by_cases hx : x = m
      · subst hx; exact .inr (by simp)
      · rcases h with h | h
        · rcases List.mem_cons.mp h with e | h
          · cases e; exact absurd rfl hx
          · exact .inl h
        · right
          rw [List.lookup_cons]
          have : (x == m) = false := by simpa using hx
          rw [this]; exact h
    · rename_i hk
      refine cells_some r _ _ x ?_
      rcases h with h | h
      · rcases List.mem_cons.mp h with e | h
        · cases e; simp at hk
        · exact .inl h
      · exact .inr h

/-- the text's function in the heap -/
structure FnOK (C : Conf) (D : Def) (a : Addr) (o : Obj) (fd : FuncData) : Prop where
  at_ : C.base.get? a = some o
  data : o.data = .func fd
  code : C.base.CodeRec fd.code fd.qualname
  body : fd.body = .stmts D.body
  bind : ∀ vals : List Value, vals.length = D.params.length → bindArgs fd ⟨vals, []⟩ = pure (D.params.zip vals)
  clo : fd.closure = []
  kind : fd.scope.kind = .function
  co : fd.scope.isCoroutine = false
  gen : fd.scope.isGenerator = false
  names : fd.scope.names = D.names
  glob : fd.globals = mainGlobals
  bui : fd.builtins = builtinsNs
  pars : D.params.all (canStore D.names) = true

section
variable {C : Conf} {Γ : Ctx} {A : Around} {fr : List Env} {N : Names} {β : List Addr} {h : Heap} {σ : Store} {E : Value → Shared → Prop}

theorem binds_loc {kindOf : Str → Option NameKind} : ∀ (ps : List Str) (vs : List Value) (ds : List PV) (m : Str → Option Value) (ρ : Vars), VRs β h vs ds → ds.length = ps.length →
    (∀ x d, kindOf x = some .local → ρ x = some d → ∃ v, m x = some v ∧ VR β h v d) → ∀ x d, kindOf x = some .local → Vars.setAll ρ ps ds x = some d → ∃ v, bindL kindOf (ps.zip vs) m x = some v ∧ VR β h v d
  | [], vs, ds, m, ρ, r, hl, hm => by
    have : Vars.setAll ρ [] ds = ρ := by cases ds <;> rfl
    rw [this]; exact hm
  | p :: ps, vs, ds, m, ρ, r, hl, hm => by
    cases r with
    | nil => simp at hl
    | cons ra rr =>
      rename_i v vs d ds
      refine binds_loc ps vs ds _ _ rr (by simpa using hl) fun x e hx he => ?_
      unfold Vars.set at he
      by_cases hxp : x = p
      · subst hxp
        rw [if_pos rfl] at he; cases he
        exact ⟨v, by rw [if_pos hx]; simp, ra⟩
      · rw [if_neg hxp] at he
        obtain ⟨w, hw, rw'⟩ := hm x e hx he
        refine ⟨w, ?_, rw'⟩
        split <;> simp [hxp, hw]
theorem binds_cell {kindOf : Str → Option NameKind} : ∀ (ps : List Str) (vs : List Value) (ds : List PV) (m : Str → Option Value) (ρ : Vars), VRs β h vs ds → ds.length = ps.length →
    (∀ x d, kindOf x = some .cell → ρ x = some d → ∃ v, m x = some v ∧ VR β h v d) → ∀ x d, kindOf x = some .cell → Vars.setAll ρ ps ds x = some d → ∃ v, bindC kindOf (ps.zip vs) m x = some v ∧ VR β h v d
  | [], vs, ds, m, ρ, r, hl, hm => by
    have : Vars.setAll ρ [] ds = ρ := by cases ds <;> rfl
    rw [this]; exact hm
  | p :: ps, vs, ds, m, ρ, r, hl, hm => by
    cases r with
    | nil => simp at hl
    | cons ra rr =>
      rename_i v vs d ds
      refine binds_cell ps vs ds _ _ rr (by simpa using hl) fun x e hx he => ?_
      unfold Vars.set at he
      by_cases hxp : x = p
      · subst hxp
        rw [if_pos rfl] at he; cases he
        exact ⟨v, by rw [if_neg (by rw [hx]; decide)]; simp, ra⟩
      · rw [if_neg hxp] at he
        obtain ⟨w, hw, rw'⟩ := hm x e hx he
        refine ⟨w, ?_, rw'⟩
        split <;> simp [hxp, hw]

theorem call_ok {D : Def} {a : Addr} {o : Obj} {fd : FuncData} (FO : FnOK C D a o fd) (hroom : A.depth < recursionLimit)
    (W : ∀ env' : Env, Snd C Γ (A.deeper env') (env' :: fr)) {ds : List PV} {vs : List Value} {s : Shared} {r : R PV} {Q : Value → Shared → Prop}
    (e : callOf Γ D ds σ = some r) (I : Inv C A fr β s.heap σ) (rv : VRs β s.heap vs ds) (P : Post C fr β s relV Q E r) : wpAny (model C.prog C.w) A (call (.ref a) vs) Q E s := by
  unfold callOf at e
  split at e
  rotate_left
  · cases e
  rename_i hlen
  have hvl := rv.length
  have kn : ∀ x ∈ D.params.zip vs, fd.scope.names.lookup x.1 = some .local ∨ (fd.scope.names.lookup x.1 = some .cell ∧ ((cellsFrom (s.heap.objs.size + 1) fd.scope.names []).lookup x.1).isSome = true) := by
    rintro ⟨x, v⟩ hx
    have hp := List.of_mem_zip hx
    have := List.all_eq_true.mp FO.pars x hp.1
    unfold canStore at this
    rw [Bool.or_eq_true, beq_iff_eq, beq_iff_eq] at this
    rw [FO.names]
    rcases this with q | q
    · exact .inl q
    · exact .inr ⟨q, cells_some _ _ _ _ (.inl (mem_of_lookup q))⟩
  refine wpAny_call (codeAny_call_cells hroom (I.stays _ _ FO.at_) FO.data (I.nolim.keeps I.stays) (FO.code.keeps I.stays) FO.body (FO.bind vs (by omega)) FO.clo kn (fun s₁ ic => ?_) FO.co FO.gen FO.kind)
  obtain ⟨h₁, tk₁, rfl⟩ := ic.toInCall.same
  generalize henv : callEnvC fd s.heap.objs.size a = env' at ic ⊢
  have hloc : env'.locals = s.heap.objs.size := by rw [← henv]; rfl
  have hcells : env'.cells = cellsFrom (s.heap.objs.size + 1) fd.scope.names [] := by rw [← henv]; rfl
  have hfrm : env'.frame = some s.heap.objs.size := by rw [← henv]; rfl
  have hscope : env'.scope = fd.scope := by rw [← henv]; rfl
  have G : EOK env' D.names := ⟨by rw [hscope]; exact FO.kind, by rw [hscope]; exact FO.names, by rw [← henv]; exact FO.glob, by rw [← henv]; exact FO.bui⟩
  have kindOf : env'.kindOf = fun x => D.names.lookup x := by funext x; unfold Env.kindOf; rw [G.names]
  have Lnone : s.heap.get? s.heap.objs.size = none := get?_size _
  have keep := ic.toInCall.keep
  dsimp only at keep
  have Lns := ic.toInCall.ns
  dsimp only at Lns
  have baseL : C.base.get? s.heap.objs.size = none := by
    cases q : C.base.get? s.heap.objs.size with
    | none => rfl
    | some o => rw [I.stays _ _ q] at Lnone; cases Lnone
  have I' : Inv C (A.deeper env') (env' :: fr) β h₁ σ := by
    have fns : FrOk (frs (env' :: fr)) h₁ := fun L hL => by
      unfold frs at hL
      rw [List.filterMap_cons, hfrm] at hL
      rcases List.mem_cons.mp hL with rfl | hL
      · rw [← hloc]; exact ⟨_, Lns⟩
      · obtain ⟨m, n⟩ := I.fns L hL
        exact ⟨m, n.keeps keep⟩
    refine ⟨I.hh, by show A.frames.map _ = _; rw [I.frames]; rfl, fun b o q => keep b o (I.stays b o q), ?_, fns, I.sr.keeps I.fns fun a o e _ => keep a o e, I.fresh, I.glob, I.bui, I.bfit, I.nolim, I.inK, I.old⟩
    refine ⟨by rw [G.kind]; decide, ⟨s.heap.objs.size, ?_⟩, FunFrames.move I.ff fun L hL => ?_⟩
    · obtain ⟨o, es, ep, ho, hd, _⟩ := Lns
      rw [hloc] at ho
      exact ⟨o, hfrm, baseL, ho, fun vs q => by rw [hd] at q; cases q⟩
    · obtain ⟨m, n⟩ := I.fns L hL
      exact ⟨m, n.keeps keep⟩
  have x0 : Ext (frs (env' :: fr)) β s.heap β h₁ := .of_keeps keep
  have x0' : Ext (frs fr) β s.heap β h₁ := .of_keeps keep
  have T : At C (A.deeper env') (env' :: fr) env' D.names β s.heap β h₁ σ (Vars.of D.params ds) := by
    have rv' := I.monos x0' rv
    refine ⟨x0, I', ⟨_, Lns, fun x d hx hd => ?_⟩, fun x hx => ?_⟩
    · exact binds_loc (kindOf := env'.kindOf) D.params vs ds _ _ rv' hlen (fun x d _ hd => by cases hd) x d (by rw [kindOf]; exact hx) hd
    · have hs := cells_some D.names (s.heap.objs.size + 1) [] x (.inl (mem_of_lookup hx))
      obtain ⟨c, hc⟩ := Option.isSome_iff_exists.mp hs
      have hc' : env'.cells.lookup x = some c := by rw [hcells, FO.names]; exact hc
      refine ⟨c, hc', _, ic.cell x c hc', fun d hd => ?_⟩
      exact binds_cell (kindOf := env'.kindOf) D.params vs ds _ _ rv' hlen (fun x d _ hd => by cases hd) x d (by rw [kindOf]; exact hx) hd
  have F : FOK C env' D.names s.heap := by
    refine ⟨by rw [hloc]; exact Lnone, fun y c hy hc => ?_, fun y y' c hy hy' hc hc' => ?_, I.stays⟩
    · have hlt := ic.above y c (mem_of_lookup hc)
      refine ⟨?_, Nat.ne_of_gt hlt⟩
      rw [hloc] at hlt
      cases q : s.heap.get? c with
      | none => rfl
      | some o => exact absurd (Heap.lt_size q) (Nat.not_lt.mpr (Nat.le_of_lt hlt))
    · exact name_of_addr ic.apart (mem_of_lookup hc) (mem_of_lookup hc')
  have fmono : ∀ a ∈ frs (env' :: fr), a ∈ frs fr ∨ s.heap.get? a = none := fun a ha => by
    unfold frs at ha
    rw [List.filterMap_cons, hfrm] at ha
    rcases List.mem_cons.mp ha with rfl | ha
    · exact .inr Lnone
    · exact .inl ha
  have notin : ∀ b o, s.heap.get? b = some o → b ∉ frs fr → b ∉ frs (env' :: fr) := fun b o e n m => by
    rcases fmono b m with q | q
    · exact n q
    · rw [e] at q; cases q
  cases q : evSs Γ D.names D.body (Vars.of D.params ds) σ with
  | none => rw [q] at e; cases e
  | some o1 =>
    refine stmts_ok (W env') G ⟨fr, rfl⟩ ⟨_, hfrm⟩ D.body β s β h₁ tk₁ σ (Vars.of D.params ds) o1 _ _ q F PassesOwn.leaving T ?_
    rw [q] at e
    dsimp only
    cases o1 with
    | next ρ' σ' =>
      cases e
      exact fun β' h' tk' T' => P _ _ _ _ (T'.x.mono fmono) T'.I.sr .none
    | brk ρ' σ' => cases e
    | ret d σ' =>
      cases e
      exact fun v β' h' tk' x' I2 r2 => P _ _ _ _ (x'.mono fmono) I2.sr r2
    | exc k ρ' σ' =>
      cases e
      intro e β' h' tk' hf
      have hA : (A.deeper env').frames = some (env' :: fr) := by show A.frames.map _ = _; rw [I.frames]; rfl
      rcases hf with f | m
      · obtain ⟨ea, B, a0, rfl, hfly, hB, hS⟩ := f.fly
        refine wpAny_leaves_onW hA hfrm hfly fun h2 fly2 up2 => ?_
        refine P _ β' h2 tk' ⟨f.grow, fun b o q n => ?_, ea, B, a0, rfl, fly2, fun b o q n m => hB b o q n (notin b o q m), hS⟩
        by_cases hff : ∃ vs, o.data = .fields vs
        · obtain ⟨vs, hvs⟩ := hff
          have nfr : b ∉ frs fr := I.fns.not q fun es p q => by rw [hvs] at q; cases q
          exact ⟨o.slots, fly2.1 _ _ (hB b o q n (notin b o q nfr))⟩
        · obtain ⟨sl, q1⟩ := f.slots b o q n
          obtain ⟨sl2, q2⟩ := up2 b _ q1 fun vs q => hff ⟨vs, q⟩
          exact ⟨sl2, q2⟩
      · obtain ⟨ea, oe, vs, a0, rfl, he, hc, hd, h0, h1, hn⟩ := m.obj
        let as : List Addr := ea :: frs (env' :: fr)
        have hff : h'.FunFrames (hideAll h' as) (env' :: fr) := by
          have key : ∀ l : List Env, (∀ b ∈ frs l, b ∈ as) → h'.FunFrames C.base l → h'.FunFrames (hideAll h' as) l := by
            intro l
            induction l with
            | nil => intro _ _; trivial
            | cons e l ih =>
              rintro hin ⟨hk, ⟨L, o, hf, _, ho, hdd⟩, hr⟩
              refine ⟨hk, ⟨L, o, hf, hideAll_none as (hin L (List.mem_filterMap.mpr ⟨e, List.mem_cons_self, hf⟩)), ho, hdd⟩, ih (fun b hb => hin b ?_) hr⟩
              obtain ⟨e', he', q'⟩ := List.mem_filterMap.mp hb
              exact List.mem_filterMap.mpr ⟨e', List.mem_cons_of_mem _ he', q'⟩
          exact key _ (fun b hb => List.mem_cons_of_mem _ hb) m.I.ff
        refine wpAny_leaving_firstW hA hff hfrm he (fun b o q => of_hideAll as q) (hideAll_none as List.mem_cons_self) hd h1 h0 fun h2 left => ?_
        obtain ⟨k1, ⟨_, _, k2⟩, k3, k4⟩ := left
        rw [hc] at k3
        have hBk : ∀ b o, s.heap.get? b = some o → b ∉ β → b ∉ frs fr → (hideAll h' as).get? b = some o := fun b o q n m' =>
          hideAll_get as (m.x.keep b o q n (notin b o q m')) fun hm => by
            rcases List.mem_cons.mp hm with rfl | hm
            · rw [hn] at q; cases q
            · exact notin b o q m' hm
        refine P _ β' h2 tk' ⟨m.x.grow, fun b o q n => ?_, ea, hideAll h' as, a0, rfl, ⟨k1, hideAll_none as List.mem_cons_self, k2, k3⟩, hBk, ?_⟩
        · by_cases hff : ∃ vs, o.data = .fields vs
          · obtain ⟨vs, hvs⟩ := hff
            have nfr : b ∉ frs fr := I.fns.not q fun es p q => by rw [hvs] at q; cases q
            exact ⟨o.slots, k1 _ _ (hBk b o q n nfr)⟩
          · obtain ⟨sl, q1⟩ := m.x.slots b o q n
            obtain ⟨sl2, q2⟩ := k4 b _ q1 fun vs q => hff ⟨vs, q⟩
            exact ⟨sl2, q2⟩
        · refine m.I.sr.core fun b o q c _ => hideAll_get as q fun hm => ?_
          rcases List.mem_cons.mp hm with rfl | hm
          · rw [he] at q; cases q
            rcases c with ⟨xs, n, q⟩ | ⟨q, _⟩
            · rw [hd] at q; cases q
            · rw [hc] at q; cases q
          · obtain ⟨m2, o2, es, ep, ho2, hd2, _⟩ := m.I.fns b hm
            rw [q] at ho2; cases ho2
            rcases c with ⟨xs, n, q⟩ | ⟨_, fs, q⟩ <;> rw [hd2] at q <;> cases q
end
end Mine

-- M25
namespace Mine
open PySem PySem.W PyProof.Rows
variable [Z : Inhabited Frozen]

/-- an exception of the text's own is made -/
def Makes (C : Conf) (k : Exn) : Prop := ∀ (A : Around) (fr : List Env), A.depth + 5 < recursionLimit → A.units + 2100 < cLine → ∀ β (s : Shared) σ x t Q E, Inv C A fr β s.heap σ → x.length ≤ 100000 →
  (∀ h' tk ea oe vs a0, (∀ b o, s.heap.get? b = some o → h'.get? b = some o) → s.heap.get? ea = none → h'.get? ea = some oe → oe.cls = .ref (C.cls k) → oe.data = .fields vs →
    vs[0]? = some a0 → vs[1]? = some .none → Q (.ref ea) { s with heap := h', toks := tk }) → wpAny (model C.prog C.w) A (call (.ref (C.cls k)) [.str x t]) Q E s

structure TextOK (C : Conf) (T : Text) : Prop where
  defs : ∀ f D, T.defs f = some D → ∃ a o fd, C.mg f = some (.ref a) ∧ fnIn C.K a = true ∧ FnOK C D a o fd
  undef : ∀ f ∈ bnames, T.defs f = none → C.mg f = none
  const : ∀ x d, T.const x = some d → ∃ v, C.mg x = some v ∧ ∀ β h, VR β h v d
  exns : ∀ x k, T.exn x = some k → C.mg x = some (.ref (C.cls k))
  exCall : ∀ k, keepIn C.K (.ref (C.cls k)) = true
  exSub : ∀ k, subIn C.K (.ref (C.cls k)) (.type "BaseException") = some true
  exType : ∀ k, typeIn C.K (.ref (C.cls k)) = some (.type "type")
  exMatch : ∀ k, exmOne C.K (.ref (C.cls k)) (.ref (C.cls k)) = some true
  make : ∀ k, Makes C k


theorem snd_at {C : Conf} {T : Text} (O : TextOK C T) : ∀ (n : Nat) (A : Around) (fr : List Env), A.depth + n + 5 < recursionLimit → A.units + 3 * n + 2100 < cLine → Snd C (T.at n) A fr := by
  intro n
  induction n with
  | zero =>
    intro A fr hd hu
    refine ⟨by omega, fun f hf => ?_, fun f hf hn => ?_, fun f ds σ r _ e => ?_, fun x d hx => ?_, fun x k hx => ?_, O.exCall, O.exSub, O.exType, O.exMatch, fun k => O.make k A fr (by omega) (by omega)⟩
    · rw [at_isDef] at hf
      obtain ⟨D, hD⟩ := Option.isSome_iff_exists.mp hf
      obtain ⟨a, o, fd, h1, h2, _⟩ := O.defs f D hD
      exact ⟨a, h1, h2⟩
    · rw [at_isDef] at hn
      exact O.undef f hf (by simpa using hn)
    · change (M.fail : M PV) σ = some r at e
      exact (fail_some e).elim
    · rw [at_const] at hx; exact O.const x d hx
    · rw [at_exn] at hx; exact O.exns x k hx
  | succ n ih =>
    intro A fr hd hu
    refine ⟨by omega, fun f hf => ?_, fun f hf hn => ?_, fun f ds σ r hdef e => ?_, fun x d hx => ?_, fun x k hx => ?_, O.exCall, O.exSub, O.exType, O.exMatch, fun k => O.make k A fr (by omega) (by omega)⟩
    · rw [at_isDef] at hf
      obtain ⟨D, hD⟩ := Option.isSome_iff_exists.mp hf
      obtain ⟨a, o, fd, h1, h2, _⟩ := O.defs f D hD
      exact ⟨a, h1, h2⟩
    · rw [at_isDef] at hn
      exact O.undef f hf (by simpa using hn)
    · intro β s vs Q E a ha I rv P
      change (match T.defs f with | some D => callOf (T.at n) D ds | .none => M.fail) σ = some r at e
      cases hD : T.defs f with
      | none => rw [hD] at e; exact (fail_some e).elim
      | some D =>
        rw [hD] at e
        obtain ⟨a', o, fd, h1, h2, FO⟩ := O.defs f D hD
        rw [h1] at ha; cases ha
        exact call_ok FO (by omega) (fun env' => ih (A.deeper env') (env' :: fr) (by show A.depth + 1 + n + 5 < recursionLimit; omega) (by show A.units + 3 + 3 * n + 2100 < cLine; omega)) e I rv P
    · rw [at_const] at hx; exact O.const x d hx
    · rw [at_exn] at hx; exact O.exns x k hx

/-- the run of a body of one's own, at the top -/
theorem run_ok {C : Conf} {T : Text} (O : TextOK C T) (n : Nat) {A : Around} {fr : List Env} {env : Env} {N : Names} (hd : A.depth + n + 5 < recursionLimit) (hu : A.units + 3 * n + 2100 < cLine) (G : EOK env N) (hfr : ∃ outer, fr = env :: outer) (hfL : ∃ L, env.frame = some L) {body : List Stmt}
    {β₀ β : List Addr} {s₀ : Shared} {h : Heap} {tk : Tok} {σ : Store} {ρ : Vars} {o : SO} {Q : Flow → Shared → Prop} {E : Value → Shared → Prop} (e : evSs (T.at n) N body ρ σ = some o) (F : FOK C env N s₀.heap) (hE : PassesOwn (model C.prog C.w) A env E)
    (At0 : At C A fr env N β₀ s₀.heap β h σ ρ) (P : PostS C A fr env N β₀ s₀ Q E o) : wpAny (model C.prog C.w) A (execs body env) Q E { s₀ with heap := h, toks := tk } :=
  stmts_ok (snd_at O n A fr hd hu) G hfr hfL body β₀ s₀ β h tk σ ρ o Q E e F hE At0 P
end Mine

-- N1
namespace Mine
open PySem PySem.W PySem.Calls
variable [Z : Inhabited Frozen]

section
variable {prog : Program} {w : World} {A : Around} {E : Value → Shared → Prop} {R : Result → Shared → Prop} {h : Heap} {g : Array GenState} {d : Drawn} {t : Nat} {os : OsState}
variable {nm q : Str} {C N : Addr} {bs bm : List Value} {hdct : Bool} {sn : List Str} {sub : List Value} {ab : Bool} {col : Option Bool} {dd : Option Addr} {k0 k1 k2 k3 k5 : Option Value} {K : Frag} {fI : Addr}

theorem own_check_new {M : Model} {rest : List Value} {Q : Unit → Shared → Prop} (hB : bm.contains (.type "Exception") = true) (hC : h.get? C = some (excClassObj nm q C N bs bm hdct sn sub ab col dd k0 k1 k2 k3 k5 "Exception.__new__"))
    (hq : Q () ⟨h, g, d, t, os⟩) : wpAny M A (checkBuiltinCall "Exception.__new__" ⟨.ref C :: rest, []⟩) Q E ⟨h, g, d, t, os⟩ := by
  have Fn := PySem.F.excBase_Exception
  have hcont : (Value.ref C :: bm).contains (.type "Exception") = true := by rw [List.contains_cons, hB, Bool.or_true]
  have hstar := Fn.noStar
  simp only [checkBuiltinCall, Fn.newKind, Fn.newSplit, Fn.newRow]
  repeat (first | refine wpAny_loadPart_at hC ?_ | (refine wpAny_isSubtype_exc hC ?_; rw [hcont]) | refine wpAny_staticBase_exc hC ?_ | refine wpAny_madeBy_exc hC ?_ | simp only [bne_self_eq_false, Bool.false_eq_true, if_false] | wp_step)
  exact hq

theorem own_new {rest : List Value} (hB : bm.contains (.type "Exception") = true) (hA : bm.contains (.type "AttributeError") = false) (hN : bm.contains (.type "NameError") = false)
    (hC : h.get? C = some (excClassObj nm q C N bs bm hdct sn sub ab col dd k0 k1 k2 k3 k5 "Exception.__new__"))
    (hq : R (.ok (.ret (.ref (h.objs.size + 1)))) ⟨(h.push { cls := .type "tuple", data := .seq rest.toArray }).push
      { cls := .ref C, data := .fields #[.ref h.objs.size, .none, .none, .none, .bool false, .none] }, g, d, t, os⟩) (hrest : rest.length ≤ sizeLine) :
    codeAny (model prog w) A (.builtin "Exception.__new__" ⟨.ref C :: rest, []⟩) R ⟨h, g, d, t, os⟩ := by
  have Fn := PySem.F.excBase_Exception
  have hends := Fn.ends
  have hcB : (Value.ref C :: bm).contains (.type "Exception") = true := by rw [List.contains_cons, hB, Bool.or_true]
  have hcA : (Value.ref C :: bm).contains (.type "AttributeError") = false := by rw [List.contains_cons, hA]; rfl
  have hcN : (Value.ref C :: bm).contains (.type "NameError") = false := by rw [List.contains_cons, hN]; rfl
  refine codeAny_builtinAt Fn.entry ?_
  unfold Builtin.«BaseException.__new__»
  refine wpAt_bind ?_
  show wpAt _ _ _ (stack >>= _) _ _ _
  refine wpAt_bind (wpAt_stack fun p below => wpAt_of_wpAny ?_)
  wp_walk
  refine wpAt_of_wpAny ?_
  rw [Fn.owner]
  repeat (first | with_reducible refine wpAny_madeHere_exc Fn.canon hC ?_ | with_reducible refine wpAny_loadPart_at hC ?_ | (with_reducible refine wpAny_isSubtype_exc hC ?_; first | rw [hcB] | rw [hcA] | rw [hcN]) | wp_step)
  show R _ _
  rw [Heap.size_push]
  exact hq

abbrev newExcObj (C t : Addr) : Obj := { cls := .ref C, data := .fields #[.ref t, .none, .none, .none, .bool false, .none] }

theorem own_type_call {rest : List Value} {Q : Fin → Shared → Prop} (X : K.In h) (hB : bm.contains (.type "Exception") = true) (hA : bm.contains (.type "AttributeError") = false) (hN : bm.contains (.type "NameError") = false)
    (hC : h.get? C = some (excClassObj nm q C N bs bm hdct sn sub ab col dd k0 k1 k2 k3 k5 "Exception.__new__")) (hi : findIn K (.ref C) "__init__" = some (some (.ref fI))) (hf : typeIn K (.ref fI) = some (.type "function")) (hrest : rest.length ≤ sizeLine)
    (hq : ∀ h' e t', (∀ b o, h.get? b = some o → h'.get? b = some o) → h.get? e = none → h'.get? e = some (newExcObj C t') →
      wpAny (model prog w) A (call (.ref fI) (.ref e :: rest)) (fun r s' => r = .none ∧ Q (.done (.ret (.ref e))) s') E ⟨h', g, d, t, os⟩) :
    wpAny (model prog w) A (Builtin.«type.__call__» ⟨.ref C :: rest, []⟩) Q E ⟨h, g, d, t, os⟩ := by
  have Fn := PySem.F.excBase_Exception
  repeat (first | with_reducible refine wpAny_loadPart_at hC ?_ | with_reducible refine wpAny_madeBy_exc hC ?_ | wp_step)
  refine codeAny_call_builtin_code (Code.quiet_builtin _ Fn.quiet) (own_check_new hB hC ?_)
  refine own_new hB hA hN hC ?_ hrest
  show wpAny _ _ _ _ _ _
  have up : ∀ b o, h.get? b = some o → ((h.push { cls := .type "tuple", data := .seq rest.toArray }).push (newExcObj C h.objs.size)).get? b = some o := fun b o e => Heap.get?_push_of_some _ (Heap.get?_push_of_some _ e)
  have hC₁ := up _ _ hC
  have hget : ((h.push { cls := .type "tuple", data := .seq rest.toArray }).push (newExcObj C h.objs.size)).get? (h.objs.size + 1) = some (newExcObj C h.objs.size) := by heap_get
  have hcC : (Value.ref C :: bm).contains (.ref C) = true := by simp
  unfold isInstance
  repeat (first | with_reducible refine wpAny_loadPart_at hget ?_ | (with_reducible refine wpAny_isSubtype_exc hC₁ ?_; rw [hcC]) | wp_step)
  have hfI : ∃ oI, h.get? fI = some oI ∧ oI.cls = .type "function" := by
    have hf' : (K.lookup fI).map (·.cls) = some (.type "function") := hf
    obtain ⟨oI, h1, h2⟩ := Option.map_eq_some_iff.mp hf'
    exact ⟨oI, X _ _ h1, h2⟩
  obtain ⟨oI, hfI, hfc⟩ := hfI
  show wpAny _ _ (typeLookup (.ref C) (Str.ofString "__init__")) _ _ _
  refine (looks_findIn (X.keeps up) hi) _ _ _ _ (fun _ _ e => e) ?_
  refine wpAny_holding (wpAny_bind ?_)
  unfold bindSpecial
  refine wpAny_bind (wpAny_typeOf (T := "function") ⟨_, up _ _ hfI, hfc⟩ ?_)
  rw [if_pos (by decide)]
  refine wpAny_pure (wpAny_bind (wpAny_mono (hq _ (h.objs.size + 1) h.objs.size up (Heap.get?_none_of_le (Nat.le_succ _)) hget) (fun r s' hr => ?_) fun _ _ x => x))
  obtain ⟨rfl, hQ⟩ := hr
  wp_walk
  exact hQ

theorem own_call {rest : List Value} {Q : Value → Shared → Prop} (X : K.In h) (hB : bm.contains (.type "Exception") = true) (hA : bm.contains (.type "AttributeError") = false) (hN : bm.contains (.type "NameError") = false)
    (hC : h.get? C = some (excClassObj nm q C N bs bm hdct sn sub ab col dd k0 k1 k2 k3 k5 "Exception.__new__")) (hi : findIn K (.ref C) "__init__" = some (some (.ref fI))) (hf : typeIn K (.ref fI) = some (.type "function")) (hrest : rest.length ≤ sizeLine)
    (hq : ∀ h' e t', (∀ b o, h.get? b = some o → h'.get? b = some o) → h.get? e = none → h'.get? e = some (newExcObj C t') →
      wpAny (model prog w) (A.under (.builtin "type.__call__" ⟨.ref C :: rest, []⟩)) (call (.ref fI) (.ref e :: rest)) (fun r s' => r = .none ∧ Q (.ref e) s') E ⟨h', g, d, t, os⟩) :
    wpAny (model prog w) A (call (.ref C) rest) Q E ⟨h, g, d, t, os⟩ := by
  have f1 := tc_lookup
  have f2 := tc_bind (.ref C)
  have hT : (⟨h, g, d, t, os⟩ : Shared).TypeIs (.ref C) "type" := ⟨_, hC, rfl⟩
  refine wpAny_call (codeAny_of_tree ?_)
  show wpAny _ _ (callAny (.ref C) _) _ _ _
  repeat (any_goals (first | assumption | with_reducible refine wpAny_loadPart_at hC ?_ | wp_step))
  refine ⟨rfl, ?_⟩
  exact codeAny_call_builtin_at (Code.quiet_builtin _ (by decide +kernel)) entry_typeCall (wpAny_check_type_call_sub hC (own_type_call X hB hA hN hC hi hf hrest hq))
end
end Mine

-- N2
namespace Mine
open PySem PySem.W PySem.Calls
variable [Z : Inhabited Frozen]

theorem slot_wd_get : Slot "wrapper_descriptor" "__get__" "wrapper_descriptor.__get__" := .of (owner := "wrapper_descriptor") (n := "__get__") (by rw [typeLookup_type, builtinLookup_eq_fast]; kernel_rfl) (by decide +kernel) (by decide +kernel) (by decide +kernel)
  (by first | exact .inl (by decide +kernel) | exact .inr (by decide +kernel)) (by rw [isSubtype_type]; kernel_rfl)
theorem entry_wd_get : entryFor table "wrapper_descriptor.__get__" = some Builtin.«wrapper_descriptor.__get__» := entryFor_of_tree (by kernel_rfl)
theorem args_wd_get (a b c : Value) : argsOk "wrapper_descriptor.__get__" ⟨[a, b, c], []⟩ := by unfold argsOk; kernel_rfl
theorem type_exc_init : typeOf (.builtin "Exception.__init__") = pure (.type "wrapper_descriptor") := by show builtinType _ = _; rw [builtinType_eq_fast]; kernel_rfl

section
variable {prog : Program} {w : World} {A : Around} {E : Value → Shared → Prop} {R : Result → Shared → Prop} {h : Heap} {g : Array GenState} {d : Drawn} {t : Nat} {os : OsState}

theorem wd_get {e C : Addr} {start : Value} {oe : Obj} {Q : Fin → Shared → Prop} (he : h.get? e = some oe) (hc : oe.cls = .ref C) (hsub : Looks (model prog w) h (isSubtype (.ref C) (.type "Exception")) true)
    (hst : start ≠ .none) (hq : Q (.done (.ret (.ref h.objs.size))) ⟨h.push { cls := .type "method-wrapper", data := .fields #[.builtin "Exception.__init__", .ref e] }, g, d, t, os⟩) :
    wpAny (model prog w) A (Builtin.«wrapper_descriptor.__get__» ⟨[.builtin "Exception.__init__", .ref e, start], []⟩) Q E ⟨h, g, d, t, os⟩ := by
  unfold Builtin.«wrapper_descriptor.__get__»
  repeat (first
    | (with_reducible refine wpAny_loadPart_at he ?_; rw [hc])
    | (with_reducible refine Looks.at hsub ?_)
    | wp_step
    | dsimp only)
  have hs : ".".intercalate ("Exception.__init__".cutAt '.').dropLast = "Exception" := by decide +kernel
  rw [hs]
  refine Looks.at hsub ?_
  rw [if_neg (by decide)]
  refine wpAny_pure ?_
  unfold newFields
  exact wpAny_bind (wpAny_newObj_type (wpAny_pure hq) (by size_fits))

/-- what a super object hands on: the built-in beginning, bound -/
theorem super_ga {so D x C : Addr} {ox : Obj} {l₀ l : List Value} {K : Frag} {tk : Tok} {Q : Fin → Shared → Prop}
    (hso : h.get? so = some { cls := .type "super", dict := none, data := .fields #[.ref D, .ref x, .ref C], slots := #[] }) (hno : Looks (model prog w) h (opaqueClassAbove (.ref C)) none)
    (hC : Looks (model prog w) h (mroOf (.ref C)) l₀) (hl : (l₀.dropWhile (· != .ref D)).drop 1 = l) (X : K.In h)
    (hf : alongIn K "__init__" l = some (some (.builtin "Exception.__init__"))) (hx : h.get? x = some ox) (hxc : ox.cls = .ref C) (hsub : Looks (model prog w) h (isSubtype (.ref C) (.type "Exception")) true) (hxC : x ≠ C)
    (hq : Q (.done (.ret (.ref h.objs.size))) ⟨h.push { cls := .type "method-wrapper", data := .fields #[.builtin "Exception.__init__", .ref x] }, g, d, t, os⟩) :
    wpAny (model prog w) A (Builtin.«super.__getattribute__» ⟨[.ref so, .str "__init__" tk], []⟩) Q E ⟨h, g, d, t, os⟩ := by
  have hlk := slot_wd_get.lookup
  have hne : (Value.ref x == Value.ref C) = false := by simp [hxC]
  have hn : ((Str.ofString "__init__") == ("__class__" : Str)) = false := by decide
  have hTf : (⟨h, g, d, t, os⟩ : Shared).TypeIs (.builtin "Exception.__init__") "wrapper_descriptor" := type_exc_init
  have hdt : ({ cls := .type "super", dict := none, data := .fields #[.ref D, .ref x, .ref C], slots := #[] } : Obj).data = .fields #[.ref D, .ref x, .ref C] := rfl
  have f0 : (#[.ref D, .ref x, .ref C] : Array Value)[0]? = some (.ref D) := rfl
  have f1 : (#[.ref D, .ref x, .ref C] : Array Value)[1]? = some (.ref x) := rfl
  have f2 : (#[.ref D, .ref x, .ref C] : Array Value)[2]? = some (.ref C) := rfl
  unfold Builtin.«super.__getattribute__»
  repeat (first
    | (with_reducible refine wpAny_field hso hdt f0 ?_) | (with_reducible refine wpAny_field hso hdt f1 ?_) | (with_reducible refine wpAny_field hso hdt f2 ?_)
    | (with_reducible refine ks_wpAny_notOpaque hno ?_)
    | (with_reducible refine Looks.at hC ?_; rw [hl])
    | (refine ks_forIn_along X (fun _ _ => rfl) rfl ?_ hf)
    | (with_reducible refine wpAny_typeOf hTf ?_)
    | (with_reducible refine wpAny_call_entry slot_wd_get hTf entry_wd_get ?_ (args_wd_get _ _ _))
    | (with_reducible refine wd_get hx hxc hsub (by simp) ?_)
    | (with_reducible refine ⟨_, rfl, ?_⟩)
    | (simp only [hn, hne, Bool.or_false, Bool.false_eq_true, if_false])
    | wp_step
    | dsimp only)
  all_goals first | exact hq | trace_state
end
end Mine

-- N3
namespace Mine
open PySem PySem.W PySem.Calls
variable [Z : Inhabited Frozen]

section
variable {prog : Program} {w : World} {A : Around} {E : Value → Shared → Prop} {R : Result → Shared → Prop} {h : Heap} {g : Array GenState} {d : Drawn} {t : Nat} {os : OsState}

theorem super_method {so D x C : Addr} {ox : Obj} {l₀ l : List Value} {K : Frag} {pl : Sem Bool} {Q : Value × List Value → Shared → Prop}
    (hso : h.get? so = some { cls := .type "super", dict := none, data := .fields #[.ref D, .ref x, .ref C], slots := #[] }) (hno : Looks (model prog w) h (opaqueClassAbove (.ref C)) none)
    (hC : Looks (model prog w) h (mroOf (.ref C)) l₀) (hl : (l₀.dropWhile (· != .ref D)).drop 1 = l) (X : K.In h)
    (hf : alongIn K "__init__" l = some (some (.builtin "Exception.__init__"))) (hx : h.get? x = some ox) (hxc : ox.cls = .ref C) (hsub : Looks (model prog w) h (isSubtype (.ref C) (.type "Exception")) true) (hxC : x ≠ C)
    (hq : Q (.ref h.objs.size, []) ⟨h.push { cls := .type "method-wrapper", data := .fields #[.builtin "Exception.__init__", .ref x] }, g, d, t + 1, os⟩) :
    wpAny (model prog w) A (getMethod (.ref so) "__init__" pl) Q E ⟨h, g, d, t, os⟩ := by
  have hlk := PySem.F.ks_slot_super_ga.lookup
  have hcan := PySem.F.ks_canon_super_ga
  have hT : ∀ t', (⟨h, g, d, t', os⟩ : Shared).TypeIs (.ref so) "super" := fun _ => ⟨_, hso, rfl⟩
  unfold getMethod
  refine wpAny_bind (wpAny_specialOf (hT _) hlk ?_)
  show wpAny _ _ (if (Manifest.canonical "super.__getattribute__" != "object.__getattribute__") = true then _ else _) _ _ _
  rw [if_pos hcan]
  unfold getAttr getAttrBy
  refine wpAny_bind (wpAny_bind (wpAny_mkText (wpAny_holding (wpAny_bind (wpAny_typeOf (hT _) (wpAny_bind (wpAny_of_eq hlk ?_)))))))
  show wpAny _ _ (getAttrByItsOwn (.ref so) (.str "__init__" t) (.type "super") (.builtin "super.__getattribute__") true false) _ _ _
  unfold getAttrByItsOwn hookBefore callGetattribute boundAndCalled
  refine wpAny_bind (wpAny_of_eq (show (if onTheHeap (.type "super") then typeLookup (.type "super") "__getattr__" else pure none) = pure none from rfl) ?_)
  refine wpAny_bind (wpAny_attempt (wpAny_holding ?_))
  show wpAny _ _ (bindSpecial (.builtin "super.__getattribute__") (.ref so) >>= _) _ _ _
  refine wpAny_bind (wpAny_of_eq (PySem.F.ks_slot_super_ga.bind _) ?_)
  refine wpAny_mono (Q := fun v s' => v = .ref h.objs.size ∧ s' = ⟨h.push { cls := .type "method-wrapper", data := .fields #[.builtin "Exception.__init__", .ref x] }, g, d, t + 1, os⟩) (E := fun _ _ => False)
    (wpAny_call_entry PySem.F.ks_slot_super_ga (hT _) PySem.F.ks_entry_super_ga (super_ga hso hno hC hl X hf hx hxc hsub hxC ⟨_, rfl, rfl, rfl⟩) (PySem.F.ks_gaArgs_super _ _)) (fun v s' hv => ?_) fun _ _ z => z.elim
  obtain ⟨rfl, rfl⟩ := hv
  exact wpAny_pure (wpAny_pure hq)

abbrev wrapObj (x : Addr) : Obj := { cls := .type "method-wrapper", data := .fields #[.builtin "Exception.__init__", .ref x] }

theorem bound_check {M : Model} {x C N t0 : Addr} {v : Value} {nm q : Str} {bs bm : List Value} {hdct : Bool} {sn : List Str} {sub : List Value} {ab : Bool} {col : Option Bool} {dd : Option Addr} {k0 k1 k2 k3 k5 : Option Value} {id : String} {Q : Unit → Shared → Prop}
    (hx : h.get? x = some (newExcObj C t0)) (hC : h.get? C = some (excClassObj nm q C N bs bm hdct sn sub ab col dd k0 k1 k2 k3 k5 id)) (hq : Q () ⟨h, g, d, t, os⟩) : wpAny M A (checkBoundCall "Exception.__init__" ⟨[.ref x, v], []⟩) Q E ⟨h, g, d, t, os⟩ := by
  have F := PySem.F.excBase_Exception
  have hshort := F.noStar
  simp only [checkBoundCall, F.initKind, F.initSplit, F.initRow]
  rw [if_pos (by decide)]
  unfold Bind.checkArgs
  repeat (first | with_reducible refine wpAny_loadPart_at hx ?_ | with_reducible refine wpAny_loadPart_at hC ?_ | wp_step)
  exact hq

theorem init_put {x t0 : Addr} {C : Addr} {v : Value} {R : Result → Shared → Prop} (hx : h.get? x = some (newExcObj C t0))
    (hq : ∀ h' t1, h'.get? x = some (newExcObj C t1) → (∀ b o, b ≠ x → h.get? b = some o → h'.get? b = some o) → R (.ok (.ret .none)) ⟨h', g, d, t, os⟩) :
    codeAny (model prog w) A (.builtin "Exception.__init__" ⟨[.ref x, v], []⟩) R ⟨h, g, d, t, os⟩ := by
  have F := PySem.F.excBase_Exception
  refine codeAny_builtin F.initEntry ?_
  have hx1 := Heap.get?_push_of_some { cls := .type "tuple", data := .seq [v].toArray } hx
  unfold Builtin.«BaseException.__init__»
  wp_walk
  refine hq _ h.objs.size ?_ fun b o hb e => ?_
  · rw [Heap.get?_update_self _ hx1 rfl]
    rfl
  · rw [Heap.get?_update_other _ _ (Ne.symm hb)]
    exact Heap.get?_push_of_some _ e

theorem bound_call {x mw t0 : Addr} {C N : Addr} {v : Value} {nm q : Str} {bs bm : List Value} {hdct : Bool} {sn : List Str} {sub : List Value} {ab : Bool} {col : Option Bool} {dd : Option Addr} {k0 k1 k2 k3 k5 : Option Value} {id : String} {Q : Value → Shared → Prop}
    (hC : h.get? C = some (excClassObj nm q C N bs bm hdct sn sub ab col dd k0 k1 k2 k3 k5 id)) (hm : h.get? mw = some (wrapObj x)) (hx : h.get? x = some (newExcObj C t0))
    (hq : ∀ h' t1, h'.get? x = some (newExcObj C t1) → (∀ b o, b ≠ x → h.get? b = some o → h'.get? b = some o) → Q .none ⟨h', g, d, t, os⟩) :
    wpAny (model prog w) A (call (.ref mw) [v]) Q E ⟨h, g, d, t, os⟩ := by
  refine wpAny_call (codeAny_of_tree ?_)
  show wpAny _ A.in1 (callAny (.ref mw) ⟨[v], []⟩) _ _ _
  simp only [callAny]
  refine wpAny_bind (wpAny_load hm ?_)
  dsimp only
  rw [if_pos (by decide)]
  refine wpAny_bind (bound_check hx hC ?_)
  refine wpAny_bind (wpAny_pure (wpAny_pure ?_))
  exact ⟨Code.quiet_builtin _ (by decide +kernel), init_put hx hq⟩
end
end Mine

-- N4
namespace Mine
open PySem PySem.W PySem.Calls
variable [Z : Inhabited Frozen]

section
variable {prog : Program} {w : World} {A : Around} {E : Value → Shared → Prop} {R : Result → Shared → Prop} {h : Heap} {g : Array GenState} {d : Drawn} {t : Nat} {os : OsState} {K : Frag}
variable {nm q : Str} {C N : Addr} {bs bm : List Value} {hdct : Bool} {sn : List Str} {sub : List Value} {ab : Bool} {col : Option Bool} {dd : Option Addr} {k0 k1 k2 k3 k5 : Option Value} {id : String}

set_option maxHeartbeats 4000000 in
theorem exc_store {x t1 : Addr} {v : Value} {name : Str} {tk : Tok} {Q : Fin → Shared → Prop} (X : K.In h) (hC : h.get? C = some (excClassObj nm q C N bs bm true sn sub ab col dd k0 k1 k2 k3 k5 id)) (hx : h.get? x = some (newExcObj C t1))
    (hpass : refuseLoop (.ref x) "__setattr__" (.ref C :: bm) = pure ()) (hw : findIn K (.ref C) name = some none)
    (hq : ∀ h' tk' dx, h'.get? x = some { newExcObj C t1 with dict := some dx } → (∀ b o, b ≠ x → h.get? b = some o → h'.get? b = some o) → Q (.done (.ret .none)) ⟨h', g, d, tk', os⟩) :
    wpAny (model prog w) A (Builtin.«object.__setattr__» ⟨[.ref x, .str name tk, v], []⟩) Q E ⟨h, g, d, t, os⟩ := by
  have hx₁ : (h.push { cls := .type "dict", data := .dict #[] }).get? x = some (newExcObj C t1) := Heap.get?_push_of_some _ hx
  have hxs : x ≠ h.objs.size := Nat.ne_of_lt (Heap.lt_size hx)
  have hgd : ((h.push { cls := .type "dict", data := .dict #[] }).update x fun o => { cls := o.cls, dict := some h.objs.size, data := o.data, slots := o.slots }).get? h.objs.size = some { cls := .type "dict", data := .dict #[] } :=
    (Heap.get?_update_ne _ _ _ _ hxs.symm).trans (Heap.get?_push_at rfl rfl)
  have hnd : ((h.push { cls := .type "dict", data := .dict #[] }).update x fun o => { cls := o.cls, dict := some h.objs.size, data := o.data, slots := o.slots }).Ns h.objs.size (fun _ => none) :=
    ⟨_, #[], _, hgd, rfl, fun e he => absurd he (by simp), fun _ => rfl⟩
  unfold Builtin.«object.__setattr__»
  repeat (first | rw [refuse_eq] | rw [hpass] | with_reducible refine wpAny_loadPart_at hx ?_ | with_reducible refine wpAny_mroOf_exc hC ?_ | (with_reducible refine Looks.at (looks_findIn X hw) ?_) | (with_reducible refine wpAny_nsSet1 (Heap.Ns1.of_empty hnd) fun h' hn' hs => ?_) | wp_step)
  obtain ⟨oD, esD, epD, hoD, hdD, hcD⟩ := hn'.count (Within.cons name v Within.nil)
  refine wpAny_loadPart hoD ?_
  have hpast : oD.data.pastItsLine = none := by rw [hdD]; exact pastItsLine_dict (Nat.le_trans hcD (by rw [List.length_cons, List.length_nil, sizeLine_eq]; omega))
  simp only [hpast]
  refine wpAny_pure (wpAny_pure (hq h' _ h.objs.size ?_ fun b o hb e => ?_))
  · exact (hs.2 x hxs).trans (Heap.get?_update_self _ hx₁ rfl)
  · exact (hs.2 b (Nat.ne_of_lt (Heap.lt_size e))).trans ((Heap.get?_update_ne _ _ _ _ hb).trans (Heap.get?_push_of_some _ e))

theorem exc_set {x t1 : Addr} {v : Value} {name : Str} {Q : Unit → Shared → Prop} (X : K.In h) (hC : h.get? C = some (excClassObj nm q C N bs bm true sn sub ab col dd k0 k1 k2 k3 k5 id)) (hx : h.get? x = some (newExcObj C t1))
    (hpass : refuseLoop (.ref x) "__setattr__" (.ref C :: bm) = pure ()) (hw : findIn K (.ref C) name = some none) (hs : findIn K (.ref C) "__setattr__" = some (some (.builtin "object.__setattr__"))) (ho : bm.contains (.type "object") = true)
    (hq : ∀ h' tk' dx, h'.get? x = some { newExcObj C t1 with dict := some dx } → (∀ b o, b ≠ x → h.get? b = some o → h'.get? b = some o) → Q () ⟨h', g, d, tk', os⟩) :
    wpAny (model prog w) A (setAttr (.ref x) name v) Q E ⟨h, g, d, t, os⟩ := by
  have SF := PySem.F.store_object
  have I : InstAt h x (newExcObj C t1) C none := ⟨hx, rfl, rfl, trivial⟩
  refine set_plain (s := ⟨h, g, d, t, os⟩) X I hs ?_
  have sub : Looks (model prog w) h (isInstance (.ref x) (.type "object")) true := fun A Q E s k q => by
    obtain ⟨h', g', d', t', os'⟩ := s
    have hx' := k _ _ hx
    have hC' := k _ _ hC
    unfold isInstance
    have hcB : (Value.ref C :: bm).contains (.type "object") = true := by rw [List.contains_cons, ho, Bool.or_true]
    repeat (first | with_reducible refine wpAny_loadPart_at hx' ?_ | (with_reducible refine wpAny_isSubtype_exc hC' ?_; rw [hcB]) | wp_step)
    exact q
  refine codeAny_call_builtin SF.slot.plain SF.entry (@check_slot (model prog w) _ _ _ "object.__setattr__" "object" "__setattr__" (.ref x) [.str name t, v] [] _ SF.kind SF.split sub (SF.args (.ref x) (.str name t) v) ?_)
  exact exc_store X hC hx hpass hw fun h' tk' dx h1 h2 => hq h' tk' dx h1 h2
end
end Mine

-- N5
namespace Mine
open PySem PySem.W PySem.Calls
variable [Z : Inhabited Frozen]

abbrev initBody (p0 p1 p2 p3 p4 p5 p6 p7 p8 p9 : Pos) : List Stmt :=
  [.Expr (.Call (.Attribute (.Call (.Name "super" p0) [] [] p1) "__init__" p2) [.Name "what" p3] [] p4) p5, .Assign [.Attribute (.Name "self" p6) "what" p7] (.Name "what" p8) p9]

section
variable {prog : Program} {w : World} {A : Around} {E : Value → Shared → Prop} {R : Result → Shared → Prop} {s : Shared} {K : Frag}
variable {nm q : Str} {C N : Addr} {bs bm : List Value} {sn : List Str} {sub : List Value} {ab : Bool} {col : Option Bool} {dd : Option Addr} {k0 k1 k2 k3 k5 : Option Value} {id : String}
variable {p0 p1 p2 p3 p4 p5 p6 p7 p8 p9 : Pos} {fI cc cda D t0 x : Addr} {oc : Value} {od : Option Addr} {osl : Array (Option Value)} {fd : FuncData} {ar : Arg} {vs : Array Value} {file : Str} {tf : Tok} {ccl cl : Value} {cdd cld : Option Addr} {ccs csl : Array (Option Value)} {cdD : ClassData} {mg mb : Str → Option Value} {y : Str} {ty : Tok}

theorem init_run (hroom : A.depth < recursionLimit) (X : K.In s.heap) (hf : K.lookup fI = some ⟨oc, od, .func fd, osl⟩) (hbody : fd.body = .stmts (initBody p0 p1 p2 p3 p4 p5 p6 p7 p8 p9)) (hline : (p2.endLine == p4.line) = true)
    (hbind : ∀ a b, bindArgs fd ⟨[a, b], []⟩ = pure [(("self" : Str), a), (("what" : Str), b)]) (hp : (fd.params.posonlyargs ++ fd.params.args).head? = some ar) (har : ar.arg = "self")
    (hclo : fd.closure = [(("__class__" : Str), cc)]) (hcode : fd.code = .ref cda) (hglob : fd.globals = mainGlobals) (hbui : fd.builtins = builtinsNs)
    (hk : fd.scope.kind = .function) (hco : fd.scope.isCoroutine = false) (hgen : fd.scope.isGenerator = false) (hcells : ∀ z ∈ fd.scope.names, z.2 ≠ .cell) (hks : fd.scope.names.lookup ("super" : Str) = some .globalImplicit) (hkc : fd.scope.names.lookup ("__class__" : Str) = some .free)
    (hka : fd.scope.names.lookup ("self" : Str) = some .local) (hkw : fd.scope.names.lookup ("what" : Str) = some .local)
    (hcda : K.lookup cda = some ⟨ccl, cdd, .fields vs, ccs⟩) (hvs : vs[2]? = some (.str file tf)) (hfile : ((prog.main.file : Str) == file) = true) (htop : (prog.main.scope.names.lookup ("super" : Str)).isSome = false)
    (hlim : s.heap.NoLimit) (hcd : s.heap.CodeRec fd.code fd.qualname)
    (hcell : K.lookup cc = some ⟨cl, cld, .cell (some (.ref D)), csl⟩) (hD : clsIn K D = some cdD)
    (hC : s.heap.get? C = some (excClassObj nm q C N bs bm true sn sub ab col dd k0 k1 k2 k3 k5 id)) (hsubD : mroIn K C (.ref D) = some true) (hsubE : subIn K (.ref C) (.type "Exception") = some true)
    (hopq : nsIn K cStatics "thirdparty.any" = some none) (hal : alongIn K "__init__" (((Value.ref C :: bm).dropWhile (· != .ref D)).drop 1) = some (some (.builtin "Exception.__init__")))
    (hpass : ∀ v, refuseLoop v "__setattr__" (.ref C :: bm) = pure ()) (hw : findIn K (.ref C) "what" = some none) (hset : findIn K (.ref C) "__setattr__" = some (some (.builtin "object.__setattr__"))) (ho : bm.contains (.type "object") = true)
    (hg : s.heap.Ns mainGlobals mg) (hgs : mg "super" = none) (hb : s.heap.Ns builtinsNs mb) (hbs : mb "super" = some (.type "super"))
    (hx : s.heap.get? x = some (newExcObj C t0)) (hxC : x ≠ C) (hxK : K.lookup x = none)
    (hR : ∀ h' tk t1 dx, h'.get? x = some { newExcObj C t1 with dict := some dx } → (∀ b o, b ≠ x → s.heap.get? b = some o → h'.get? b = some o) → R (.ok (.ret .none)) { s with heap := h', toks := tk }) :
    codeAny (model prog w) A (.call (.ref fI) ⟨[.ref x, .str y ty], []⟩) R s := by
  refine ks_codeAny_call_defAt (binds := [(("self" : Str), .ref x), (("what" : Str), .str y ty)]) hroom (X _ _ hf) rfl hlim hcd hbody (.of_eq (hbind _ _)) hcells (by
    intro z hz
    rcases List.mem_cons.mp hz with rfl | hz
    · exact hka
    · rcases List.mem_cons.mp hz with rfl | hz
      · exact hkw
      · cases hz) (fun h₀ hns keep => ?_) hco hgen hk
  generalize henv : callEnv fd s.heap.objs.size fI = env at hns ⊢
  have ek : env.scope = fd.scope := by rw [← henv]; rfl
  have kn : ∀ z, env.kindOf z = fd.scope.names.lookup z := fun z => by unfold Env.kindOf; rw [ek]
  have eL : env.locals = s.heap.objs.size := by rw [← henv]; rfl
  have eC : env.cells = [(("__class__" : Str), cc)] := by rw [← henv, ← hclo]; rfl
  have eF : env.func = some fI := by rw [← henv]; rfl
  have eD : env.code = .ref cda := by rw [← henv, ← hcode]; rfl
  have eG : env.globals = mainGlobals := by rw [← henv, ← hglob]; rfl
  have eB : env.builtins = builtinsNs := by rw [← henv, ← hbui]; rfl
  have ekk : env.scope.kind = .function := by rw [ek]; exact hk
  have hself : (fun z => ([(("self" : Str), Value.ref x), (("what" : Str), Value.str y ty)].reverse).lookup z) ("self" : Str) = some (.ref x) := by first | rfl | kernel_rfl
  have hwhat : (fun z => ([(("self" : Str), Value.ref x), (("what" : Str), Value.str y ty)].reverse).lookup z) ("what" : Str) = some (.str y ty) := by rfl
  have X₀ := X.keeps keep
  obtain ⟨oD, hD1, hD2⟩ : ∃ oD, h₀.get? D = some oD ∧ oD.data = .cls cdD := by
    unfold clsIn at hD
    split at hD
    · rename_i c d cd' sl ho'
      cases hD
      exact ⟨_, X₀ _ _ ho', rfl⟩
    · cases hD
  have hx₀ := keep _ _ hx
  have hC₀ := keep _ _ hC
  have Lne : x ≠ s.heap.objs.size := Nat.ne_of_lt (Heap.lt_size hx)
  refine ks_wpAt_execs_cons (ks_wpAt_Expr_any (ks_wpAt_MethodCall (pl := (do return (← importBound (.Call (.Name "super" p0) [] [] p1) env).getD true)) ?_ ?_) (by unfold interactive; rw [ekk]; rfl) rfl)
  case refine_2 =>
    have hpos : methodCallPos true (.Call (.Name "super" p0) [] [] p1) env p2 p4 = pure p4 := by unfold methodCallPos; simp [hline]
    rw [arm_eval_Call]
    show (do
      let ov ← attributeBase (.Call (.Name "super" p0) [] [] p1) "__init__" env (eval (.Call (.Name "super" p0) [] [] p1) env)
      standAt p2.atName
      let (f, first) ← holding [ov] (getMethod ov "__init__" _)
      let callPos ← methodCallPos true (.Call (.Name "super" p0) [] [] p1) env p2 p4
      callWith callPos f first (backTo p4 (starEach [.Name "what" p3] env)) []) = _
    rw [hpos]
    simp only [pure_bind]
  refine ks_wpAt_super_base ((kn _).trans hks) ((kn _).trans hkc) (by decide) eF (X₀ _ _ hf) rfl hp eD (X₀ _ _ hcda) rfl hvs hfile htop ?_
  refine ks_loadName_global ekk ((kn _).trans hks) (loadGlobal_builtin (by rw [eG]; exact hg.keeps keep) hgs (by rw [eB]; exact hb.keeps keep) hbs ⟨rfl, ?_⟩)
  refine wpAny_loadName_free ekk ((kn _).trans hkc) (by rw [eC]; rfl) ⟨_, X₀ _ _ hcell, rfl⟩ ?_
  rw [har]
  refine wpAny_loadName_local ekk ((kn _).trans hka) (by rw [eL]; exact hns) hself ?_
  refine ks_wpAny_isType_cls hD1 hD2 ⟨rfl, ?_⟩
  refine ks_wpAny_call_super hD1 hD2 hx₀ rfl (fun c e => by cases e) (looks_mroIn X₀ hsubD) (fun h1 e1 k1 => ?_)
  have X1 := X₀.keeps k1
  refine super_method e1 (looks_opaque X1 hopq) (l₀ := .ref C :: bm) (fun A Q E s' kk q => by
    obtain ⟨hh, g, d, tt, os⟩ := s'
    exact wpAny_mroOf_exc (kk _ _ (k1 _ _ hC₀)) q) rfl X1 hal (k1 _ _ hx₀) rfl (looks_subIn X1 hsubE) hxC ?_
  have k2 : ∀ b o, h1.get? b = some o → (h1.push (wrapObj x)).get? b = some o := fun b o e => Heap.get?_push_of_some _ e
  have hmw : (h1.push (wrapObj x)).get? h1.objs.size = some (wrapObj x) := Heap.get?_push_at rfl rfl
  have hns2 : (h1.push (wrapObj x)).Ns s.heap.objs.size _ := (hns.keeps k1).keeps k2
  unfold callWith
  refine wpAny_bind (wpAny_holding (evalArgs_plain (f := .ref h1.objs.size) (x := eval (.Name "what" p3) env) (rest := []) (spliced_cons (wpAny_Name (wpAny_loadName_local ekk ((kn _).trans hkw) (by rw [eL]; exact hns2) hwhat (spliced_nil (wpAny_bind (wpAny_standAt ?_)))) (by decide)))))
  refine wpAny_bind (m := keeperOf (.ref h1.objs.size)) ?_
  unfold keeperOf
  refine wpAny_bind (wpAny_load hmw ?_)
  dsimp only
  rw [if_pos (by decide)]
  refine wpAny_pure ?_
  refine wpAny_bind (bound_call (k2 _ _ (k1 _ _ hC₀)) hmw (k2 _ _ (k1 _ _ hx₀)) fun h3 t1 hx3 k3 => wpAny_bind (wpAny_holding (wpAny_point (wpAny_pure ?_))))
  have X3 : K.In h3 := fun b o e => k3 b o (fun q => by
    subst q
    rw [hxK] at e; cases e) (k2 _ _ (X1 _ _ e))
  have k03 : ∀ b o, b ≠ x → s.heap.get? b = some o → h3.get? b = some o := fun b o hb e => k3 b o hb (k2 _ _ (k1 _ _ (keep _ _ e)))
  have hns3 : h3.Ns s.heap.objs.size _ := hns2.at' fun o e => k3 _ o Lne.symm e
  refine ks_wpAt_execs_cons (wpAt_of_wpAny ?_)
  refine plainObj_wpAny_Assign_Attribute ?_ rfl
  refine wpAny_Name (wpAny_loadName_local ekk ((kn _).trans hkw) (by rw [eL]; exact hns3) hwhat ?_) (by decide)
  refine wpAny_Name (wpAny_loadName_local ekk ((kn _).trans hka) (by rw [eL]; exact hns3) hself ?_) (by decide)
  refine exc_set X3 (k3 _ _ hxC.symm (k2 _ _ (k1 _ _ hC₀))) hx3 (hpass _) hw hset ho fun h4 tk4 dx hx4 k4 => ?_
  exact wpAt_of_wpAny (wpAny_execs_nil (hR h4 tk4 t1 dx hx4 fun b o hb e => k4 b o hb (k03 b o hb e)))
end
end Mine

-- N6
namespace Mine
open PySem PySem.W PySem.Calls
variable [Z : Inhabited Frozen]

section
variable {C : Conf} {k : Exn}
variable {nm q : Str} {N : Addr} {bs bm : List Value} {sn : List Str} {sub : List Value} {ab : Bool} {col : Option Bool} {dd : Option Addr} {k0 k1 k2 k3 k5 : Option Value}
variable {p0 p1 p2 p3 p4 p5 p6 p7 p8 p9 : Pos} {fI cc cda D : Addr} {oc : Value} {od : Option Addr} {osl : Array (Option Value)} {fd : FuncData} {ar : Arg} {vs : Array Value} {file : Str} {tf : Tok} {ccl cl : Value} {cdd cld : Option Addr} {ccs csl : Array (Option Value)} {cdD : ClassData}

theorem makes_ok (hC : C.K.lookup (C.cls k) = some (excClassObj nm q (C.cls k) N bs bm true sn sub ab col dd k0 k1 k2 k3 k5 "Exception.__new__")) (hB : bm.contains (.type "Exception") = true) (hA : bm.contains (.type "AttributeError") = false) (hN : bm.contains (.type "NameError") = false)
    (hi : findIn C.K (.ref (C.cls k)) "__init__" = some (some (.ref fI))) (hft : typeIn C.K (.ref fI) = some (.type "function"))
    (hf : C.K.lookup fI = some ⟨oc, od, .func fd, osl⟩) (hbody : fd.body = .stmts (initBody p0 p1 p2 p3 p4 p5 p6 p7 p8 p9)) (hline : (p2.endLine == p4.line) = true)
    (hbind : ∀ a b, bindArgs fd ⟨[a, b], []⟩ = pure [(("self" : Str), a), (("what" : Str), b)]) (hp : (fd.params.posonlyargs ++ fd.params.args).head? = some ar) (har : ar.arg = "self")
    (hclo : fd.closure = [(("__class__" : Str), cc)]) (hcode : fd.code = .ref cda) (hglob : fd.globals = mainGlobals) (hbui : fd.builtins = builtinsNs)
    (hk : fd.scope.kind = .function) (hco : fd.scope.isCoroutine = false) (hgen : fd.scope.isGenerator = false) (hcells : ∀ z ∈ fd.scope.names, z.2 ≠ .cell) (hks : fd.scope.names.lookup ("super" : Str) = some .globalImplicit) (hkc : fd.scope.names.lookup ("__class__" : Str) = some .free)
    (hka : fd.scope.names.lookup ("self" : Str) = some .local) (hkw : fd.scope.names.lookup ("what" : Str) = some .local)
    (hcda : C.K.lookup cda = some ⟨ccl, cdd, .fields vs, ccs⟩) (hvs : vs[2]? = some (.str file tf)) (hfile : ((C.prog.main.file : Str) == file) = true) (htop : (C.prog.main.scope.names.lookup ("super" : Str)).isSome = false)
    (hcd : codeIn C.K fd.code fd.qualname = true)
    (hcell : C.K.lookup cc = some ⟨cl, cld, .cell (some (.ref D)), csl⟩) (hD : clsIn C.K D = some cdD)
    (hsubD : mroIn C.K (C.cls k) (.ref D) = some true) (hsubE : subIn C.K (.ref (C.cls k)) (.type "Exception") = some true)
    (hopq : nsIn C.K cStatics "thirdparty.any" = some none) (hal : alongIn C.K "__init__" (((Value.ref (C.cls k) :: bm).dropWhile (· != .ref D)).drop 1) = some (some (.builtin "Exception.__init__")))
    (hpass : ∀ v, refuseLoop v "__setattr__" (.ref (C.cls k) :: bm) = pure ()) (hw : findIn C.K (.ref (C.cls k)) "what" = some none) (hset : findIn C.K (.ref (C.cls k)) "__setattr__" = some (some (.builtin "object.__setattr__"))) (ho : bm.contains (.type "object") = true)
    (hgs : C.mg "super" = none) (hbs : bootBuiltins "super" = some (.type "super")) : Makes C k := by
  intro A fr hd hu β s σ y ty Q E I hy hQ
  have X := inK_now I
  have hg := globNow I
  have hb := buiNow I
  have hlim := I.nolim.keeps I.stays
  obtain ⟨h, g, d, t, os⟩ := s
  dsimp only at X hg hb hlim hQ ⊢
  have hC0 := X _ _ hC
  refine own_call (K := C.K) (rest := [.str y ty]) X hB hA hN hC0 hi hft (by show 1 ≤ _; rw [sizeLine_eq]; decide) fun h' e t' keep fe he => ?_
  have X' := X.keeps keep
  have hxK : C.K.lookup e = none := by
    cases z : C.K.lookup e with
    | none => rfl
    | some o => rw [X _ _ z] at fe; cases fe
  have hxC : e ≠ C.cls k := fun z => by rw [z, hC0] at fe; cases fe
  refine wpAny_call (init_run (K := C.K) (s := ⟨h', g, d, t, os⟩) ?_ X' hf hbody hline hbind hp har hclo hcode hglob hbui hk hco hgen hcells hks hkc hka hkw hcda hvs hfile htop (hlim.keeps keep) (codeRec_of X' hcd) hcell hD (keep _ _ hC0) hsubD hsubE hopq hal hpass hw hset ho
    (hg.keeps keep) hgs (hb.keeps keep) (by rw [I.bfit _ (by decide)]; exact hbs) he hxC hxK fun h2 tk t1 dx hx2 k2 => ?_)
  · have : (Code.builtin "type.__call__" ⟨[.ref (C.cls k), .str y ty], []⟩).weight ≤ 2 := by
      have e : (Code.builtin "type.__call__" ⟨[.ref (C.cls k), .str y ty], []⟩).weight = 1 := by kernel_rfl
      omega
    show A.depth + _ < _
    omega
  · refine ⟨rfl, hQ h2 tk e _ _ _ (fun b o hb' => k2 b o (fun z => ?_) (keep _ _ hb')) fe hx2 rfl rfl rfl rfl⟩
    subst z
    rw [fe] at hb'; cases hb'
end
end Mine

-- P1
namespace Mine
open PySem

/-- the text's own defs, by their places -/
def defAt (p : Program) (k : Nat) : Def := match p.main.body[k]? with
  | some (.FunctionDef _ args body _ _ _ scope _ _ _) => ⟨args.args.map (·.arg), body, scope.names⟩
  | _ => ⟨[], [], []⟩

def places1 : List (Str × Nat) := [("part_at", 5), ("replaced", 6), ("is_row_of", 11), ("number_behind", 12), ("index_of", 13), ("variable", 14), ("below", 15), ("moved_within", 16), ("shifted", 17), ("put_in", 18), ("is_redex", 19),
  ("beta", 20), ("first_redex", 21), ("is_beyond", 22), ("normal", 23), ("alike_to", 24), ("_law_pick", 26), ("_law_name", 27), ("_law_tree", 28), ("_law_spots", 29), ("_law_part", 30), ("_law_with", 31), ("_law_put", 32),
  ("_law_is_app_of_lam", 33), ("_law_worked", 34), ("_law_turned", 35), ("_law_end", 36), ("_law_core", 37), ("_law_told", 38)]
def consts1 : List (Str × PV) := [("FIGURES", .str "0123456789"), ("MOST_SIZE", .int 20000), ("MOST_LEVELS", .int 150)]
def exns1 : List (Str × Exn) := [("TermFault", .term), ("LimitFault", .limit)]
def T1 : Text := { defs := fun f => (places1.lookup f).map (defAt PySem.Challenge.pw_pq0040_01), const := fun x => consts1.lookup x, exn := fun x => exns1.lookup x, fuel := 100000 }

theorem ofString_inj (a b : String) : (Str.ofString a = Str.ofString b) = (a = b) := by
  apply propext
  constructor
  · intro h
    rw [Str.ofString_eq_toList, Str.ofString_eq_toList] at h
    injection h with h
    have h2 : a.toList.map Char.toNat = b.toList.map Char.toNat := by simpa using congrArg Array.toList h
    have inj : Function.Injective Char.toNat := fun x y e => by
      have := congrArg Char.ofNat e
      simpa using this
    exact String.toList_inj.mp ((List.map_inj_right fun x y e => inj e).mp h2)
  · intro h; rw [h]
theorem ofString_beq (a b : String) : (Str.ofString a == Str.ofString b) = (a == b) := by
  rw [Bool.eq_iff_iff, beq_iff_eq, beq_iff_eq, ofString_inj]
theorem strOk_ofString (a : String) : PyData.strOk (Str.ofString a) = true := by
  unfold PyData.strOk
  rw [Str.ofString_eq_toList]
  rw [← Array.all_toList, List.all_eq_true]
  intro x hx
  obtain ⟨c, _, rfl⟩ := List.mem_map.mp hx
  rw [decide_eq_true_eq]
  rcases c.valid with h | h
  · exact Nat.lt_trans h (by decide)
  · exact h.2
theorem strOk_append (a b : Str) : PyData.strOk (a ++ b) = (PyData.strOk a && PyData.strOk b) := by
  unfold PyData.strOk
  show (a.cps ++ b.cps).all _ = _
  simp

section
variable {α δ : Type}
theorem bind_at (m : M α) (f : α → M δ) (σ : Store) : (m >>= f) σ = match m σ with
  | .none => .none
  | some (.exc k σ') => some (.exc k σ')
  | some (.ok a σ') => f a σ' := rfl
theorem pure_at (a : α) (σ : Store) : (pure a : M α) σ = some (.ok a σ) := rfl
theorem fail_at (σ : Store) : (M.fail : M α) σ = .none := rfl
theorem lift_some_at (a : α) (σ : Store) : M.lift (some a) σ = some (.ok a σ) := rfl
theorem lift_none_at (σ : Store) : (M.lift (.none : Option α)) σ = .none := rfl
theorem ite_at {c : Prop} [Decidable c] (a b : M α) (σ : Store) : (if c then a else b) σ = if c then a σ else b σ := by split <;> rfl

/-- gives v; what it makes besides is left behind -/
def Gives (m : M α) (v : α) : Prop := ∀ σ, ∃ g, m σ = some (.ok v (σ ++ g))
noncomputable def gar (m : M α) (v : α) (σ : Store) : Store := open Classical in
  if h : ∃ g, m σ = some (.ok v (σ ++ g)) then h.choose else []
theorem Gives.at {m : M α} {v : α} (h : Gives m v) (σ : Store) : m σ = some (.ok v (σ ++ gar m v σ)) := by
  unfold gar; rw [dif_pos (h σ)]; exact (h σ).choose_spec
theorem gives_pure (v : α) : Gives (pure v : M α) v := fun σ => ⟨[], by rw [List.append_nil]; rfl⟩
theorem gives_bind {m : M α} {f : α → M δ} {v : α} {w : δ} (h : Gives m v) (h2 : Gives (f v) w) : Gives (m >>= f) w := fun σ => by
  obtain ⟨g, hg⟩ := h σ
  obtain ⟨g2, hg2⟩ := h2 (σ ++ g)
  exact ⟨g ++ g2, by rw [bind_at, hg]; simp only [hg2, List.append_assoc]⟩
end
theorem at_call (T : Text) (n : Nat) (f : Str) (ds : List PV) (D : Def) (h : T.defs f = some D) : (T.at (n + 1)).call f ds = callOf (T.at n) D ds := by
  show (match T.defs f with | some D => callOf (T.at n) D ds | .none => M.fail) = _
  rw [h]

/-- at each depth of at least k, the call gives v -/
def Calls (f : Str) (args : List PV) (k : Nat) (v : PV) : Prop := ∀ n, k ≤ n → Gives ((T1.at n).call f args) v
theorem calls_of {f : Str} {args : List PV} {k : Nat} {v : PV} {D : Def} (hD : T1.defs f = some D) (h : ∀ n, k ≤ n → Gives (callOf (T1.at n) D args) v) : Calls f args (k + 1) v := by
  intro n hn
  obtain ⟨m, rfl⟩ : ∃ m, n = m + 1 := ⟨n - 1, by omega⟩
  rw [at_call _ _ _ _ _ hD]
  exact h m (by omega)
theorem Calls.mono {f : Str} {args : List PV} {k k2 : Nat} {v : PV} (h : Calls f args k v) (hk : k ≤ k2) : Calls f args k2 v := fun n hn => h n (Nat.le_trans hk hn)

theorem isDef1 (n : Nat) (f : Str) : (T1.at n).isDef f = (places1.lookup f).isSome := by
  rw [at_isDef]; show ((places1.lookup f).map _).isSome = _; simp
theorem const1 (n : Nat) (f : Str) : (T1.at n).const f = consts1.lookup f := by rw [at_const]; rfl
theorem exn1 (n : Nat) (f : Str) : (T1.at n).exn f = exns1.lookup f := by rw [at_exn]; rfl
theorem fuel1 (n : Nat) : (T1.at n).fuel = 100000 := by cases n <;> rfl
end Mine

-- P2
namespace Mine
open PySem

/-- names -/
inductive Nm where
  | k | m
  | n (i : Nat)
  deriving DecidableEq
/-- trees with names -/
inductive T where
  | nm (x : Nm)
  | lam (x : Nm) (b : T)
  | app (a b : T)
  deriving DecidableEq
/-- trees with places; free names -/
inductive B where
  | var (i : Nat)
  | fr (k : Bool)
  | lam (b : B)
  | app (a b : B)
  deriving DecidableEq
def ntext (i : Nat) : Str := Str.ofString "n" ++ strOfInt (i : Int)
def vtext (i : Nat) : Str := Str.ofString "var" ++ strOfInt (i : Int)
def Nm.text : Nm → Str
  | .k => "k"
  | .m => "m"
  | .n i => ntext i
def frText (k : Bool) : Str := if k then "k" else "m"
def T.pv : T → PV
  | .nm x => .tup [.str "name", .str x.text]
  | .lam x b => .tup [.str "lam", .str x.text, b.pv]
  | .app a b => .tup [.str "app", a.pv, b.pv]
def B.pv : B → PV
  | .var i => .tup [.str (vtext i)]
  | .fr k => .tup [.str (frText k)]
  | .lam b => .tup [.str "lam", b.pv]
  | .app a b => .tup [.str "app", a.pv, b.pv]
def T.size : T → Nat
  | .nm _ => 1
  | .lam _ b => b.size + 1
  | .app a b => a.size + b.size + 1
def B.size : B → Nat
  | .var _ => 1
  | .fr _ => 1
  | .lam b => b.size + 1
  | .app a b => a.size + b.size + 1

theorem empty_append (x : Str) : Str.empty ++ x = x := by
  cases x with | mk c => show Str.mk (#[] ++ c) = _; simp


theorem digits_num (i : Nat) : (strOfInt (i : Int)).cps.toList = (Nat.toDigits 10 i).map Char.toNat := PySem.W.KIN.signs_num i
theorem codes_append (a b : Str) : (a ++ b).cps.toList = a.cps.toList ++ b.cps.toList := by
  show (a.cps ++ b.cps).toList = _
  simp
theorem codes_var : (Str.ofString "var").cps.toList = [118, 97, 114] := by rw [Str.ofString_eq_toList]; rfl
theorem codes_n : (Str.ofString "n").cps.toList = [110] := by rw [Str.ofString_eq_toList]; rfl
theorem codes_v (i : Nat) : (vtext i).cps.toList = [118, 97, 114] ++ (strOfInt (i : Int)).cps.toList := by
  unfold vtext; rw [codes_append, codes_var]
theorem str_ext {a b : Str} (h : a.cps.toList = b.cps.toList) : a = b := by
  cases a; cases b; congr 1; exact Array.toList_inj.mp h
theorem digits_all (i : Nat) : ∀ c ∈ (strOfInt (i : Int)).cps.toList, 48 ≤ c ∧ c ≤ 57 := by
  intro c hc
  rw [digits_num] at hc
  obtain ⟨ch, hch, e⟩ := List.mem_map.mp hc
  have r := PyProof.Rows.digit_range (Nat.isDigit_of_mem_toDigits (by decide) (by decide) hch)
  rw [← e]
  exact r
theorem digits_ne (i : Nat) : (strOfInt (i : Int)).cps.toList ≠ [] := by
  rw [digits_num]
  intro e
  have h := toDigits_len_ge 10 i
  rw [List.map_eq_nil_iff.mp e] at h
  exact absurd h (by decide)
theorem strOk_num (i : Int) : PyData.strOk (strOfInt i) = true := strOk_ofString _
theorem strOk_v (i : Nat) : PyData.strOk (vtext i) = true := by unfold vtext; rw [strOk_append, strOk_ofString, strOk_num]; rfl
theorem strOk_n (i : Nat) : PyData.strOk (ntext i) = true := by unfold ntext; rw [strOk_append, strOk_ofString, strOk_num]; rfl
theorem strOk_nm (x : Nm) : PyData.strOk x.text = true := by
  cases x with
  | k => exact strOk_ofString _
  | m => exact strOk_ofString _
  | n i => exact strOk_n i
theorem strOk_fr (k : Bool) : PyData.strOk (frText k) = true := by cases k <;> exact strOk_ofString _
theorem v_ne (i : Nat) (x : Str) (h : x.cps.toList.take 3 ≠ [118, 97, 114]) : (vtext i == x) = false := by
  rw [beq_eq_false_iff_ne]
  intro e
  apply h
  rw [← e, codes_v]
  rfl
theorem v_ne' (i : Nat) (x : Str) (h : x.cps.toList.take 3 ≠ [118, 97, 114]) : (x == vtext i) = false := by
  have := v_ne i x h
  rw [beq_eq_false_iff_ne] at this ⊢
  exact fun e => this e.symm
theorem signs_txt (a : String) : (Str.ofString a).cps.toList = a.toList.map Char.toNat := by rw [Str.ofString_eq_toList]
theorem v_lam (i : Nat) : (vtext i == Str.ofString "lam") = false := v_ne i _ (by rw [signs_txt]; decide)
theorem v_app (i : Nat) : (vtext i == Str.ofString "app") = false := v_ne i _ (by rw [signs_txt]; decide)
theorem v_fr (i : Nat) (k : Bool) : (vtext i == frText k) = false := by cases k <;> exact v_ne i _ (by unfold frText; simp only [Bool.false_eq_true, ↓reduceIte]; rw [signs_txt]; decide)
theorem fr_lam (k : Bool) : (frText k == Str.ofString "lam") = false := by cases k <;> (unfold frText; simp only [Bool.false_eq_true, ↓reduceIte]; rw [ofString_beq]; decide)
theorem fr_app (k : Bool) : (frText k == Str.ofString "app") = false := by cases k <;> (unfold frText; simp only [Bool.false_eq_true, ↓reduceIte]; rw [ofString_beq]; decide)
theorem v_take (i : Nat) : (⟨((vtext i).cps.toList.take 3).toArray⟩ : Str) = Str.ofString "var" := str_ext (by rw [codes_var, codes_v]; rfl)
theorem v_drop (i : Nat) : (⟨((vtext i).cps.toList.drop 3).toArray⟩ : Str) = strOfInt (i : Int) := str_ext (by rw [codes_v]; rfl)
theorem fr_take (k : Bool) : ((⟨((frText k).cps.toList.take 3).toArray⟩ : Str) == Str.ofString "var") = false := by
  rw [beq_eq_false_iff_ne]
  intro e
  have := congrArg (fun s : Str => s.cps.toList) e
  cases k <;> (simp only [frText, Bool.false_eq_true, ↓reduceIte, signs_txt] at this; exact absurd this (by decide))
theorem int_back (i : Nat) (h : i < 10 ^ 9) : intOfText (strOfInt (i : Int)) = some (i : Int) := by
  have hl : (strOfInt (i : Int)).length ≤ 10 := PySem.W.KT.len_num (by omega) (by omega)
  unfold intOfText
  rw [if_pos (by omega)]
  exact PySem.W.KIN.num_reads (by omega) (by omega)
theorem no_zero (i : Nat) (r : List Nat) (h : (strOfInt (i : Int)).cps.toList = 48 :: r) : r = [] := by
  have hd : NumText.AllDigits (strOfInt (i : Int)).cps.toList := digits_all i
  have ht := NumText.toDigits_all _ hd
  have hv := PySem.W.KIN.val_back i
  rw [← digits_num] at hv
  rw [hv] at ht
  have hl : (Nat.toDigits 10 i).length = r.length + 1 := by
    have := congrArg List.length (digits_num i)
    rw [h, List.length_map] at this
    simpa using this.symm
  rw [h] at ht
  have hle := (List.dropWhile_suffix (l := r) (· == 48)).length_le
  rw [List.dropWhile_cons] at ht
  simp only [beq_self_eq_true, ↓reduceIte] at ht
  split at ht
  · rw [ht] at hl
    simp at hl
    exact hl
  · rename_i x hx
    rw [ht, List.length_map] at hl
    have hx' := congrArg List.length hx
    omega
end Mine

-- P3
namespace Mine
open PySem

theorem gives_each {f : PV → M (Option PV)} (o : PV → Option PV) : ∀ {ds : List PV}, (∀ d ∈ ds, Gives (f d) (o d)) → Gives (each f ds) (ds.flatMap fun d => (o d).toList)
  | [], _ => gives_pure _
  | d :: r, h => by
    have h1 := h d (List.mem_cons_self ..)
    have h2 := gives_each o (ds := r) fun x hx => h x (List.mem_cons_of_mem _ hx)
    show Gives (f d >>= fun v => each f r >>= fun vs => pure (v.toList ++ vs)) _
    exact gives_bind h1 (gives_bind h2 (gives_pure _))
theorem gives_quiet {α : Type} {m : M α} {v : α} (h : Gives m v) : Gives (quiet m) v := fun σ => by
  obtain ⟨g, hg⟩ := h σ
  exact ⟨g, by unfold quiet; rw [hg]⟩
theorem gives_ite {α : Type} {c : Prop} [Decidable c] {a b : M α} {v : α} (h1 : c → Gives a v) (h2 : ¬ c → Gives b v) : Gives (if c then a else b) v := by
  split
  · exact h1 ‹_›
  · exact h2 ‹_›
theorem flat_filter (b : PV → Bool) (e : PV → PV) : ∀ ds : List PV, (ds.flatMap fun d => (if b d = true then some (e d) else .none : Option PV).toList) = (ds.filter b).map e
  | [] => rfl
  | d :: r => by
    rw [List.flatMap_cons, flat_filter b e r]
    cases h : b d <;> simp [h]
/-- a comprehension over what is no list -/
theorem compM_gives {src : M PV} {test : PV → M Bool} {elt : PV → M PV} {s : PV} {ds : List PV} (b : PV → Bool) (e : PV → PV) (hs : Gives src s) (hi : Gives (items s) ds) (hst : Gives (still s ds) ⟨⟩)
    (ht : ∀ d ∈ ds, Gives (test d) (b d)) (he : ∀ d ∈ ds, b d = true → Gives (elt d) (e d)) : Gives (compM src test elt) ((ds.filter b).map e) := by
  rw [← flat_filter]
  unfold compM
  refine gives_bind hs (gives_bind hi (gives_quiet (gives_each (fun d => if b d = true then some (e d) else .none) fun d hd => ?_)))
  refine gives_bind (ht d hd) ?_
  cases h : b d with
  | true => exact gives_bind (gives_bind (he d hd h) (gives_pure _)) (gives_bind hst (gives_pure _))
  | false => exact gives_bind (gives_pure _) (gives_bind hst (gives_pure _))
/-- the same, all taken -/
theorem compM_all {src : M PV} {test : PV → M Bool} {elt : PV → M PV} {s : PV} {ds : List PV} (e : PV → PV) (hs : Gives src s) (hi : Gives (items s) ds) (hst : Gives (still s ds) ⟨⟩)
    (ht : ∀ d ∈ ds, Gives (test d) true) (he : ∀ d ∈ ds, Gives (elt d) (e d)) : Gives (compM src test elt) (ds.map e) := by
  have h := compM_gives (fun _ => true) e hs hi hst (fun d hd => ht d hd) (fun d hd _ => he d hd)
  rwa [List.filter_eq_self.mpr (fun _ _ => rfl)] at h
theorem still_tup (xs ds : List PV) : Gives (still (.tup xs) ds) ⟨⟩ := gives_pure (α := PUnit) ⟨⟩
theorem still_str (x : Str) (ds : List PV) : Gives (still (.str x) ds) ⟨⟩ := gives_pure (α := PUnit) ⟨⟩
theorem still_rng (a b : Int) (ds : List PV) : Gives (still (.rng a b) ds) ⟨⟩ := gives_pure (α := PUnit) ⟨⟩
theorem items_tup {xs : List PV} (h : xs.length ≤ 100000) : Gives (items (.tup xs)) xs := by
  show Gives (if decide (xs.length ≤ 100000) = true then pure xs else M.fail) _
  rw [if_pos (decide_eq_true h)]; exact gives_pure _
theorem items_str {x : Str} (h : x.length ≤ 100000) : Gives (items (.str x)) (x.cps.toList.map fun c => .str ⟨#[c]⟩) := by
  show Gives (if decide (x.length ≤ 100000) = true then pure (x.cps.toList.map fun c => PV.str ⟨#[c]⟩) else M.fail) _
  rw [if_pos (decide_eq_true h)]; exact gives_pure _

/-- a for loop, by what holds ahead of each turn -/
theorem forGo_rule {x : Str} {go : PV → Store → Bool} {b : Vars → Store → Option SO} (I : List PV → Vars → Store → Prop) (Q : SO → Prop)
    (hb : ∀ d r ρ σ, I (d :: r) ρ σ → ∃ o, b (Vars.set ρ x d) σ = some o ∧ (match o with
      | .next ρ' σ' => go d σ' = true ∧ I r ρ' σ'
      | .brk ρ' σ' => Q (.next ρ' σ')
      | o => Q o)) (h0 : ∀ ρ σ, I [] ρ σ → Q (.next ρ σ)) : ∀ ds ρ σ, I ds ρ σ → ∃ o, forGo x go b ds ρ σ = some o ∧ Q o
  | [], ρ, σ, h => ⟨_, rfl, h0 ρ σ h⟩
  | d :: r, ρ, σ, h => by
    obtain ⟨o, ho, hq⟩ := hb d r ρ σ h
    rw [forGo, ho]
    cases o with
    | next ρ' σ' =>
      simp only
      rw [if_pos hq.1]
      exact forGo_rule I Q hb h0 r ρ' σ' hq.2
    | brk ρ' σ' => exact ⟨_, rfl, hq⟩
    | ret d σ' => exact ⟨_, rfl, hq⟩
    | exc k ρ' σ' => exact ⟨_, rfl, hq⟩
/-- a while loop, by what holds ahead of each turn and a number that falls -/
theorem whileGo_rule {t : Vars → M Bool} {b : Vars → Store → Option SO} (I : Nat → Vars → Store → Prop) (Q : SO → Prop)
    (hb : ∀ m ρ σ, I m ρ σ → ∃ c σ', t ρ σ = some (.ok c σ') ∧ (match c with
      | false => Q (.next ρ σ')
      | true => ∃ o, b ρ σ' = some o ∧ (match o with
        | .next ρ' σ'' => ∃ m', m' < m ∧ I m' ρ' σ''
        | .brk ρ' σ'' => Q (.next ρ' σ'')
        | o => Q o))) : ∀ n m ρ σ, m < n → I m ρ σ → ∃ o, whileGo t b n ρ σ = some o ∧ Q o
  | 0, m, ρ, σ, hm, _ => absurd hm (Nat.not_lt_zero _)
  | n + 1, m, ρ, σ, hm, h => by
    obtain ⟨c, σ', hc, hq⟩ := hb m ρ σ h
    rw [whileGo, M.then, hc]
    cases c with
    | false => exact ⟨_, rfl, hq⟩
    | true =>
      obtain ⟨o, ho, hq⟩ := hq
      simp only [↓reduceIte]
      rw [ho]
      cases o with
      | next ρ' σ'' =>
        obtain ⟨m', hm', hi⟩ := hq
        exact whileGo_rule I Q hb n m' ρ' σ'' (by omega) hi
      | brk ρ' σ' => exact ⟨_, rfl, hq⟩
      | ret d σ' => exact ⟨_, rfl, hq⟩
      | exc k ρ' σ' => exact ⟨_, rfl, hq⟩

theorem andor : (BoolOp.And == BoolOp.Or) = false := rfl
theorem oror : (BoolOp.Or == BoolOp.Or) = true := rfl
theorem andand : (BoolOp.And == BoolOp.And) = true := rfl
theorem orand : (BoolOp.Or == BoolOp.And) = false := rfl
end Mine

-- P4
namespace Mine
open PySem

theorem below_spec (t : B) : Calls "below" [t.pv] 1 (.int (match t with | .lam _ => 1 | _ => 0)) := by
  refine calls_of rfl fun n _ σ => ?_
  unfold callOf
  rw [show defAt PySem.Challenge.pw_pq0040_01 15 = Def.mk _ _ _ from rfl]
  cases t <;> simp [evSs, evS, evE, evEs, evT, evA, evB, evC, evO, evI, evF, ofString_inj, ofString_beq, strOk_ofString, strOk_append, M.then, bind_at, pure_at, fail_at, lift_some_at, lift_none_at, ite_at, isGlob, varOf, Vars.of, Vars.setAll, Vars.set, constOf, item, pickAt, cmpop, eqTop, PV.lay, PV.lays, PV.depth, PV.depths, binop, List.lookup_cons, plainArgs, const1, exn1, fuel1, isDef1, places1, consts1, exns1, bnames, callBuiltin, lenOf, small, canStore, pyEq, PV.toD, PV.toDs, PyData.eqv, PyData.eqvAll, getList, newCell, setCell, slice, bound, cut, textOk, empty_append, andor, oror, andand, orand, strOk_num, strOk_v, strOk_n, strOk_nm, strOk_fr, v_lam, v_app, v_fr, fr_lam, fr_app, v_take, v_drop, fr_take, List.getElem?_append, fieldText, relab, compOk, Vars.comp, B.pv]

theorem variable_spec (i : Nat) (h : i < 10 ^ 9) : Calls "variable" [.int i] 1 (B.var i).pv := by
  refine calls_of rfl fun n _ σ => ?_
  have e : (i : Int).natAbs < 10 ^ 9 := by omega
  have h3 : (Str.ofString "var").length ≤ 100000 := by rw [show (Str.ofString "var").length = (Str.ofString "var").cps.toList.length from Array.length_toList.symm, codes_var]; decide
  unfold callOf
  rw [show defAt PySem.Challenge.pw_pq0040_01 14 = Def.mk _ _ _ from rfl]
  simp [evSs, evS, evE, evEs, evT, evA, evB, evC, evO, evI, evF, ofString_inj, ofString_beq, strOk_ofString, strOk_append, M.then, bind_at, pure_at, fail_at, lift_some_at, lift_none_at, ite_at, isGlob, varOf, Vars.of, Vars.setAll, Vars.set, constOf, item, pickAt, cmpop, eqTop, PV.lay, PV.lays, PV.depth, PV.depths, binop, List.lookup_cons, plainArgs, const1, exn1, fuel1, isDef1, places1, consts1, exns1, bnames, callBuiltin, lenOf, small, canStore, pyEq, PV.toD, PV.toDs, PyData.eqv, PyData.eqvAll, getList, newCell, setCell, slice, bound, cut, textOk, empty_append, andor, oror, andand, orand, strOk_num, strOk_v, strOk_n, strOk_nm, strOk_fr, v_lam, v_app, v_fr, fr_lam, fr_app, v_take, v_drop, fr_take, List.getElem?_append, fieldText, relab, compOk, Vars.comp, B.pv, h, h3, vtext]

theorem filter_none (ds : List PV) : ds.filter (fun _ => false) = [] := List.filter_eq_nil_iff.mpr (fun _ _ => by simp [evSs, evS, evE, evEs, evT, evA, evB, evC, evO, evI, evF, ofString_inj, ofString_beq, strOk_ofString, strOk_append, M.then, bind_at, pure_at, fail_at, lift_some_at, lift_none_at, ite_at, isGlob, varOf, Vars.of, Vars.setAll, Vars.set, constOf, item, pickAt, cmpop, eqTop, PV.lay, PV.lays, PV.depth, PV.depths, binop, List.lookup_cons, plainArgs, const1, exn1, fuel1, isDef1, places1, consts1, exns1, bnames, callBuiltin, lenOf, small, canStore, pyEq, PV.toD, PV.toDs, PyData.eqv, PyData.eqvAll, getList, newCell, setCell, slice, bound, cut, textOk, empty_append, andor, oror, andand, orand, strOk_num, strOk_v, strOk_n, strOk_nm, strOk_fr, v_lam, v_app, v_fr, fr_lam, fr_app, v_take, v_drop, fr_take, List.getElem?_append, fieldText, relab, compOk, Vars.comp])
theorem str_digit (c : Nat) (h : 48 ≤ c ∧ c ≤ 57) : c ∈ (Str.ofString "0123456789").cps := by
  have : c ∈ (Str.ofString "0123456789").cps.toList := by
    rw [signs_txt]
    have : c = 48 ∨ c = 49 ∨ c = 50 ∨ c = 51 ∨ c = 52 ∨ c = 53 ∨ c = 54 ∨ c = 55 ∨ c = 56 ∨ c = 57 := by omega
    rcases this with h | h | h | h | h | h | h | h | h | h <;> (subst h; decide)
  simpa [evSs, evS, evE, evEs, evT, evA, evB, evC, evO, evI, evF, ofString_inj, ofString_beq, strOk_ofString, strOk_append, M.then, bind_at, pure_at, fail_at, lift_some_at, lift_none_at, ite_at, isGlob, varOf, Vars.of, Vars.setAll, Vars.set, constOf, item, pickAt, cmpop, eqTop, PV.lay, PV.lays, PV.depth, PV.depths, binop, List.lookup_cons, plainArgs, const1, exn1, fuel1, isDef1, places1, consts1, exns1, bnames, callBuiltin, lenOf, small, canStore, pyEq, PV.toD, PV.toDs, PyData.eqv, PyData.eqvAll, getList, newCell, setCell, slice, bound, cut, textOk, empty_append, andor, oror, andand, orand, strOk_num, strOk_v, strOk_n, strOk_nm, strOk_fr, v_lam, v_app, v_fr, fr_lam, fr_app, v_take, v_drop, fr_take, List.getElem?_append, fieldText, relab, compOk, Vars.comp] using this
theorem num_len (i : Nat) (h : i < 10 ^ 9) : (strOfInt (i : Int)).length ≤ 10 := PySem.W.KT.len_num (by omega) (by omega)
theorem num_ne (i : Nat) : strOfInt (i : Int) ≠ Str.ofString "" := fun e => digits_ne i (by rw [e, signs_txt]; rfl)

theorem is_row_spec (i : Nat) (h : i < 10 ^ 9) : Calls "is_row_of" [.str (strOfInt i), .str "0123456789"] 1 (.bool true) := by
  refine calls_of rfl fun n _ σ => ?_
  have hl := num_len i h
  unfold callOf
  rw [show defAt PySem.Challenge.pw_pq0040_01 11 = Def.mk _ _ _ from rfl]
  simp [evSs, evS, evE, evEs, evT, evA, evB, evC, evO, evI, evF, ofString_inj, ofString_beq, strOk_ofString, strOk_append, M.then, bind_at, pure_at, fail_at, lift_some_at, lift_none_at, ite_at, isGlob, varOf, Vars.of, Vars.setAll, Vars.set, constOf, item, pickAt, cmpop, eqTop, PV.lay, PV.lays, PV.depth, PV.depths, binop, List.lookup_cons, plainArgs, const1, exn1, fuel1, isDef1, places1, consts1, exns1, bnames, callBuiltin, lenOf, small, canStore, pyEq, PV.toD, PV.toDs, PyData.eqv, PyData.eqvAll, getList, newCell, setCell, slice, bound, cut, textOk, empty_append, andor, oror, andand, orand, strOk_num, strOk_v, strOk_n, strOk_nm, strOk_fr, v_lam, v_app, v_fr, fr_lam, fr_app, v_take, v_drop, fr_take, List.getElem?_append, fieldText, relab, compOk, Vars.comp, num_ne]
  rw [(compM_gives (fun _ => false) id ?_ (items_str (x := strOfInt i) (by omega)) (still_str _ _) ?_ ?_).at]
  · generalize gar _ _ _ = g1
    simp [evSs, evS, evE, evEs, evT, evA, evB, evC, evO, evI, evF, ofString_inj, ofString_beq, strOk_ofString, strOk_append, M.then, bind_at, pure_at, fail_at, lift_some_at, lift_none_at, ite_at, isGlob, varOf, Vars.of, Vars.setAll, Vars.set, constOf, item, pickAt, cmpop, eqTop, PV.lay, PV.lays, PV.depth, PV.depths, binop, List.lookup_cons, plainArgs, const1, exn1, fuel1, isDef1, places1, consts1, exns1, bnames, callBuiltin, lenOf, small, canStore, pyEq, PV.toD, PV.toDs, PyData.eqv, PyData.eqvAll, getList, newCell, setCell, slice, bound, cut, textOk, empty_append, andor, oror, andand, orand, strOk_num, strOk_v, strOk_n, strOk_nm, strOk_fr, v_lam, v_app, v_fr, fr_lam, fr_app, v_take, v_drop, fr_take, List.getElem?_append, fieldText, relab, compOk, Vars.comp, filter_none]
  · exact gives_pure _
  · intro d hd
    obtain ⟨c, hc, rfl⟩ := List.mem_map.mp hd
    have := str_digit c (digits_all i c hc)
    intro σ
    simp [evSs, evS, evE, evEs, evT, evA, evB, evC, evO, evI, evF, ofString_inj, ofString_beq, strOk_ofString, strOk_append, M.then, bind_at, pure_at, fail_at, lift_some_at, lift_none_at, ite_at, isGlob, varOf, Vars.of, Vars.setAll, Vars.set, constOf, item, pickAt, cmpop, eqTop, PV.lay, PV.lays, PV.depth, PV.depths, binop, List.lookup_cons, plainArgs, const1, exn1, fuel1, isDef1, places1, consts1, exns1, bnames, callBuiltin, lenOf, small, canStore, pyEq, PV.toD, PV.toDs, PyData.eqv, PyData.eqvAll, getList, newCell, setCell, slice, bound, cut, textOk, empty_append, andor, oror, andand, orand, strOk_num, strOk_v, strOk_n, strOk_nm, strOk_fr, v_lam, v_app, v_fr, fr_lam, fr_app, v_take, v_drop, fr_take, List.getElem?_append, fieldText, relab, compOk, Vars.comp, this]
  · intro d hd hb; exact absurd hb (by simp [evSs, evS, evE, evEs, evT, evA, evB, evC, evO, evI, evF, ofString_inj, ofString_beq, strOk_ofString, strOk_append, M.then, bind_at, pure_at, fail_at, lift_some_at, lift_none_at, ite_at, isGlob, varOf, Vars.of, Vars.setAll, Vars.set, constOf, item, pickAt, cmpop, eqTop, PV.lay, PV.lays, PV.depth, PV.depths, binop, List.lookup_cons, plainArgs, const1, exn1, fuel1, isDef1, places1, consts1, exns1, bnames, callBuiltin, lenOf, small, canStore, pyEq, PV.toD, PV.toDs, PyData.eqv, PyData.eqvAll, getList, newCell, setCell, slice, bound, cut, textOk, empty_append, andor, oror, andand, orand, strOk_num, strOk_v, strOk_n, strOk_nm, strOk_fr, v_lam, v_app, v_fr, fr_lam, fr_app, v_take, v_drop, fr_take, List.getElem?_append, fieldText, relab, compOk, Vars.comp])

theorem sign_zero (i : Nat) : ∃ d, signAt (strOfInt (i : Int)) 0 = some (.str d) ∧ PyData.strOk d = true ∧ ((d == Str.ofString "0") = true → strOfInt (i : Int) = Str.ofString "0") := by
  cases h : (strOfInt (i : Int)).cps.toList with
  | nil => exact absurd h (digits_ne i)
  | cons c r =>
    have hc := digits_all i c (by rw [h]; exact List.mem_cons_self ..)
    refine ⟨⟨#[c]⟩, by unfold signAt pickAt; rw [h]; rfl, by unfold PyData.strOk; simp [evSs, evS, evE, evEs, evT, evA, evB, evC, evO, evI, evF, ofString_inj, ofString_beq, strOk_ofString, strOk_append, M.then, bind_at, pure_at, fail_at, lift_some_at, lift_none_at, ite_at, isGlob, varOf, Vars.of, Vars.setAll, Vars.set, constOf, item, pickAt, cmpop, eqTop, PV.lay, PV.lays, PV.depth, PV.depths, binop, List.lookup_cons, plainArgs, const1, exn1, fuel1, isDef1, places1, consts1, exns1, bnames, callBuiltin, lenOf, small, canStore, pyEq, PV.toD, PV.toDs, PyData.eqv, PyData.eqvAll, getList, newCell, setCell, slice, bound, cut, textOk, empty_append, andor, oror, andand, orand, strOk_num, strOk_v, strOk_n, strOk_nm, strOk_fr, v_lam, v_app, v_fr, fr_lam, fr_app, v_take, v_drop, fr_take, List.getElem?_append, fieldText, relab, compOk, Vars.comp]; omega, fun e => ?_⟩
    have e := congrArg (fun s : Str => s.cps.toList) (beq_iff_eq.mp e)
    simp only [signs_txt] at e
    have e48 : c = 48 := by simpa [evSs, evS, evE, evEs, evT, evA, evB, evC, evO, evI, evF, ofString_inj, ofString_beq, strOk_ofString, strOk_append, M.then, bind_at, pure_at, fail_at, lift_some_at, lift_none_at, ite_at, isGlob, varOf, Vars.of, Vars.setAll, Vars.set, constOf, item, pickAt, cmpop, eqTop, PV.lay, PV.lays, PV.depth, PV.depths, binop, List.lookup_cons, plainArgs, const1, exn1, fuel1, isDef1, places1, consts1, exns1, bnames, callBuiltin, lenOf, small, canStore, pyEq, PV.toD, PV.toDs, PyData.eqv, PyData.eqvAll, getList, newCell, setCell, slice, bound, cut, textOk, empty_append, andor, oror, andand, orand, strOk_num, strOk_v, strOk_n, strOk_nm, strOk_fr, v_lam, v_app, v_fr, fr_lam, fr_app, v_take, v_drop, fr_take, List.getElem?_append, fieldText, relab, compOk, Vars.comp] using e
    subst e48
    have hr := no_zero i r h
    subst hr
    refine str_ext ?_
    rw [h, signs_txt]; rfl

theorem number_spec (i : Nat) (h : i < 10 ^ 9) : Calls "number_behind" [.str (vtext i), .str "var"] 2 (.int i) := by
  refine calls_of rfl fun n hn σ => ?_
  have hl := num_len i h
  have hr := is_row_spec i h n (by omega)
  have e3 : (Str.ofString "var").length = 3 := by rw [show (Str.ofString "var").length = (Str.ofString "var").cps.toList.length from Array.length_toList.symm, codes_var]; rfl
  have el : (vtext i).length = 3 + (strOfInt (i : Int)).length := by
    rw [show (vtext i).length = (vtext i).cps.toList.length from Array.length_toList.symm, codes_v, List.length_append, Array.length_toList]; rfl
  have e4 : 3 + (strOfInt (i : Int)).length ≤ 100000 := by omega
  obtain ⟨d, hd, hd1, hd2⟩ := sign_zero i
  have hb := int_back i h
  unfold callOf
  rw [show defAt PySem.Challenge.pw_pq0040_01 12 = Def.mk _ _ _ from rfl]
  cases hq : (d == Str.ofString "0") with
  | false => simp [evSs, evS, evE, evEs, evT, evA, evB, evC, evO, evI, evF, ofString_inj, ofString_beq, strOk_ofString, strOk_append, M.then, bind_at, pure_at, fail_at, lift_some_at, lift_none_at, ite_at, isGlob, varOf, Vars.of, Vars.setAll, Vars.set, constOf, item, pickAt, cmpop, eqTop, PV.lay, PV.lays, PV.depth, PV.depths, binop, List.lookup_cons, plainArgs, const1, exn1, fuel1, isDef1, places1, consts1, exns1, bnames, callBuiltin, lenOf, small, canStore, pyEq, PV.toD, PV.toDs, PyData.eqv, PyData.eqvAll, getList, newCell, setCell, slice, bound, cut, textOk, empty_append, andor, oror, andand, orand, strOk_num, strOk_v, strOk_n, strOk_nm, strOk_fr, v_lam, v_app, v_fr, fr_lam, fr_app, v_take, v_drop, fr_take, List.getElem?_append, fieldText, relab, compOk, Vars.comp, e3, el, hr.at, e4, hd, hd1, hq, hb]
  | true =>
    have hz := hd2 hq
    have hz2 : (strOfInt (i : Int) == Str.ofString "0") = true := beq_iff_eq.mpr hz
    simp [evSs, evS, evE, evEs, evT, evA, evB, evC, evO, evI, evF, ofString_inj, ofString_beq, strOk_ofString, strOk_append, M.then, bind_at, pure_at, fail_at, lift_some_at, lift_none_at, ite_at, isGlob, varOf, Vars.of, Vars.setAll, Vars.set, constOf, item, pickAt, cmpop, eqTop, PV.lay, PV.lays, PV.depth, PV.depths, binop, List.lookup_cons, plainArgs, const1, exn1, fuel1, isDef1, places1, consts1, exns1, bnames, callBuiltin, lenOf, small, canStore, pyEq, PV.toD, PV.toDs, PyData.eqv, PyData.eqvAll, getList, newCell, setCell, slice, bound, cut, textOk, empty_append, andor, oror, andand, orand, strOk_num, strOk_v, strOk_n, strOk_nm, strOk_fr, v_lam, v_app, v_fr, fr_lam, fr_app, v_take, v_drop, fr_take, List.getElem?_append, fieldText, relab, compOk, Vars.comp, e3, el, hr.at, e4, hd, hd1, hq, hb]
    rw [if_pos hz, hz2]
    simp [evSs, evS, evE, evEs, evT, evA, evB, evC, evO, evI, evF, ofString_inj, ofString_beq, strOk_ofString, strOk_append, M.then, bind_at, pure_at, fail_at, lift_some_at, lift_none_at, ite_at, isGlob, varOf, Vars.of, Vars.setAll, Vars.set, constOf, item, pickAt, cmpop, eqTop, PV.lay, PV.lays, PV.depth, PV.depths, binop, List.lookup_cons, plainArgs, const1, exn1, fuel1, isDef1, places1, consts1, exns1, bnames, callBuiltin, lenOf, small, canStore, pyEq, PV.toD, PV.toDs, PyData.eqv, PyData.eqvAll, getList, newCell, setCell, slice, bound, cut, textOk, empty_append, andor, oror, andand, orand, strOk_num, strOk_v, strOk_n, strOk_nm, strOk_fr, v_lam, v_app, v_fr, fr_lam, fr_app, v_take, v_drop, fr_take, List.getElem?_append, fieldText, relab, compOk, Vars.comp, hb]

theorem strOk_take (x : Str) (n : Nat) (h : PyData.strOk x = true) : PyData.strOk ⟨(x.cps.toList.take n).toArray⟩ = true := by
  unfold PyData.strOk at h ⊢
  rw [← Array.all_toList, List.all_eq_true] at h ⊢
  exact fun c hc => h c (List.mem_of_mem_take hc)
theorem number_free (k : Bool) : Calls "number_behind" [.str (frText k), .str "var"] 2 (.int (-1)) := by
  refine calls_of rfl fun n hn σ => ?_
  have e3 : (Str.ofString "var").length = 3 := by rw [show (Str.ofString "var").length = (Str.ofString "var").cps.toList.length from Array.length_toList.symm, codes_var]; rfl
  have el : (frText k).length ≤ 100000 := by
    rw [show (frText k).length = (frText k).cps.toList.length from Array.length_toList.symm]
    cases k <;> (simp only [frText, Bool.false_eq_true, ↓reduceIte, signs_txt]; decide)
  unfold callOf
  rw [show defAt PySem.Challenge.pw_pq0040_01 12 = Def.mk _ _ _ from rfl]
  simp [evSs, evS, evE, evEs, evT, evA, evB, evC, evO, evI, evF, ofString_inj, ofString_beq, strOk_ofString, strOk_append, M.then, bind_at, pure_at, fail_at, lift_some_at, lift_none_at, ite_at, isGlob, varOf, Vars.of, Vars.setAll, Vars.set, constOf, item, pickAt, cmpop, eqTop, PV.lay, PV.lays, PV.depth, PV.depths, binop, List.lookup_cons, plainArgs, const1, exn1, fuel1, isDef1, places1, consts1, exns1, bnames, callBuiltin, lenOf, small, canStore, pyEq, PV.toD, PV.toDs, PyData.eqv, PyData.eqvAll, getList, newCell, setCell, slice, bound, cut, textOk, empty_append, andor, oror, andand, orand, strOk_num, strOk_v, strOk_n, strOk_nm, strOk_fr, v_lam, v_app, v_fr, fr_lam, fr_app, v_take, v_drop, fr_take, List.getElem?_append, fieldText, relab, compOk, Vars.comp, e3, el, strOk_take]

def B.index : B → Int
  | .var i => i
  | _ => -1
def B.vars : B → Nat → Prop
  | .var i, b => i < b
  | .fr _, _ => True
  | .lam a, b => a.vars b
  | .app a c, b => a.vars b ∧ c.vars b
theorem index_spec (t : B) (h : t.vars (10 ^ 9)) : Calls "index_of" [t.pv] 3 (.int t.index) := by
  refine calls_of rfl fun n hn σ => ?_
  unfold callOf
  rw [show defAt PySem.Challenge.pw_pq0040_01 13 = Def.mk _ _ _ from rfl]
  cases t with
  | var i => simp [evSs, evS, evE, evEs, evT, evA, evB, evC, evO, evI, evF, ofString_inj, ofString_beq, strOk_ofString, strOk_append, M.then, bind_at, pure_at, fail_at, lift_some_at, lift_none_at, ite_at, isGlob, varOf, Vars.of, Vars.setAll, Vars.set, constOf, item, pickAt, cmpop, eqTop, PV.lay, PV.lays, PV.depth, PV.depths, binop, List.lookup_cons, plainArgs, const1, exn1, fuel1, isDef1, places1, consts1, exns1, bnames, callBuiltin, lenOf, small, canStore, pyEq, PV.toD, PV.toDs, PyData.eqv, PyData.eqvAll, getList, newCell, setCell, slice, bound, cut, textOk, empty_append, andor, oror, andand, orand, strOk_num, strOk_v, strOk_n, strOk_nm, strOk_fr, v_lam, v_app, v_fr, fr_lam, fr_app, v_take, v_drop, fr_take, List.getElem?_append, fieldText, relab, compOk, Vars.comp, B.pv, B.index, (number_spec i h n (by omega)).at]
  | fr k => simp [evSs, evS, evE, evEs, evT, evA, evB, evC, evO, evI, evF, ofString_inj, ofString_beq, strOk_ofString, strOk_append, M.then, bind_at, pure_at, fail_at, lift_some_at, lift_none_at, ite_at, isGlob, varOf, Vars.of, Vars.setAll, Vars.set, constOf, item, pickAt, cmpop, eqTop, PV.lay, PV.lays, PV.depth, PV.depths, binop, List.lookup_cons, plainArgs, const1, exn1, fuel1, isDef1, places1, consts1, exns1, bnames, callBuiltin, lenOf, small, canStore, pyEq, PV.toD, PV.toDs, PyData.eqv, PyData.eqvAll, getList, newCell, setCell, slice, bound, cut, textOk, empty_append, andor, oror, andand, orand, strOk_num, strOk_v, strOk_n, strOk_nm, strOk_fr, v_lam, v_app, v_fr, fr_lam, fr_app, v_take, v_drop, fr_take, List.getElem?_append, fieldText, relab, compOk, Vars.comp, B.pv, B.index, (number_free k n (by omega)).at]
  | lam b => simp [evSs, evS, evE, evEs, evT, evA, evB, evC, evO, evI, evF, ofString_inj, ofString_beq, strOk_ofString, strOk_append, M.then, bind_at, pure_at, fail_at, lift_some_at, lift_none_at, ite_at, isGlob, varOf, Vars.of, Vars.setAll, Vars.set, constOf, item, pickAt, cmpop, eqTop, PV.lay, PV.lays, PV.depth, PV.depths, binop, List.lookup_cons, plainArgs, const1, exn1, fuel1, isDef1, places1, consts1, exns1, bnames, callBuiltin, lenOf, small, canStore, pyEq, PV.toD, PV.toDs, PyData.eqv, PyData.eqvAll, getList, newCell, setCell, slice, bound, cut, textOk, empty_append, andor, oror, andand, orand, strOk_num, strOk_v, strOk_n, strOk_nm, strOk_fr, v_lam, v_app, v_fr, fr_lam, fr_app, v_take, v_drop, fr_take, List.getElem?_append, fieldText, relab, compOk, Vars.comp, B.pv, B.index]
  | app a b => simp [evSs, evS, evE, evEs, evT, evA, evB, evC, evO, evI, evF, ofString_inj, ofString_beq, strOk_ofString, strOk_append, M.then, bind_at, pure_at, fail_at, lift_some_at, lift_none_at, ite_at, isGlob, varOf, Vars.of, Vars.setAll, Vars.set, constOf, item, pickAt, cmpop, eqTop, PV.lay, PV.lays, PV.depth, PV.depths, binop, List.lookup_cons, plainArgs, const1, exn1, fuel1, isDef1, places1, consts1, exns1, bnames, callBuiltin, lenOf, small, canStore, pyEq, PV.toD, PV.toDs, PyData.eqv, PyData.eqvAll, getList, newCell, setCell, slice, bound, cut, textOk, empty_append, andor, oror, andand, orand, strOk_num, strOk_v, strOk_n, strOk_nm, strOk_fr, v_lam, v_app, v_fr, fr_lam, fr_app, v_take, v_drop, fr_take, List.getElem?_append, fieldText, relab, compOk, Vars.comp, B.pv, B.index]
end Mine

-- P5
namespace Mine
open PySem

inductive All2 (r : PV → PV → Prop) : List PV → List PV → Prop where
  | nil : All2 r [] []
  | cons {d v : PV} {ds vs : List PV} : r d v → All2 r ds vs → All2 r (d :: ds) (v :: vs)
theorem All2.imp {r q : PV → PV → Prop} (f : ∀ d v, r d v → q d v) {ds vs : List PV} (h : All2 r ds vs) : All2 q ds vs := by
  induction h with
  | nil => exact .nil
  | cons h1 _ ih => exact .cons (f _ _ h1) ih
/-- turn by turn, all taken -/
theorem gives_each2 {f : PV → M (Option PV)} {ds vs : List PV} (h : All2 (fun d v => Gives (f d) (some v)) ds vs) : Gives (each f ds) vs := by
  induction h with
  | nil => exact gives_pure _
  | cons h1 _ ih => exact gives_bind h1 (gives_bind ih (gives_pure _))
theorem compM_zip {src : M PV} {test : PV → M Bool} {elt : PV → M PV} {s : PV} {ds : List PV} (es : List PV) (hs : Gives src s) (hi : Gives (items s) ds) (hst : Gives (still s ds) ⟨⟩)
    (h : All2 (fun d e => Gives (test d) true ∧ Gives (elt d) e) ds es) : Gives (compM src test elt) es := by
  unfold compM
  refine gives_bind hs (gives_bind hi (gives_quiet (gives_each2 ?_)))
  refine h.imp fun d e hd => gives_bind hd.1 ?_
  exact gives_bind (gives_bind hd.2 (gives_pure _)) (gives_bind hst (gives_pure _))

def B.sh : B → Nat → B
  | .var i, a => if a ≤ i then .var (i + 1) else .var i
  | .fr k, _ => .fr k
  | .lam b, a => .lam (b.sh (a + 1))
  | .app b c, a => .app (b.sh a) (c.sh a)
def B.put : B → Nat → B → B
  | .var i, k, u => if i = k then u else if k < i then .var (i - 1) else .var i
  | .fr c, _, _ => .fr c
  | .lam b, k, u => .lam (b.put (k + 1) (u.sh 0))
  | .app a b, k, u => .app (a.put k u) (b.put k u)
theorem B.vars_mono {t : B} {a b : Nat} (h : t.vars a) (hab : a ≤ b) : t.vars b := by
  induction t with
  | var i => exact Nat.lt_of_lt_of_le h hab
  | fr k => trivial
  | lam b ih => exact ih h
  | app x y ih1 ih2 => exact ⟨ih1 h.1, ih2 h.2⟩
theorem B.vars_sh {t : B} {b : Nat} (h : t.vars b) : ∀ a, (t.sh a).vars (b + 1) := by
  induction t with
  | var i => intro a; have : i < b := h; unfold B.sh; split <;> (show _ < _; omega)
  | fr k => intro a; trivial
  | lam b ih => exact fun a => ih h (a + 1)
  | app x y ih1 ih2 => exact fun a => ⟨ih1 h.1 a, ih2 h.2 a⟩
theorem B.size_sh (t : B) : ∀ a, (t.sh a).size = t.size := by
  induction t with
  | var i => intro a; unfold B.sh; split <;> rfl
  | fr k => intro a; rfl
  | lam b ih => intro a; show (b.sh _).size + 1 = _; rw [ih]; rfl
  | app x y ih1 ih2 => intro a; show (x.sh _).size + (y.sh _).size + 1 = _; rw [ih1, ih2]; rfl

theorem below_lam (b : B) : Calls "below" [.tup [.str (Str.ofString "lam"), b.pv]] 1 (.int 1) := below_spec (.lam b)
theorem below_app (a b : B) : Calls "below" [.tup [.str (Str.ofString "app"), a.pv, b.pv]] 1 (.int 0) := below_spec (.app a b)
theorem below_fr (k : Bool) : Calls "below" [.tup [.str (frText k)]] 1 (.int 0) := below_spec (.fr k)
theorem below_var (i : Nat) : Calls "below" [.tup [.str (vtext i)]] 1 (.int 0) := below_spec (.var i)

theorem moved_spec (t : B) (h : t.vars (10 ^ 8)) : ∀ a : Nat, Calls "moved_within" [t.pv, .int 1, .int 0, .int a] (t.size + 4) (t.sh a).pv := by
  induction t with
  | var i =>
    intro a
    refine calls_of rfl fun n hn σ => ?_
    have hi := index_spec (.var i) (B.vars_mono h (by decide)) n (by omega)
    have h' : i < 10 ^ 8 := h
    have hv := variable_spec (i + 1) (by omega) n (by omega)
    have hv : Gives ((T1.at n).call (Str.ofString "variable") [.int ((i : Int) + 1)]) (B.var (i + 1)).pv := hv
    unfold callOf
    rw [show defAt PySem.Challenge.pw_pq0040_01 16 = Def.mk _ _ _ from rfl]
    by_cases ha : a ≤ i
    · have e1 : ((a : Int) ≤ i) := by omega
      have e2 : ¬ ((i : Int) + 1 < a) := by omega
      simp [evSs, evS, evE, evEs, evT, evA, evB, evC, evO, evI, evF, ofString_inj, ofString_beq, strOk_ofString, strOk_append, M.then, bind_at, pure_at, fail_at, lift_some_at, lift_none_at, ite_at, isGlob, varOf, Vars.of, Vars.setAll, Vars.set, constOf, item, pickAt, cmpop, eqTop, PV.lay, PV.lays, PV.depth, PV.depths, binop, List.lookup_cons, plainArgs, const1, exn1, fuel1, isDef1, places1, consts1, exns1, bnames, callBuiltin, lenOf, small, canStore, pyEq, PV.toD, PV.toDs, PyData.eqv, PyData.eqvAll, getList, newCell, setCell, slice, bound, cut, textOk, empty_append, andor, oror, andand, orand, strOk_num, strOk_v, strOk_n, strOk_nm, strOk_fr, v_lam, v_app, v_fr, fr_lam, fr_app, v_take, v_drop, fr_take, List.getElem?_append, fieldText, relab, compOk, Vars.comp, hi.at, hv.at, B.index, B.sh, ha, e1, e2]
    · have e1 : ¬ ((a : Int) ≤ i) := by omega
      simp [evSs, evS, evE, evEs, evT, evA, evB, evC, evO, evI, evF, ofString_inj, ofString_beq, strOk_ofString, strOk_append, M.then, bind_at, pure_at, fail_at, lift_some_at, lift_none_at, ite_at, isGlob, varOf, Vars.of, Vars.setAll, Vars.set, constOf, item, pickAt, cmpop, eqTop, PV.lay, PV.lays, PV.depth, PV.depths, binop, List.lookup_cons, plainArgs, const1, exn1, fuel1, isDef1, places1, consts1, exns1, bnames, callBuiltin, lenOf, small, canStore, pyEq, PV.toD, PV.toDs, PyData.eqv, PyData.eqvAll, getList, newCell, setCell, slice, bound, cut, textOk, empty_append, andor, oror, andand, orand, strOk_num, strOk_v, strOk_n, strOk_nm, strOk_fr, v_lam, v_app, v_fr, fr_lam, fr_app, v_take, v_drop, fr_take, List.getElem?_append, fieldText, relab, compOk, Vars.comp, hi.at, B.index, B.sh, ha, e1]
      simp [evSs, evS, evE, evEs, evT, evA, evB, evC, evO, evI, evF, ofString_inj, ofString_beq, strOk_ofString, strOk_append, M.then, bind_at, pure_at, fail_at, lift_some_at, lift_none_at, ite_at, isGlob, varOf, Vars.of, Vars.setAll, Vars.set, constOf, item, pickAt, cmpop, eqTop, PV.lay, PV.lays, PV.depth, PV.depths, binop, List.lookup_cons, plainArgs, const1, exn1, fuel1, isDef1, places1, consts1, exns1, bnames, callBuiltin, lenOf, small, canStore, pyEq, PV.toD, PV.toDs, PyData.eqv, PyData.eqvAll, getList, newCell, setCell, slice, bound, cut, textOk, empty_append, andor, oror, andand, orand, strOk_num, strOk_v, strOk_n, strOk_nm, strOk_fr, v_lam, v_app, v_fr, fr_lam, fr_app, v_take, v_drop, fr_take, List.getElem?_append, fieldText, relab, compOk, Vars.comp, B.pv]
      rw [(compM_zip [] ?_ (items_tup (xs := []) (by decide)) (still_tup _ _) .nil).at]
      · generalize gar _ _ _ = g1
        simp [evSs, evS, evE, evEs, evT, evA, evB, evC, evO, evI, evF, ofString_inj, ofString_beq, strOk_ofString, strOk_append, M.then, bind_at, pure_at, fail_at, lift_some_at, lift_none_at, ite_at, isGlob, varOf, Vars.of, Vars.setAll, Vars.set, constOf, item, pickAt, cmpop, eqTop, PV.lay, PV.lays, PV.depth, PV.depths, binop, List.lookup_cons, plainArgs, const1, exn1, fuel1, isDef1, places1, consts1, exns1, bnames, callBuiltin, lenOf, small, canStore, pyEq, PV.toD, PV.toDs, PyData.eqv, PyData.eqvAll, getList, newCell, setCell, slice, bound, cut, textOk, empty_append, andor, oror, andand, orand, strOk_num, strOk_v, strOk_n, strOk_nm, strOk_fr, v_lam, v_app, v_fr, fr_lam, fr_app, v_take, v_drop, fr_take, List.getElem?_append, fieldText, relab, compOk, Vars.comp]
      · exact gives_pure _
  | fr k =>
    intro a
    refine calls_of rfl fun n hn σ => ?_
    have hi := index_spec (.fr k) h n (by omega)
    unfold callOf
    rw [show defAt PySem.Challenge.pw_pq0040_01 16 = Def.mk _ _ _ from rfl]
    have e1 : ¬ ((a : Int) ≤ -1) := by omega
    simp [evSs, evS, evE, evEs, evT, evA, evB, evC, evO, evI, evF, ofString_inj, ofString_beq, strOk_ofString, strOk_append, M.then, bind_at, pure_at, fail_at, lift_some_at, lift_none_at, ite_at, isGlob, varOf, Vars.of, Vars.setAll, Vars.set, constOf, item, pickAt, cmpop, eqTop, PV.lay, PV.lays, PV.depth, PV.depths, binop, List.lookup_cons, plainArgs, const1, exn1, fuel1, isDef1, places1, consts1, exns1, bnames, callBuiltin, lenOf, small, canStore, pyEq, PV.toD, PV.toDs, PyData.eqv, PyData.eqvAll, getList, newCell, setCell, slice, bound, cut, textOk, empty_append, andor, oror, andand, orand, strOk_num, strOk_v, strOk_n, strOk_nm, strOk_fr, v_lam, v_app, v_fr, fr_lam, fr_app, v_take, v_drop, fr_take, List.getElem?_append, fieldText, relab, compOk, Vars.comp, hi.at, B.index, B.sh, e1]
    simp [evSs, evS, evE, evEs, evT, evA, evB, evC, evO, evI, evF, ofString_inj, ofString_beq, strOk_ofString, strOk_append, M.then, bind_at, pure_at, fail_at, lift_some_at, lift_none_at, ite_at, isGlob, varOf, Vars.of, Vars.setAll, Vars.set, constOf, item, pickAt, cmpop, eqTop, PV.lay, PV.lays, PV.depth, PV.depths, binop, List.lookup_cons, plainArgs, const1, exn1, fuel1, isDef1, places1, consts1, exns1, bnames, callBuiltin, lenOf, small, canStore, pyEq, PV.toD, PV.toDs, PyData.eqv, PyData.eqvAll, getList, newCell, setCell, slice, bound, cut, textOk, empty_append, andor, oror, andand, orand, strOk_num, strOk_v, strOk_n, strOk_nm, strOk_fr, v_lam, v_app, v_fr, fr_lam, fr_app, v_take, v_drop, fr_take, List.getElem?_append, fieldText, relab, compOk, Vars.comp, B.pv]
    rw [(compM_zip [] ?_ (items_tup (xs := []) (by decide)) (still_tup _ _) .nil).at]
    · generalize gar _ _ _ = g1
      simp [evSs, evS, evE, evEs, evT, evA, evB, evC, evO, evI, evF, ofString_inj, ofString_beq, strOk_ofString, strOk_append, M.then, bind_at, pure_at, fail_at, lift_some_at, lift_none_at, ite_at, isGlob, varOf, Vars.of, Vars.setAll, Vars.set, constOf, item, pickAt, cmpop, eqTop, PV.lay, PV.lays, PV.depth, PV.depths, binop, List.lookup_cons, plainArgs, const1, exn1, fuel1, isDef1, places1, consts1, exns1, bnames, callBuiltin, lenOf, small, canStore, pyEq, PV.toD, PV.toDs, PyData.eqv, PyData.eqvAll, getList, newCell, setCell, slice, bound, cut, textOk, empty_append, andor, oror, andand, orand, strOk_num, strOk_v, strOk_n, strOk_nm, strOk_fr, v_lam, v_app, v_fr, fr_lam, fr_app, v_take, v_drop, fr_take, List.getElem?_append, fieldText, relab, compOk, Vars.comp]
    · exact gives_pure _
  | lam b ih =>
    intro a
    refine calls_of rfl fun n hn σ => ?_
    have hi := index_spec (.lam b) (B.vars_mono h (by decide)) n (by omega)
    have hz : (B.lam b).size = b.size + 1 := rfl
    have h1 : Gives ((T1.at n).call (Str.ofString "moved_within") [b.pv, .int 1, .int 0, .int ((a : Int) + 1)]) (b.sh (a + 1)).pv := ih h (a + 1) n (by omega)
    have hb := below_lam b n (by omega)
    unfold callOf
    rw [show defAt PySem.Challenge.pw_pq0040_01 16 = Def.mk _ _ _ from rfl]
    have e1 : ¬ ((a : Int) ≤ -1) := by omega
    simp [evSs, evS, evE, evEs, evT, evA, evB, evC, evO, evI, evF, ofString_inj, ofString_beq, strOk_ofString, strOk_append, M.then, bind_at, pure_at, fail_at, lift_some_at, lift_none_at, ite_at, isGlob, varOf, Vars.of, Vars.setAll, Vars.set, constOf, item, pickAt, cmpop, eqTop, PV.lay, PV.lays, PV.depth, PV.depths, binop, List.lookup_cons, plainArgs, const1, exn1, fuel1, isDef1, places1, consts1, exns1, bnames, callBuiltin, lenOf, small, canStore, pyEq, PV.toD, PV.toDs, PyData.eqv, PyData.eqvAll, getList, newCell, setCell, slice, bound, cut, textOk, empty_append, andor, oror, andand, orand, strOk_num, strOk_v, strOk_n, strOk_nm, strOk_fr, v_lam, v_app, v_fr, fr_lam, fr_app, v_take, v_drop, fr_take, List.getElem?_append, fieldText, relab, compOk, Vars.comp, hi.at, B.index, B.sh, e1]
    simp [evSs, evS, evE, evEs, evT, evA, evB, evC, evO, evI, evF, ofString_inj, ofString_beq, strOk_ofString, strOk_append, M.then, bind_at, pure_at, fail_at, lift_some_at, lift_none_at, ite_at, isGlob, varOf, Vars.of, Vars.setAll, Vars.set, constOf, item, pickAt, cmpop, eqTop, PV.lay, PV.lays, PV.depth, PV.depths, binop, List.lookup_cons, plainArgs, const1, exn1, fuel1, isDef1, places1, consts1, exns1, bnames, callBuiltin, lenOf, small, canStore, pyEq, PV.toD, PV.toDs, PyData.eqv, PyData.eqvAll, getList, newCell, setCell, slice, bound, cut, textOk, empty_append, andor, oror, andand, orand, strOk_num, strOk_v, strOk_n, strOk_nm, strOk_fr, v_lam, v_app, v_fr, fr_lam, fr_app, v_take, v_drop, fr_take, List.getElem?_append, fieldText, relab, compOk, Vars.comp, B.pv]
    rw [(compM_zip [(b.sh (a + 1)).pv] ?_ (items_tup (xs := [b.pv]) (by simp [evSs, evS, evE, evEs, evT, evA, evB, evC, evO, evI, evF, ofString_inj, ofString_beq, strOk_ofString, strOk_append, M.then, bind_at, pure_at, fail_at, lift_some_at, lift_none_at, ite_at, isGlob, varOf, Vars.of, Vars.setAll, Vars.set, constOf, item, pickAt, cmpop, eqTop, PV.lay, PV.lays, PV.depth, PV.depths, binop, List.lookup_cons, plainArgs, const1, exn1, fuel1, isDef1, places1, consts1, exns1, bnames, callBuiltin, lenOf, small, canStore, pyEq, PV.toD, PV.toDs, PyData.eqv, PyData.eqvAll, getList, newCell, setCell, slice, bound, cut, textOk, empty_append, andor, oror, andand, orand, strOk_num, strOk_v, strOk_n, strOk_nm, strOk_fr, v_lam, v_app, v_fr, fr_lam, fr_app, v_take, v_drop, fr_take, List.getElem?_append, fieldText, relab, compOk, Vars.comp])) (still_tup _ _) (.cons ⟨?_, ?_⟩ .nil)).at]
    · generalize gar _ _ _ = g1
      simp [evSs, evS, evE, evEs, evT, evA, evB, evC, evO, evI, evF, ofString_inj, ofString_beq, strOk_ofString, strOk_append, M.then, bind_at, pure_at, fail_at, lift_some_at, lift_none_at, ite_at, isGlob, varOf, Vars.of, Vars.setAll, Vars.set, constOf, item, pickAt, cmpop, eqTop, PV.lay, PV.lays, PV.depth, PV.depths, binop, List.lookup_cons, plainArgs, const1, exn1, fuel1, isDef1, places1, consts1, exns1, bnames, callBuiltin, lenOf, small, canStore, pyEq, PV.toD, PV.toDs, PyData.eqv, PyData.eqvAll, getList, newCell, setCell, slice, bound, cut, textOk, empty_append, andor, oror, andand, orand, strOk_num, strOk_v, strOk_n, strOk_nm, strOk_fr, v_lam, v_app, v_fr, fr_lam, fr_app, v_take, v_drop, fr_take, List.getElem?_append, fieldText, relab, compOk, Vars.comp]
    · exact gives_pure _
    · exact gives_pure _
    · intro σ; simp [evSs, evS, evE, evEs, evT, evA, evB, evC, evO, evI, evF, ofString_inj, ofString_beq, strOk_ofString, strOk_append, M.then, bind_at, pure_at, fail_at, lift_some_at, lift_none_at, ite_at, isGlob, varOf, Vars.of, Vars.setAll, Vars.set, constOf, item, pickAt, cmpop, eqTop, PV.lay, PV.lays, PV.depth, PV.depths, binop, List.lookup_cons, plainArgs, const1, exn1, fuel1, isDef1, places1, consts1, exns1, bnames, callBuiltin, lenOf, small, canStore, pyEq, PV.toD, PV.toDs, PyData.eqv, PyData.eqvAll, getList, newCell, setCell, slice, bound, cut, textOk, empty_append, andor, oror, andand, orand, strOk_num, strOk_v, strOk_n, strOk_nm, strOk_fr, v_lam, v_app, v_fr, fr_lam, fr_app, v_take, v_drop, fr_take, List.getElem?_append, fieldText, relab, compOk, Vars.comp, hb.at, h1.at]
  | app b c ih1 ih2 =>
    intro a
    refine calls_of rfl fun n hn σ => ?_
    have hi := index_spec (.app b c) (B.vars_mono h (by decide)) n (by omega)
    have hz : (B.app b c).size = b.size + c.size + 1 := rfl
    have h1 := ih1 h.1 a n (by omega)
    have h2 := ih2 h.2 a n (by omega)
    have hb := below_app b c n (by omega)
    unfold callOf
    rw [show defAt PySem.Challenge.pw_pq0040_01 16 = Def.mk _ _ _ from rfl]
    have e1 : ¬ ((a : Int) ≤ -1) := by omega
    simp [evSs, evS, evE, evEs, evT, evA, evB, evC, evO, evI, evF, ofString_inj, ofString_beq, strOk_ofString, strOk_append, M.then, bind_at, pure_at, fail_at, lift_some_at, lift_none_at, ite_at, isGlob, varOf, Vars.of, Vars.setAll, Vars.set, constOf, item, pickAt, cmpop, eqTop, PV.lay, PV.lays, PV.depth, PV.depths, binop, List.lookup_cons, plainArgs, const1, exn1, fuel1, isDef1, places1, consts1, exns1, bnames, callBuiltin, lenOf, small, canStore, pyEq, PV.toD, PV.toDs, PyData.eqv, PyData.eqvAll, getList, newCell, setCell, slice, bound, cut, textOk, empty_append, andor, oror, andand, orand, strOk_num, strOk_v, strOk_n, strOk_nm, strOk_fr, v_lam, v_app, v_fr, fr_lam, fr_app, v_take, v_drop, fr_take, List.getElem?_append, fieldText, relab, compOk, Vars.comp, hi.at, B.index, B.sh, e1]
    simp [evSs, evS, evE, evEs, evT, evA, evB, evC, evO, evI, evF, ofString_inj, ofString_beq, strOk_ofString, strOk_append, M.then, bind_at, pure_at, fail_at, lift_some_at, lift_none_at, ite_at, isGlob, varOf, Vars.of, Vars.setAll, Vars.set, constOf, item, pickAt, cmpop, eqTop, PV.lay, PV.lays, PV.depth, PV.depths, binop, List.lookup_cons, plainArgs, const1, exn1, fuel1, isDef1, places1, consts1, exns1, bnames, callBuiltin, lenOf, small, canStore, pyEq, PV.toD, PV.toDs, PyData.eqv, PyData.eqvAll, getList, newCell, setCell, slice, bound, cut, textOk, empty_append, andor, oror, andand, orand, strOk_num, strOk_v, strOk_n, strOk_nm, strOk_fr, v_lam, v_app, v_fr, fr_lam, fr_app, v_take, v_drop, fr_take, List.getElem?_append, fieldText, relab, compOk, Vars.comp, B.pv]
    rw [(compM_zip [(b.sh a).pv, (c.sh a).pv] ?_ (items_tup (xs := [b.pv, c.pv]) (by simp [evSs, evS, evE, evEs, evT, evA, evB, evC, evO, evI, evF, ofString_inj, ofString_beq, strOk_ofString, strOk_append, M.then, bind_at, pure_at, fail_at, lift_some_at, lift_none_at, ite_at, isGlob, varOf, Vars.of, Vars.setAll, Vars.set, constOf, item, pickAt, cmpop, eqTop, PV.lay, PV.lays, PV.depth, PV.depths, binop, List.lookup_cons, plainArgs, const1, exn1, fuel1, isDef1, places1, consts1, exns1, bnames, callBuiltin, lenOf, small, canStore, pyEq, PV.toD, PV.toDs, PyData.eqv, PyData.eqvAll, getList, newCell, setCell, slice, bound, cut, textOk, empty_append, andor, oror, andand, orand, strOk_num, strOk_v, strOk_n, strOk_nm, strOk_fr, v_lam, v_app, v_fr, fr_lam, fr_app, v_take, v_drop, fr_take, List.getElem?_append, fieldText, relab, compOk, Vars.comp])) (still_tup _ _) (.cons ⟨?_, ?_⟩ (.cons ⟨?_, ?_⟩ .nil))).at]
    · generalize gar _ _ _ = g1
      simp [evSs, evS, evE, evEs, evT, evA, evB, evC, evO, evI, evF, ofString_inj, ofString_beq, strOk_ofString, strOk_append, M.then, bind_at, pure_at, fail_at, lift_some_at, lift_none_at, ite_at, isGlob, varOf, Vars.of, Vars.setAll, Vars.set, constOf, item, pickAt, cmpop, eqTop, PV.lay, PV.lays, PV.depth, PV.depths, binop, List.lookup_cons, plainArgs, const1, exn1, fuel1, isDef1, places1, consts1, exns1, bnames, callBuiltin, lenOf, small, canStore, pyEq, PV.toD, PV.toDs, PyData.eqv, PyData.eqvAll, getList, newCell, setCell, slice, bound, cut, textOk, empty_append, andor, oror, andand, orand, strOk_num, strOk_v, strOk_n, strOk_nm, strOk_fr, v_lam, v_app, v_fr, fr_lam, fr_app, v_take, v_drop, fr_take, List.getElem?_append, fieldText, relab, compOk, Vars.comp]
    · exact gives_pure _
    · exact gives_pure _
    · intro σ; simp [evSs, evS, evE, evEs, evT, evA, evB, evC, evO, evI, evF, ofString_inj, ofString_beq, strOk_ofString, strOk_append, M.then, bind_at, pure_at, fail_at, lift_some_at, lift_none_at, ite_at, isGlob, varOf, Vars.of, Vars.setAll, Vars.set, constOf, item, pickAt, cmpop, eqTop, PV.lay, PV.lays, PV.depth, PV.depths, binop, List.lookup_cons, plainArgs, const1, exn1, fuel1, isDef1, places1, consts1, exns1, bnames, callBuiltin, lenOf, small, canStore, pyEq, PV.toD, PV.toDs, PyData.eqv, PyData.eqvAll, getList, newCell, setCell, slice, bound, cut, textOk, empty_append, andor, oror, andand, orand, strOk_num, strOk_v, strOk_n, strOk_nm, strOk_fr, v_lam, v_app, v_fr, fr_lam, fr_app, v_take, v_drop, fr_take, List.getElem?_append, fieldText, relab, compOk, Vars.comp, hb.at, h1.at]
    · exact gives_pure _
    · intro σ; simp [evSs, evS, evE, evEs, evT, evA, evB, evC, evO, evI, evF, ofString_inj, ofString_beq, strOk_ofString, strOk_append, M.then, bind_at, pure_at, fail_at, lift_some_at, lift_none_at, ite_at, isGlob, varOf, Vars.of, Vars.setAll, Vars.set, constOf, item, pickAt, cmpop, eqTop, PV.lay, PV.lays, PV.depth, PV.depths, binop, List.lookup_cons, plainArgs, const1, exn1, fuel1, isDef1, places1, consts1, exns1, bnames, callBuiltin, lenOf, small, canStore, pyEq, PV.toD, PV.toDs, PyData.eqv, PyData.eqvAll, getList, newCell, setCell, slice, bound, cut, textOk, empty_append, andor, oror, andand, orand, strOk_num, strOk_v, strOk_n, strOk_nm, strOk_fr, v_lam, v_app, v_fr, fr_lam, fr_app, v_take, v_drop, fr_take, List.getElem?_append, fieldText, relab, compOk, Vars.comp, hb.at, h2.at]
theorem shifted_spec (t : B) (h : t.vars (10 ^ 8)) : Calls "shifted" [t.pv, .int 1, .int 0] (t.size + 5) (t.sh 0).pv := by
  refine calls_of rfl fun n hn σ => ?_
  have hm : Gives ((T1.at n).call (Str.ofString "moved_within") [t.pv, .int 1, .int 0, .int 0]) (t.sh 0).pv := moved_spec t h 0 n (by omega)
  unfold callOf
  rw [show defAt PySem.Challenge.pw_pq0040_01 17 = Def.mk _ _ _ from rfl]
  simp [evSs, evS, evE, evEs, evT, evA, evB, evC, evO, evI, evF, ofString_inj, ofString_beq, strOk_ofString, strOk_append, M.then, bind_at, pure_at, fail_at, lift_some_at, lift_none_at, ite_at, isGlob, varOf, Vars.of, Vars.setAll, Vars.set, constOf, item, pickAt, cmpop, eqTop, PV.lay, PV.lays, PV.depth, PV.depths, binop, List.lookup_cons, plainArgs, const1, exn1, fuel1, isDef1, places1, consts1, exns1, bnames, callBuiltin, lenOf, small, canStore, pyEq, PV.toD, PV.toDs, PyData.eqv, PyData.eqvAll, getList, newCell, setCell, slice, bound, cut, textOk, empty_append, andor, oror, andand, orand, strOk_num, strOk_v, strOk_n, strOk_nm, strOk_fr, v_lam, v_app, v_fr, fr_lam, fr_app, v_take, v_drop, fr_take, List.getElem?_append, fieldText, relab, compOk, Vars.comp, hm.at]
end Mine

-- P6
namespace Mine
open PySem

theorem put_spec (t : B) (h : t.vars (10 ^ 8)) : ∀ (k : Nat) (u : B) (b : Nat), u.vars b → b + t.size ≤ 10 ^ 8 → Calls "put_in" [t.pv, .int k, u.pv] (t.size + u.size + 6) (t.put k u).pv := by
  induction t with
  | var i =>
    intro k u b hu hb
    refine calls_of rfl fun n hn σ => ?_
    have hi := index_spec (.var i) (B.vars_mono h (by decide)) n (by omega)
    have h' : i < 10 ^ 8 := h
    have hv := variable_spec (i - 1) (by omega) n (by omega)
    unfold callOf
    rw [show defAt PySem.Challenge.pw_pq0040_01 18 = Def.mk _ _ _ from rfl]
    have e0 : (0 : Int) ≤ i := by omega
    by_cases ha : i = k
    · subst ha
      simp [evSs, evS, evE, evEs, evT, evA, evB, evC, evO, evI, evF, ofString_inj, ofString_beq, strOk_ofString, strOk_append, M.then, bind_at, pure_at, fail_at, lift_some_at, lift_none_at, ite_at, isGlob, varOf, Vars.of, Vars.setAll, Vars.set, constOf, item, pickAt, cmpop, eqTop, PV.lay, PV.lays, PV.depth, PV.depths, binop, List.lookup_cons, plainArgs, const1, exn1, fuel1, isDef1, places1, consts1, exns1, bnames, callBuiltin, lenOf, small, canStore, pyEq, PV.toD, PV.toDs, PyData.eqv, PyData.eqvAll, getList, newCell, setCell, slice, bound, cut, textOk, empty_append, andor, oror, andand, orand, strOk_num, strOk_v, strOk_n, strOk_nm, strOk_fr, v_lam, v_app, v_fr, fr_lam, fr_app, v_take, v_drop, fr_take, List.getElem?_append, fieldText, relab, compOk, Vars.comp, hi.at, B.index, B.put, e0]
    · have e1 : ((i : Int) = k) = False := by simp [evSs, evS, evE, evEs, evT, evA, evB, evC, evO, evI, evF, ofString_inj, ofString_beq, strOk_ofString, strOk_append, M.then, bind_at, pure_at, fail_at, lift_some_at, lift_none_at, ite_at, isGlob, varOf, Vars.of, Vars.setAll, Vars.set, constOf, item, pickAt, cmpop, eqTop, PV.lay, PV.lays, PV.depth, PV.depths, binop, List.lookup_cons, plainArgs, const1, exn1, fuel1, isDef1, places1, consts1, exns1, bnames, callBuiltin, lenOf, small, canStore, pyEq, PV.toD, PV.toDs, PyData.eqv, PyData.eqvAll, getList, newCell, setCell, slice, bound, cut, textOk, empty_append, andor, oror, andand, orand, strOk_num, strOk_v, strOk_n, strOk_nm, strOk_fr, v_lam, v_app, v_fr, fr_lam, fr_app, v_take, v_drop, fr_take, List.getElem?_append, fieldText, relab, compOk, Vars.comp]; omega
      have e1' : ((i : Int) == k) = false := by simp [evSs, evS, evE, evEs, evT, evA, evB, evC, evO, evI, evF, ofString_inj, ofString_beq, strOk_ofString, strOk_append, M.then, bind_at, pure_at, fail_at, lift_some_at, lift_none_at, ite_at, isGlob, varOf, Vars.of, Vars.setAll, Vars.set, constOf, item, pickAt, cmpop, eqTop, PV.lay, PV.lays, PV.depth, PV.depths, binop, List.lookup_cons, plainArgs, const1, exn1, fuel1, isDef1, places1, consts1, exns1, bnames, callBuiltin, lenOf, small, canStore, pyEq, PV.toD, PV.toDs, PyData.eqv, PyData.eqvAll, getList, newCell, setCell, slice, bound, cut, textOk, empty_append, andor, oror, andand, orand, strOk_num, strOk_v, strOk_n, strOk_nm, strOk_fr, v_lam, v_app, v_fr, fr_lam, fr_app, v_take, v_drop, fr_take, List.getElem?_append, fieldText, relab, compOk, Vars.comp]; omega
      by_cases hk : k < i
      · have e2 : ((k : Int) < i) := by omega
        have e3 : (i : Int) - 1 = ((i - 1 : Nat) : Int) := by omega
        simp [evSs, evS, evE, evEs, evT, evA, evB, evC, evO, evI, evF, ofString_inj, ofString_beq, strOk_ofString, strOk_append, M.then, bind_at, pure_at, fail_at, lift_some_at, lift_none_at, ite_at, isGlob, varOf, Vars.of, Vars.setAll, Vars.set, constOf, item, pickAt, cmpop, eqTop, PV.lay, PV.lays, PV.depth, PV.depths, binop, List.lookup_cons, plainArgs, const1, exn1, fuel1, isDef1, places1, consts1, exns1, bnames, callBuiltin, lenOf, small, canStore, pyEq, PV.toD, PV.toDs, PyData.eqv, PyData.eqvAll, getList, newCell, setCell, slice, bound, cut, textOk, empty_append, andor, oror, andand, orand, strOk_num, strOk_v, strOk_n, strOk_nm, strOk_fr, v_lam, v_app, v_fr, fr_lam, fr_app, v_take, v_drop, fr_take, List.getElem?_append, fieldText, relab, compOk, Vars.comp, hi.at, B.index, B.put, e0, ha, hk, e1, e1', e2, e3, hv.at]
      · have e2 : ¬ ((k : Int) < i) := by omega
        simp [evSs, evS, evE, evEs, evT, evA, evB, evC, evO, evI, evF, ofString_inj, ofString_beq, strOk_ofString, strOk_append, M.then, bind_at, pure_at, fail_at, lift_some_at, lift_none_at, ite_at, isGlob, varOf, Vars.of, Vars.setAll, Vars.set, constOf, item, pickAt, cmpop, eqTop, PV.lay, PV.lays, PV.depth, PV.depths, binop, List.lookup_cons, plainArgs, const1, exn1, fuel1, isDef1, places1, consts1, exns1, bnames, callBuiltin, lenOf, small, canStore, pyEq, PV.toD, PV.toDs, PyData.eqv, PyData.eqvAll, getList, newCell, setCell, slice, bound, cut, textOk, empty_append, andor, oror, andand, orand, strOk_num, strOk_v, strOk_n, strOk_nm, strOk_fr, v_lam, v_app, v_fr, fr_lam, fr_app, v_take, v_drop, fr_take, List.getElem?_append, fieldText, relab, compOk, Vars.comp, hi.at, B.index, B.put, e0, ha, hk, e1, e1', e2]
  | fr c =>
    intro k u b hu hb
    refine calls_of rfl fun n hn σ => ?_
    have hi := index_spec (.fr c) h n (by omega)
    have hbl := below_fr c n (by omega)
    unfold callOf
    rw [show defAt PySem.Challenge.pw_pq0040_01 18 = Def.mk _ _ _ from rfl]
    simp [evSs, evS, evE, evEs, evT, evA, evB, evC, evO, evI, evF, ofString_inj, ofString_beq, strOk_ofString, strOk_append, M.then, bind_at, pure_at, fail_at, lift_some_at, lift_none_at, ite_at, isGlob, varOf, Vars.of, Vars.setAll, Vars.set, constOf, item, pickAt, cmpop, eqTop, PV.lay, PV.lays, PV.depth, PV.depths, binop, List.lookup_cons, plainArgs, const1, exn1, fuel1, isDef1, places1, consts1, exns1, bnames, callBuiltin, lenOf, small, canStore, pyEq, PV.toD, PV.toDs, PyData.eqv, PyData.eqvAll, getList, newCell, setCell, slice, bound, cut, textOk, empty_append, andor, oror, andand, orand, strOk_num, strOk_v, strOk_n, strOk_nm, strOk_fr, v_lam, v_app, v_fr, fr_lam, fr_app, v_take, v_drop, fr_take, List.getElem?_append, fieldText, relab, compOk, Vars.comp, hi.at, B.index, B.put]
    simp [evSs, evS, evE, evEs, evT, evA, evB, evC, evO, evI, evF, ofString_inj, ofString_beq, strOk_ofString, strOk_append, M.then, bind_at, pure_at, fail_at, lift_some_at, lift_none_at, ite_at, isGlob, varOf, Vars.of, Vars.setAll, Vars.set, constOf, item, pickAt, cmpop, eqTop, PV.lay, PV.lays, PV.depth, PV.depths, binop, List.lookup_cons, plainArgs, const1, exn1, fuel1, isDef1, places1, consts1, exns1, bnames, callBuiltin, lenOf, small, canStore, pyEq, PV.toD, PV.toDs, PyData.eqv, PyData.eqvAll, getList, newCell, setCell, slice, bound, cut, textOk, empty_append, andor, oror, andand, orand, strOk_num, strOk_v, strOk_n, strOk_nm, strOk_fr, v_lam, v_app, v_fr, fr_lam, fr_app, v_take, v_drop, fr_take, List.getElem?_append, fieldText, relab, compOk, Vars.comp, B.pv, hbl.at]
    rw [(compM_zip [] ?_ (items_tup (xs := []) (by decide)) (still_tup _ _) .nil).at]
    · generalize gar _ _ _ = g1
      simp [evSs, evS, evE, evEs, evT, evA, evB, evC, evO, evI, evF, ofString_inj, ofString_beq, strOk_ofString, strOk_append, M.then, bind_at, pure_at, fail_at, lift_some_at, lift_none_at, ite_at, isGlob, varOf, Vars.of, Vars.setAll, Vars.set, constOf, item, pickAt, cmpop, eqTop, PV.lay, PV.lays, PV.depth, PV.depths, binop, List.lookup_cons, plainArgs, const1, exn1, fuel1, isDef1, places1, consts1, exns1, bnames, callBuiltin, lenOf, small, canStore, pyEq, PV.toD, PV.toDs, PyData.eqv, PyData.eqvAll, getList, newCell, setCell, slice, bound, cut, textOk, empty_append, andor, oror, andand, orand, strOk_num, strOk_v, strOk_n, strOk_nm, strOk_fr, v_lam, v_app, v_fr, fr_lam, fr_app, v_take, v_drop, fr_take, List.getElem?_append, fieldText, relab, compOk, Vars.comp]
    · exact gives_pure _
  | lam c ih =>
    intro k u b hu hb
    refine calls_of rfl fun n hn σ => ?_
    have hz : (B.lam c).size = c.size + 1 := rfl
    have hi := index_spec (.lam c) (B.vars_mono h (by decide)) n (by omega)
    have hbl := below_lam c n (by omega)
    have hs := shifted_spec u (B.vars_mono hu (by omega)) n (by omega)
    have h1 : Gives ((T1.at n).call (Str.ofString "put_in") [c.pv, .int ((k : Int) + 1), (u.sh 0).pv]) (c.put (k + 1) (u.sh 0)).pv :=
      ih h (k + 1) (u.sh 0) (b + 1) (B.vars_sh hu 0) (by omega) n (by rw [B.size_sh]; omega)
    unfold callOf
    rw [show defAt PySem.Challenge.pw_pq0040_01 18 = Def.mk _ _ _ from rfl]
    simp [evSs, evS, evE, evEs, evT, evA, evB, evC, evO, evI, evF, ofString_inj, ofString_beq, strOk_ofString, strOk_append, M.then, bind_at, pure_at, fail_at, lift_some_at, lift_none_at, ite_at, isGlob, varOf, Vars.of, Vars.setAll, Vars.set, constOf, item, pickAt, cmpop, eqTop, PV.lay, PV.lays, PV.depth, PV.depths, binop, List.lookup_cons, plainArgs, const1, exn1, fuel1, isDef1, places1, consts1, exns1, bnames, callBuiltin, lenOf, small, canStore, pyEq, PV.toD, PV.toDs, PyData.eqv, PyData.eqvAll, getList, newCell, setCell, slice, bound, cut, textOk, empty_append, andor, oror, andand, orand, strOk_num, strOk_v, strOk_n, strOk_nm, strOk_fr, v_lam, v_app, v_fr, fr_lam, fr_app, v_take, v_drop, fr_take, List.getElem?_append, fieldText, relab, compOk, Vars.comp, hi.at, B.index, B.put]
    simp [evSs, evS, evE, evEs, evT, evA, evB, evC, evO, evI, evF, ofString_inj, ofString_beq, strOk_ofString, strOk_append, M.then, bind_at, pure_at, fail_at, lift_some_at, lift_none_at, ite_at, isGlob, varOf, Vars.of, Vars.setAll, Vars.set, constOf, item, pickAt, cmpop, eqTop, PV.lay, PV.lays, PV.depth, PV.depths, binop, List.lookup_cons, plainArgs, const1, exn1, fuel1, isDef1, places1, consts1, exns1, bnames, callBuiltin, lenOf, small, canStore, pyEq, PV.toD, PV.toDs, PyData.eqv, PyData.eqvAll, getList, newCell, setCell, slice, bound, cut, textOk, empty_append, andor, oror, andand, orand, strOk_num, strOk_v, strOk_n, strOk_nm, strOk_fr, v_lam, v_app, v_fr, fr_lam, fr_app, v_take, v_drop, fr_take, List.getElem?_append, fieldText, relab, compOk, Vars.comp, B.pv, hbl.at, hs.at]
    rw [(compM_zip [(c.put (k + 1) (u.sh 0)).pv] ?_ (items_tup (xs := [c.pv]) (by simp [evSs, evS, evE, evEs, evT, evA, evB, evC, evO, evI, evF, ofString_inj, ofString_beq, strOk_ofString, strOk_append, M.then, bind_at, pure_at, fail_at, lift_some_at, lift_none_at, ite_at, isGlob, varOf, Vars.of, Vars.setAll, Vars.set, constOf, item, pickAt, cmpop, eqTop, PV.lay, PV.lays, PV.depth, PV.depths, binop, List.lookup_cons, plainArgs, const1, exn1, fuel1, isDef1, places1, consts1, exns1, bnames, callBuiltin, lenOf, small, canStore, pyEq, PV.toD, PV.toDs, PyData.eqv, PyData.eqvAll, getList, newCell, setCell, slice, bound, cut, textOk, empty_append, andor, oror, andand, orand, strOk_num, strOk_v, strOk_n, strOk_nm, strOk_fr, v_lam, v_app, v_fr, fr_lam, fr_app, v_take, v_drop, fr_take, List.getElem?_append, fieldText, relab, compOk, Vars.comp])) (still_tup _ _) (.cons ⟨?_, ?_⟩ .nil)).at]
    · generalize gar _ _ _ = g1
      simp [evSs, evS, evE, evEs, evT, evA, evB, evC, evO, evI, evF, ofString_inj, ofString_beq, strOk_ofString, strOk_append, M.then, bind_at, pure_at, fail_at, lift_some_at, lift_none_at, ite_at, isGlob, varOf, Vars.of, Vars.setAll, Vars.set, constOf, item, pickAt, cmpop, eqTop, PV.lay, PV.lays, PV.depth, PV.depths, binop, List.lookup_cons, plainArgs, const1, exn1, fuel1, isDef1, places1, consts1, exns1, bnames, callBuiltin, lenOf, small, canStore, pyEq, PV.toD, PV.toDs, PyData.eqv, PyData.eqvAll, getList, newCell, setCell, slice, bound, cut, textOk, empty_append, andor, oror, andand, orand, strOk_num, strOk_v, strOk_n, strOk_nm, strOk_fr, v_lam, v_app, v_fr, fr_lam, fr_app, v_take, v_drop, fr_take, List.getElem?_append, fieldText, relab, compOk, Vars.comp]
    · exact gives_pure _
    · exact gives_pure _
    · intro σ; simp [evSs, evS, evE, evEs, evT, evA, evB, evC, evO, evI, evF, ofString_inj, ofString_beq, strOk_ofString, strOk_append, M.then, bind_at, pure_at, fail_at, lift_some_at, lift_none_at, ite_at, isGlob, varOf, Vars.of, Vars.setAll, Vars.set, constOf, item, pickAt, cmpop, eqTop, PV.lay, PV.lays, PV.depth, PV.depths, binop, List.lookup_cons, plainArgs, const1, exn1, fuel1, isDef1, places1, consts1, exns1, bnames, callBuiltin, lenOf, small, canStore, pyEq, PV.toD, PV.toDs, PyData.eqv, PyData.eqvAll, getList, newCell, setCell, slice, bound, cut, textOk, empty_append, andor, oror, andand, orand, strOk_num, strOk_v, strOk_n, strOk_nm, strOk_fr, v_lam, v_app, v_fr, fr_lam, fr_app, v_take, v_drop, fr_take, List.getElem?_append, fieldText, relab, compOk, Vars.comp, h1.at]
  | app x y ih1 ih2 =>
    intro k u b hu hb
    refine calls_of rfl fun n hn σ => ?_
    have hz : (B.app x y).size = x.size + y.size + 1 := rfl
    have hi := index_spec (.app x y) (B.vars_mono h (by decide)) n (by omega)
    have hbl := below_app x y n (by omega)
    have h1 := ih1 h.1 k u b hu (by omega) n (by omega)
    have h2 := ih2 h.2 k u b hu (by omega) n (by omega)
    unfold callOf
    rw [show defAt PySem.Challenge.pw_pq0040_01 18 = Def.mk _ _ _ from rfl]
    simp [evSs, evS, evE, evEs, evT, evA, evB, evC, evO, evI, evF, ofString_inj, ofString_beq, strOk_ofString, strOk_append, M.then, bind_at, pure_at, fail_at, lift_some_at, lift_none_at, ite_at, isGlob, varOf, Vars.of, Vars.setAll, Vars.set, constOf, item, pickAt, cmpop, eqTop, PV.lay, PV.lays, PV.depth, PV.depths, binop, List.lookup_cons, plainArgs, const1, exn1, fuel1, isDef1, places1, consts1, exns1, bnames, callBuiltin, lenOf, small, canStore, pyEq, PV.toD, PV.toDs, PyData.eqv, PyData.eqvAll, getList, newCell, setCell, slice, bound, cut, textOk, empty_append, andor, oror, andand, orand, strOk_num, strOk_v, strOk_n, strOk_nm, strOk_fr, v_lam, v_app, v_fr, fr_lam, fr_app, v_take, v_drop, fr_take, List.getElem?_append, fieldText, relab, compOk, Vars.comp, hi.at, B.index, B.put]
    simp [evSs, evS, evE, evEs, evT, evA, evB, evC, evO, evI, evF, ofString_inj, ofString_beq, strOk_ofString, strOk_append, M.then, bind_at, pure_at, fail_at, lift_some_at, lift_none_at, ite_at, isGlob, varOf, Vars.of, Vars.setAll, Vars.set, constOf, item, pickAt, cmpop, eqTop, PV.lay, PV.lays, PV.depth, PV.depths, binop, List.lookup_cons, plainArgs, const1, exn1, fuel1, isDef1, places1, consts1, exns1, bnames, callBuiltin, lenOf, small, canStore, pyEq, PV.toD, PV.toDs, PyData.eqv, PyData.eqvAll, getList, newCell, setCell, slice, bound, cut, textOk, empty_append, andor, oror, andand, orand, strOk_num, strOk_v, strOk_n, strOk_nm, strOk_fr, v_lam, v_app, v_fr, fr_lam, fr_app, v_take, v_drop, fr_take, List.getElem?_append, fieldText, relab, compOk, Vars.comp, B.pv, hbl.at]
    rw [(compM_zip [(x.put k u).pv, (y.put k u).pv] ?_ (items_tup (xs := [x.pv, y.pv]) (by simp [evSs, evS, evE, evEs, evT, evA, evB, evC, evO, evI, evF, ofString_inj, ofString_beq, strOk_ofString, strOk_append, M.then, bind_at, pure_at, fail_at, lift_some_at, lift_none_at, ite_at, isGlob, varOf, Vars.of, Vars.setAll, Vars.set, constOf, item, pickAt, cmpop, eqTop, PV.lay, PV.lays, PV.depth, PV.depths, binop, List.lookup_cons, plainArgs, const1, exn1, fuel1, isDef1, places1, consts1, exns1, bnames, callBuiltin, lenOf, small, canStore, pyEq, PV.toD, PV.toDs, PyData.eqv, PyData.eqvAll, getList, newCell, setCell, slice, bound, cut, textOk, empty_append, andor, oror, andand, orand, strOk_num, strOk_v, strOk_n, strOk_nm, strOk_fr, v_lam, v_app, v_fr, fr_lam, fr_app, v_take, v_drop, fr_take, List.getElem?_append, fieldText, relab, compOk, Vars.comp])) (still_tup _ _) (.cons ⟨?_, ?_⟩ (.cons ⟨?_, ?_⟩ .nil))).at]
    · generalize gar _ _ _ = g1
      simp [evSs, evS, evE, evEs, evT, evA, evB, evC, evO, evI, evF, ofString_inj, ofString_beq, strOk_ofString, strOk_append, M.then, bind_at, pure_at, fail_at, lift_some_at, lift_none_at, ite_at, isGlob, varOf, Vars.of, Vars.setAll, Vars.set, constOf, item, pickAt, cmpop, eqTop, PV.lay, PV.lays, PV.depth, PV.depths, binop, List.lookup_cons, plainArgs, const1, exn1, fuel1, isDef1, places1, consts1, exns1, bnames, callBuiltin, lenOf, small, canStore, pyEq, PV.toD, PV.toDs, PyData.eqv, PyData.eqvAll, getList, newCell, setCell, slice, bound, cut, textOk, empty_append, andor, oror, andand, orand, strOk_num, strOk_v, strOk_n, strOk_nm, strOk_fr, v_lam, v_app, v_fr, fr_lam, fr_app, v_take, v_drop, fr_take, List.getElem?_append, fieldText, relab, compOk, Vars.comp]
    · exact gives_pure _
    · exact gives_pure _
    · intro σ; simp [evSs, evS, evE, evEs, evT, evA, evB, evC, evO, evI, evF, ofString_inj, ofString_beq, strOk_ofString, strOk_append, M.then, bind_at, pure_at, fail_at, lift_some_at, lift_none_at, ite_at, isGlob, varOf, Vars.of, Vars.setAll, Vars.set, constOf, item, pickAt, cmpop, eqTop, PV.lay, PV.lays, PV.depth, PV.depths, binop, List.lookup_cons, plainArgs, const1, exn1, fuel1, isDef1, places1, consts1, exns1, bnames, callBuiltin, lenOf, small, canStore, pyEq, PV.toD, PV.toDs, PyData.eqv, PyData.eqvAll, getList, newCell, setCell, slice, bound, cut, textOk, empty_append, andor, oror, andand, orand, strOk_num, strOk_v, strOk_n, strOk_nm, strOk_fr, v_lam, v_app, v_fr, fr_lam, fr_app, v_take, v_drop, fr_take, List.getElem?_append, fieldText, relab, compOk, Vars.comp, h1.at]
    · exact gives_pure _
    · intro σ; simp [evSs, evS, evE, evEs, evT, evA, evB, evC, evO, evI, evF, ofString_inj, ofString_beq, strOk_ofString, strOk_append, M.then, bind_at, pure_at, fail_at, lift_some_at, lift_none_at, ite_at, isGlob, varOf, Vars.of, Vars.setAll, Vars.set, constOf, item, pickAt, cmpop, eqTop, PV.lay, PV.lays, PV.depth, PV.depths, binop, List.lookup_cons, plainArgs, const1, exn1, fuel1, isDef1, places1, consts1, exns1, bnames, callBuiltin, lenOf, small, canStore, pyEq, PV.toD, PV.toDs, PyData.eqv, PyData.eqvAll, getList, newCell, setCell, slice, bound, cut, textOk, empty_append, andor, oror, andand, orand, strOk_num, strOk_v, strOk_n, strOk_nm, strOk_fr, v_lam, v_app, v_fr, fr_lam, fr_app, v_take, v_drop, fr_take, List.getElem?_append, fieldText, relab, compOk, Vars.comp, h2.at]

def B.redex : B → Bool
  | .app (.lam _) _ => true
  | _ => false
theorem redex_spec (t : B) : Calls "is_redex" [t.pv] 2 (.bool t.redex) := by
  refine calls_of rfl fun n hn σ => ?_
  unfold callOf
  rw [show defAt PySem.Challenge.pw_pq0040_01 19 = Def.mk _ _ _ from rfl]
  cases t with
  | var i => simp [evSs, evS, evE, evEs, evT, evA, evB, evC, evO, evI, evF, ofString_inj, ofString_beq, strOk_ofString, strOk_append, M.then, bind_at, pure_at, fail_at, lift_some_at, lift_none_at, ite_at, isGlob, varOf, Vars.of, Vars.setAll, Vars.set, constOf, item, pickAt, cmpop, eqTop, PV.lay, PV.lays, PV.depth, PV.depths, binop, List.lookup_cons, plainArgs, const1, exn1, fuel1, isDef1, places1, consts1, exns1, bnames, callBuiltin, lenOf, small, canStore, pyEq, PV.toD, PV.toDs, PyData.eqv, PyData.eqvAll, getList, newCell, setCell, slice, bound, cut, textOk, empty_append, andor, oror, andand, orand, strOk_num, strOk_v, strOk_n, strOk_nm, strOk_fr, v_lam, v_app, v_fr, fr_lam, fr_app, v_take, v_drop, fr_take, List.getElem?_append, fieldText, relab, compOk, Vars.comp, B.pv, B.redex]
  | fr k => simp [evSs, evS, evE, evEs, evT, evA, evB, evC, evO, evI, evF, ofString_inj, ofString_beq, strOk_ofString, strOk_append, M.then, bind_at, pure_at, fail_at, lift_some_at, lift_none_at, ite_at, isGlob, varOf, Vars.of, Vars.setAll, Vars.set, constOf, item, pickAt, cmpop, eqTop, PV.lay, PV.lays, PV.depth, PV.depths, binop, List.lookup_cons, plainArgs, const1, exn1, fuel1, isDef1, places1, consts1, exns1, bnames, callBuiltin, lenOf, small, canStore, pyEq, PV.toD, PV.toDs, PyData.eqv, PyData.eqvAll, getList, newCell, setCell, slice, bound, cut, textOk, empty_append, andor, oror, andand, orand, strOk_num, strOk_v, strOk_n, strOk_nm, strOk_fr, v_lam, v_app, v_fr, fr_lam, fr_app, v_take, v_drop, fr_take, List.getElem?_append, fieldText, relab, compOk, Vars.comp, B.pv, B.redex]
  | lam b => simp [evSs, evS, evE, evEs, evT, evA, evB, evC, evO, evI, evF, ofString_inj, ofString_beq, strOk_ofString, strOk_append, M.then, bind_at, pure_at, fail_at, lift_some_at, lift_none_at, ite_at, isGlob, varOf, Vars.of, Vars.setAll, Vars.set, constOf, item, pickAt, cmpop, eqTop, PV.lay, PV.lays, PV.depth, PV.depths, binop, List.lookup_cons, plainArgs, const1, exn1, fuel1, isDef1, places1, consts1, exns1, bnames, callBuiltin, lenOf, small, canStore, pyEq, PV.toD, PV.toDs, PyData.eqv, PyData.eqvAll, getList, newCell, setCell, slice, bound, cut, textOk, empty_append, andor, oror, andand, orand, strOk_num, strOk_v, strOk_n, strOk_nm, strOk_fr, v_lam, v_app, v_fr, fr_lam, fr_app, v_take, v_drop, fr_take, List.getElem?_append, fieldText, relab, compOk, Vars.comp, B.pv, B.redex]
  | app a b =>
    have h := below_spec a n (by omega)
    cases a <;> simp [evSs, evS, evE, evEs, evT, evA, evB, evC, evO, evI, evF, ofString_inj, ofString_beq, strOk_ofString, strOk_append, M.then, bind_at, pure_at, fail_at, lift_some_at, lift_none_at, ite_at, isGlob, varOf, Vars.of, Vars.setAll, Vars.set, constOf, item, pickAt, cmpop, eqTop, PV.lay, PV.lays, PV.depth, PV.depths, binop, List.lookup_cons, plainArgs, const1, exn1, fuel1, isDef1, places1, consts1, exns1, bnames, callBuiltin, lenOf, small, canStore, pyEq, PV.toD, PV.toDs, PyData.eqv, PyData.eqvAll, getList, newCell, setCell, slice, bound, cut, textOk, empty_append, andor, oror, andand, orand, strOk_num, strOk_v, strOk_n, strOk_nm, strOk_fr, v_lam, v_app, v_fr, fr_lam, fr_app, v_take, v_drop, fr_take, List.getElem?_append, fieldText, relab, compOk, Vars.comp, B.pv, B.redex] <;> (simp [evSs, evS, evE, evEs, evT, evA, evB, evC, evO, evI, evF, ofString_inj, ofString_beq, strOk_ofString, strOk_append, M.then, bind_at, pure_at, fail_at, lift_some_at, lift_none_at, ite_at, isGlob, varOf, Vars.of, Vars.setAll, Vars.set, constOf, item, pickAt, cmpop, eqTop, PV.lay, PV.lays, PV.depth, PV.depths, binop, List.lookup_cons, plainArgs, const1, exn1, fuel1, isDef1, places1, consts1, exns1, bnames, callBuiltin, lenOf, small, canStore, pyEq, PV.toD, PV.toDs, PyData.eqv, PyData.eqvAll, getList, newCell, setCell, slice, bound, cut, textOk, empty_append, andor, oror, andand, orand, strOk_num, strOk_v, strOk_n, strOk_nm, strOk_fr, v_lam, v_app, v_fr, fr_lam, fr_app, v_take, v_drop, fr_take, List.getElem?_append, fieldText, relab, compOk, Vars.comp, B.pv] at h; simp [evSs, evS, evE, evEs, evT, evA, evB, evC, evO, evI, evF, ofString_inj, ofString_beq, strOk_ofString, strOk_append, M.then, bind_at, pure_at, fail_at, lift_some_at, lift_none_at, ite_at, isGlob, varOf, Vars.of, Vars.setAll, Vars.set, constOf, item, pickAt, cmpop, eqTop, PV.lay, PV.lays, PV.depth, PV.depths, binop, List.lookup_cons, plainArgs, const1, exn1, fuel1, isDef1, places1, consts1, exns1, bnames, callBuiltin, lenOf, small, canStore, pyEq, PV.toD, PV.toDs, PyData.eqv, PyData.eqvAll, getList, newCell, setCell, slice, bound, cut, textOk, empty_append, andor, oror, andand, orand, strOk_num, strOk_v, strOk_n, strOk_nm, strOk_fr, v_lam, v_app, v_fr, fr_lam, fr_app, v_take, v_drop, fr_take, List.getElem?_append, fieldText, relab, compOk, Vars.comp, h.at])
end Mine

-- P7
namespace Mine
open PySem

theorem forGo_at {x : Str} {go : PV → Store → Bool} {b : Vars → Store → Option SO} {ds : List PV} {ρ : Vars} {σ : Store} {F : Option SO} (hF : forGo x go b ds ρ σ = F) (I : List PV → Vars → Store → Prop) (Q : SO → Prop)
    (hI : I ds ρ σ) (hb : ∀ d r ρ σ, I (d :: r) ρ σ → ∃ o, b (Vars.set ρ x d) σ = some o ∧ (match o with
      | .next ρ' σ' => go d σ' = true ∧ I r ρ' σ'
      | .brk ρ' σ' => Q (.next ρ' σ')
      | o => Q o)) (h0 : ∀ ρ σ, I [] ρ σ → Q (.next ρ σ)) : ∃ o, F = some o ∧ Q o := by
  rw [← hF]; exact forGo_rule I Q hb h0 ds ρ σ hI
theorem whileGo_at {t : Vars → M Bool} {b : Vars → Store → Option SO} {n : Nat} {ρ : Vars} {σ : Store} {F : Option SO} (hF : whileGo t b n ρ σ = F) (I : Nat → Vars → Store → Prop) (Q : SO → Prop) {m : Nat} (hm : m < n)
    (hI : I m ρ σ) (hb : ∀ m ρ σ, I m ρ σ → ∃ c σ', t ρ σ = some (.ok c σ') ∧ (match c with
      | false => Q (.next ρ σ')
      | true => ∃ o, b ρ σ' = some o ∧ (match o with
        | .next ρ' σ'' => ∃ m', m' < m ∧ I m' ρ' σ''
        | .brk ρ' σ'' => Q (.next ρ' σ'')
        | o => Q o))) : ∃ o, F = some o ∧ Q o := by
  rw [← hF]; exact whileGo_rule I Q hb n m ρ σ hm hI

def pathPV (p : List Nat) : PV := .tup (p.map fun (i : Nat) => PV.int (i : Int))
def B.kid : B → Nat → Option B
  | .lam b, 0 => some b
  | .app a _, 0 => some a
  | .app _ b, 1 => some b
  | _, _ => none
def B.part : B → List Nat → Option B
  | t, [] => some t
  | t, i :: p => match t.kid i with
    | some k => k.part p
    | none => none
def B.repl (u : B) : B → List Nat → B
  | _, [] => u
  | .lam b, 0 :: p => .lam (B.repl u b p)
  | .app a b, 0 :: p => .app (B.repl u a p) b
  | .app a b, 1 :: p => .app a (B.repl u b p)
  | t, _ => t

theorem part_spec (t u : B) (p : List Nat) (hl : p.length ≤ 100000) (h : t.part p = some u) : Calls "part_at" [t.pv, pathPV p] 1 u.pv := by
  refine calls_of rfl fun n hn σ => ?_
  unfold callOf
  rw [show defAt PySem.Challenge.pw_pq0040_01 5 = Def.mk _ _ _ from rfl]
  simp [evSs, evS, evE, evEs, evT, evA, evB, evC, evO, evI, evF, ofString_inj, ofString_beq, strOk_ofString, strOk_append, M.then, bind_at, pure_at, fail_at, lift_some_at, lift_none_at, ite_at, isGlob, varOf, Vars.of, Vars.setAll, Vars.set, constOf, item, pickAt, cmpop, eqTop, PV.lay, PV.lays, PV.depth, PV.depths, binop, List.lookup_cons, plainArgs, const1, exn1, fuel1, isDef1, places1, consts1, exns1, bnames, callBuiltin, lenOf, small, canStore, pyEq, PV.toD, PV.toDs, PyData.eqv, PyData.eqvAll, getList, newCell, setCell, slice, bound, cut, textOk, empty_append, andor, oror, andand, orand, strOk_num, strOk_v, strOk_n, strOk_nm, strOk_fr, v_lam, v_app, v_fr, fr_lam, fr_app, v_take, v_drop, fr_take, List.getElem?_append, fieldText, relab, compOk, Vars.comp, pathPV, items, hl]
  generalize hF : forGo _ _ _ _ _ _ = F
  obtain ⟨o, rfl, hq⟩ : ∃ o, F = some o ∧ (∃ ρ g, o = .next ρ (σ ++ g) ∧ ρ "t" = some u.pv) := by
    refine forGo_at hF (fun ds ρ σ' => ∃ p' t', ds = p'.map (fun (i : Nat) => PV.int (i : Int)) ∧ B.part t' p' = some u ∧ ρ "t" = some t'.pv ∧ ∃ g, σ' = σ ++ g) _ ?_ ?_ ?_
    · exact ⟨p, t, rfl, h, by simp [evSs, evS, evE, evEs, evT, evA, evB, evC, evO, evI, evF, ofString_inj, ofString_beq, strOk_ofString, strOk_append, M.then, bind_at, pure_at, fail_at, lift_some_at, lift_none_at, ite_at, isGlob, varOf, Vars.of, Vars.setAll, Vars.set, constOf, item, pickAt, cmpop, eqTop, PV.lay, PV.lays, PV.depth, PV.depths, binop, List.lookup_cons, plainArgs, const1, exn1, fuel1, isDef1, places1, consts1, exns1, bnames, callBuiltin, lenOf, small, canStore, pyEq, PV.toD, PV.toDs, PyData.eqv, PyData.eqvAll, getList, newCell, setCell, slice, bound, cut, textOk, empty_append, andor, oror, andand, orand, strOk_num, strOk_v, strOk_n, strOk_nm, strOk_fr, v_lam, v_app, v_fr, fr_lam, fr_app, v_take, v_drop, fr_take, List.getElem?_append, fieldText, relab, compOk, Vars.comp], [], by simp [evSs, evS, evE, evEs, evT, evA, evB, evC, evO, evI, evF, ofString_inj, ofString_beq, strOk_ofString, strOk_append, M.then, bind_at, pure_at, fail_at, lift_some_at, lift_none_at, ite_at, isGlob, varOf, Vars.of, Vars.setAll, Vars.set, constOf, item, pickAt, cmpop, eqTop, PV.lay, PV.lays, PV.depth, PV.depths, binop, List.lookup_cons, plainArgs, const1, exn1, fuel1, isDef1, places1, consts1, exns1, bnames, callBuiltin, lenOf, small, canStore, pyEq, PV.toD, PV.toDs, PyData.eqv, PyData.eqvAll, getList, newCell, setCell, slice, bound, cut, textOk, empty_append, andor, oror, andand, orand, strOk_num, strOk_v, strOk_n, strOk_nm, strOk_fr, v_lam, v_app, v_fr, fr_lam, fr_app, v_take, v_drop, fr_take, List.getElem?_append, fieldText, relab, compOk, Vars.comp]⟩
    · rintro d r ρ σ' ⟨p', t', hds, hp, ht, g, rfl⟩
      cases p' with
      | nil => exact absurd hds (by simp [evSs, evS, evE, evEs, evT, evA, evB, evC, evO, evI, evF, ofString_inj, ofString_beq, strOk_ofString, strOk_append, M.then, bind_at, pure_at, fail_at, lift_some_at, lift_none_at, ite_at, isGlob, varOf, Vars.of, Vars.setAll, Vars.set, constOf, item, pickAt, cmpop, eqTop, PV.lay, PV.lays, PV.depth, PV.depths, binop, List.lookup_cons, plainArgs, const1, exn1, fuel1, isDef1, places1, consts1, exns1, bnames, callBuiltin, lenOf, small, canStore, pyEq, PV.toD, PV.toDs, PyData.eqv, PyData.eqvAll, getList, newCell, setCell, slice, bound, cut, textOk, empty_append, andor, oror, andand, orand, strOk_num, strOk_v, strOk_n, strOk_nm, strOk_fr, v_lam, v_app, v_fr, fr_lam, fr_app, v_take, v_drop, fr_take, List.getElem?_append, fieldText, relab, compOk, Vars.comp])
      | cons i p' =>
        simp only [List.map_cons, List.cons.injEq] at hds
        obtain ⟨rfl, rfl⟩ := hds
        unfold B.part at hp
        cases hk : t'.kid i with
        | none => rw [hk] at hp; exact absurd hp (by simp [evSs, evS, evE, evEs, evT, evA, evB, evC, evO, evI, evF, ofString_inj, ofString_beq, strOk_ofString, strOk_append, M.then, bind_at, pure_at, fail_at, lift_some_at, lift_none_at, ite_at, isGlob, varOf, Vars.of, Vars.setAll, Vars.set, constOf, item, pickAt, cmpop, eqTop, PV.lay, PV.lays, PV.depth, PV.depths, binop, List.lookup_cons, plainArgs, const1, exn1, fuel1, isDef1, places1, consts1, exns1, bnames, callBuiltin, lenOf, small, canStore, pyEq, PV.toD, PV.toDs, PyData.eqv, PyData.eqvAll, getList, newCell, setCell, slice, bound, cut, textOk, empty_append, andor, oror, andand, orand, strOk_num, strOk_v, strOk_n, strOk_nm, strOk_fr, v_lam, v_app, v_fr, fr_lam, fr_app, v_take, v_drop, fr_take, List.getElem?_append, fieldText, relab, compOk, Vars.comp])
        | some t2 =>
          rw [hk] at hp
          have fin : ∀ (ρ' : Vars), ρ' "t" = some t2.pv → ∃ p' t', p'.map (fun (i : Nat) => PV.int (i : Int)) = p'.map (fun (i : Nat) => PV.int (i : Int)) ∧ B.part t' p' = some u ∧ ρ' "t" = some t'.pv := fun ρ' hr => ⟨p', t2, rfl, hp, hr⟩
          match t', i, hk with
          | .lam b, 0, hk =>
            cases hk
            simp [evSs, evS, evE, evEs, evT, evA, evB, evC, evO, evI, evF, ofString_inj, ofString_beq, strOk_ofString, strOk_append, M.then, bind_at, pure_at, fail_at, lift_some_at, lift_none_at, ite_at, isGlob, varOf, Vars.of, Vars.setAll, Vars.set, constOf, item, pickAt, cmpop, eqTop, PV.lay, PV.lays, PV.depth, PV.depths, binop, List.lookup_cons, plainArgs, const1, exn1, fuel1, isDef1, places1, consts1, exns1, bnames, callBuiltin, lenOf, small, canStore, pyEq, PV.toD, PV.toDs, PyData.eqv, PyData.eqvAll, getList, newCell, setCell, slice, bound, cut, textOk, empty_append, andor, oror, andand, orand, strOk_num, strOk_v, strOk_n, strOk_nm, strOk_fr, v_lam, v_app, v_fr, fr_lam, fr_app, v_take, v_drop, fr_take, List.getElem?_append, fieldText, relab, compOk, Vars.comp, ht, B.pv, stillB]
            exact ⟨p', rfl, _, hp, rfl⟩
          | .app a b, 0, hk =>
            cases hk
            simp [evSs, evS, evE, evEs, evT, evA, evB, evC, evO, evI, evF, ofString_inj, ofString_beq, strOk_ofString, strOk_append, M.then, bind_at, pure_at, fail_at, lift_some_at, lift_none_at, ite_at, isGlob, varOf, Vars.of, Vars.setAll, Vars.set, constOf, item, pickAt, cmpop, eqTop, PV.lay, PV.lays, PV.depth, PV.depths, binop, List.lookup_cons, plainArgs, const1, exn1, fuel1, isDef1, places1, consts1, exns1, bnames, callBuiltin, lenOf, small, canStore, pyEq, PV.toD, PV.toDs, PyData.eqv, PyData.eqvAll, getList, newCell, setCell, slice, bound, cut, textOk, empty_append, andor, oror, andand, orand, strOk_num, strOk_v, strOk_n, strOk_nm, strOk_fr, v_lam, v_app, v_fr, fr_lam, fr_app, v_take, v_drop, fr_take, List.getElem?_append, fieldText, relab, compOk, Vars.comp, ht, B.pv, stillB]
            exact ⟨p', rfl, _, hp, rfl⟩
          | .app a b, 1, hk =>
            cases hk
            simp [evSs, evS, evE, evEs, evT, evA, evB, evC, evO, evI, evF, ofString_inj, ofString_beq, strOk_ofString, strOk_append, M.then, bind_at, pure_at, fail_at, lift_some_at, lift_none_at, ite_at, isGlob, varOf, Vars.of, Vars.setAll, Vars.set, constOf, item, pickAt, cmpop, eqTop, PV.lay, PV.lays, PV.depth, PV.depths, binop, List.lookup_cons, plainArgs, const1, exn1, fuel1, isDef1, places1, consts1, exns1, bnames, callBuiltin, lenOf, small, canStore, pyEq, PV.toD, PV.toDs, PyData.eqv, PyData.eqvAll, getList, newCell, setCell, slice, bound, cut, textOk, empty_append, andor, oror, andand, orand, strOk_num, strOk_v, strOk_n, strOk_nm, strOk_fr, v_lam, v_app, v_fr, fr_lam, fr_app, v_take, v_drop, fr_take, List.getElem?_append, fieldText, relab, compOk, Vars.comp, ht, B.pv, stillB]
            exact ⟨p', rfl, _, hp, rfl⟩
    · rintro ρ σ' ⟨p', t', hds, hp, ht, g, rfl⟩
      cases p' with
      | nil =>
        cases hp
        exact ⟨ρ, g, rfl, ht⟩
      | cons i p' => exact absurd hds (by simp [evSs, evS, evE, evEs, evT, evA, evB, evC, evO, evI, evF, ofString_inj, ofString_beq, strOk_ofString, strOk_append, M.then, bind_at, pure_at, fail_at, lift_some_at, lift_none_at, ite_at, isGlob, varOf, Vars.of, Vars.setAll, Vars.set, constOf, item, pickAt, cmpop, eqTop, PV.lay, PV.lays, PV.depth, PV.depths, binop, List.lookup_cons, plainArgs, const1, exn1, fuel1, isDef1, places1, consts1, exns1, bnames, callBuiltin, lenOf, small, canStore, pyEq, PV.toD, PV.toDs, PyData.eqv, PyData.eqvAll, getList, newCell, setCell, slice, bound, cut, textOk, empty_append, andor, oror, andand, orand, strOk_num, strOk_v, strOk_n, strOk_nm, strOk_fr, v_lam, v_app, v_fr, fr_lam, fr_app, v_take, v_drop, fr_take, List.getElem?_append, fieldText, relab, compOk, Vars.comp])
  obtain ⟨ρ, g, rfl, ht⟩ := hq
  simp [evSs, evS, evE, evEs, evT, evA, evB, evC, evO, evI, evF, ofString_inj, ofString_beq, strOk_ofString, strOk_append, M.then, bind_at, pure_at, fail_at, lift_some_at, lift_none_at, ite_at, isGlob, varOf, Vars.of, Vars.setAll, Vars.set, constOf, item, pickAt, cmpop, eqTop, PV.lay, PV.lays, PV.depth, PV.depths, binop, List.lookup_cons, plainArgs, const1, exn1, fuel1, isDef1, places1, consts1, exns1, bnames, callBuiltin, lenOf, small, canStore, pyEq, PV.toD, PV.toDs, PyData.eqv, PyData.eqvAll, getList, newCell, setCell, slice, bound, cut, textOk, empty_append, andor, oror, andand, orand, strOk_num, strOk_v, strOk_n, strOk_nm, strOk_fr, v_lam, v_app, v_fr, fr_lam, fr_app, v_take, v_drop, fr_take, List.getElem?_append, fieldText, relab, compOk, Vars.comp, ht]

theorem lays_path (p : List Nat) : PV.lays (p.map fun (i : Nat) => PV.int (i : Int)) = true := by
  induction p with
  | nil => rfl
  | cons i p ih => simp [evSs, evS, evE, evEs, evT, evA, evB, evC, evO, evI, evF, ofString_inj, ofString_beq, strOk_ofString, strOk_append, M.then, bind_at, pure_at, fail_at, lift_some_at, lift_none_at, ite_at, isGlob, varOf, Vars.of, Vars.setAll, Vars.set, constOf, item, pickAt, cmpop, eqTop, PV.lay, PV.lays, PV.depth, PV.depths, binop, List.lookup_cons, plainArgs, const1, exn1, fuel1, isDef1, places1, consts1, exns1, bnames, callBuiltin, lenOf, small, canStore, pyEq, PV.toD, PV.toDs, PyData.eqv, PyData.eqvAll, getList, newCell, setCell, slice, bound, cut, textOk, empty_append, andor, oror, andand, orand, strOk_num, strOk_v, strOk_n, strOk_nm, strOk_fr, v_lam, v_app, v_fr, fr_lam, fr_app, v_take, v_drop, fr_take, List.getElem?_append, fieldText, relab, compOk, Vars.comp, ih]
theorem depths_path (p : List Nat) : PV.depths (p.map fun (i : Nat) => PV.int (i : Int)) = 0 := by
  induction p with
  | nil => rfl
  | cons i p ih => simp [evSs, evS, evE, evEs, evT, evA, evB, evC, evO, evI, evF, ofString_inj, ofString_beq, strOk_ofString, strOk_append, M.then, bind_at, pure_at, fail_at, lift_some_at, lift_none_at, ite_at, isGlob, varOf, Vars.of, Vars.setAll, Vars.set, constOf, item, pickAt, cmpop, eqTop, PV.lay, PV.lays, PV.depth, PV.depths, binop, List.lookup_cons, plainArgs, const1, exn1, fuel1, isDef1, places1, consts1, exns1, bnames, callBuiltin, lenOf, small, canStore, pyEq, PV.toD, PV.toDs, PyData.eqv, PyData.eqvAll, getList, newCell, setCell, slice, bound, cut, textOk, empty_append, andor, oror, andand, orand, strOk_num, strOk_v, strOk_n, strOk_nm, strOk_fr, v_lam, v_app, v_fr, fr_lam, fr_app, v_take, v_drop, fr_take, List.getElem?_append, fieldText, relab, compOk, Vars.comp, ih]

theorem repl_spec (u : B) : ∀ (p : List Nat) (t v : B), p.length ≤ 1000 → t.part p = some v → Calls "replaced" [t.pv, pathPV p, u.pv] (p.length + 2) (B.repl u t p).pv
  | [], t, v, hl, h => by
    refine calls_of rfl fun n hn σ => ?_
    unfold callOf
    rw [show defAt PySem.Challenge.pw_pq0040_01 6 = Def.mk _ _ _ from rfl]
    simp [evSs, evS, evE, evEs, evT, evA, evB, evC, evO, evI, evF, ofString_inj, ofString_beq, strOk_ofString, strOk_append, M.then, bind_at, pure_at, fail_at, lift_some_at, lift_none_at, ite_at, isGlob, varOf, Vars.of, Vars.setAll, Vars.set, constOf, item, pickAt, cmpop, eqTop, PV.lay, PV.lays, PV.depth, PV.depths, binop, List.lookup_cons, plainArgs, const1, exn1, fuel1, isDef1, places1, consts1, exns1, bnames, callBuiltin, lenOf, small, canStore, pyEq, PV.toD, PV.toDs, PyData.eqv, PyData.eqvAll, getList, newCell, setCell, slice, bound, cut, textOk, empty_append, andor, oror, andand, orand, strOk_num, strOk_v, strOk_n, strOk_nm, strOk_fr, v_lam, v_app, v_fr, fr_lam, fr_app, v_take, v_drop, fr_take, List.getElem?_append, fieldText, relab, compOk, Vars.comp, pathPV, B.repl]
  | i :: p, t, v, hl, h => by
    have hl' : p.length + 1 ≤ 1000 := hl
    unfold B.part at h
    cases hk : t.kid i with
    | none => rw [hk] at h; exact absurd h (by simp [evSs, evS, evE, evEs, evT, evA, evB, evC, evO, evI, evF, ofString_inj, ofString_beq, strOk_ofString, strOk_append, M.then, bind_at, pure_at, fail_at, lift_some_at, lift_none_at, ite_at, isGlob, varOf, Vars.of, Vars.setAll, Vars.set, constOf, item, pickAt, cmpop, eqTop, PV.lay, PV.lays, PV.depth, PV.depths, binop, List.lookup_cons, plainArgs, const1, exn1, fuel1, isDef1, places1, consts1, exns1, bnames, callBuiltin, lenOf, small, canStore, pyEq, PV.toD, PV.toDs, PyData.eqv, PyData.eqvAll, getList, newCell, setCell, slice, bound, cut, textOk, empty_append, andor, oror, andand, orand, strOk_num, strOk_v, strOk_n, strOk_nm, strOk_fr, v_lam, v_app, v_fr, fr_lam, fr_app, v_take, v_drop, fr_take, List.getElem?_append, fieldText, relab, compOk, Vars.comp])
    | some k =>
      rw [hk] at h
      have hr := repl_spec u p k v (by omega) h
      refine calls_of rfl fun n hn σ => ?_
      have hn : p.length + 2 ≤ n := by simp [evSs, evS, evE, evEs, evT, evA, evB, evC, evO, evI, evF, ofString_inj, ofString_beq, strOk_ofString, strOk_append, M.then, bind_at, pure_at, fail_at, lift_some_at, lift_none_at, ite_at, isGlob, varOf, Vars.of, Vars.setAll, Vars.set, constOf, item, pickAt, cmpop, eqTop, PV.lay, PV.lays, PV.depth, PV.depths, binop, List.lookup_cons, plainArgs, const1, exn1, fuel1, isDef1, places1, consts1, exns1, bnames, callBuiltin, lenOf, small, canStore, pyEq, PV.toD, PV.toDs, PyData.eqv, PyData.eqvAll, getList, newCell, setCell, slice, bound, cut, textOk, empty_append, andor, oror, andand, orand, strOk_num, strOk_v, strOk_n, strOk_nm, strOk_fr, v_lam, v_app, v_fr, fr_lam, fr_app, v_take, v_drop, fr_take, List.getElem?_append, fieldText, relab, compOk, Vars.comp] at hn; omega
      have hr := hr n hn
      have hp : Gives ((T1.at n).call (Str.ofString "part_at") [t.pv, .tup [.int i]]) k.pv := part_spec t k [i] (by simp [evSs, evS, evE, evEs, evT, evA, evB, evC, evO, evI, evF, ofString_inj, ofString_beq, strOk_ofString, strOk_append, M.then, bind_at, pure_at, fail_at, lift_some_at, lift_none_at, ite_at, isGlob, varOf, Vars.of, Vars.setAll, Vars.set, constOf, item, pickAt, cmpop, eqTop, PV.lay, PV.lays, PV.depth, PV.depths, binop, List.lookup_cons, plainArgs, const1, exn1, fuel1, isDef1, places1, consts1, exns1, bnames, callBuiltin, lenOf, small, canStore, pyEq, PV.toD, PV.toDs, PyData.eqv, PyData.eqvAll, getList, newCell, setCell, slice, bound, cut, textOk, empty_append, andor, oror, andand, orand, strOk_num, strOk_v, strOk_n, strOk_nm, strOk_fr, v_lam, v_app, v_fr, fr_lam, fr_app, v_take, v_drop, fr_take, List.getElem?_append, fieldText, relab, compOk, Vars.comp]) (by simp [evSs, evS, evE, evEs, evT, evA, evB, evC, evO, evI, evF, ofString_inj, ofString_beq, strOk_ofString, strOk_append, M.then, bind_at, pure_at, fail_at, lift_some_at, lift_none_at, ite_at, isGlob, varOf, Vars.of, Vars.setAll, Vars.set, constOf, item, pickAt, cmpop, eqTop, PV.lay, PV.lays, PV.depth, PV.depths, binop, List.lookup_cons, plainArgs, const1, exn1, fuel1, isDef1, places1, consts1, exns1, bnames, callBuiltin, lenOf, small, canStore, pyEq, PV.toD, PV.toDs, PyData.eqv, PyData.eqvAll, getList, newCell, setCell, slice, bound, cut, textOk, empty_append, andor, oror, andand, orand, strOk_num, strOk_v, strOk_n, strOk_nm, strOk_fr, v_lam, v_app, v_fr, fr_lam, fr_app, v_take, v_drop, fr_take, List.getElem?_append, fieldText, relab, compOk, Vars.comp, B.part, hk]) n (by omega)
      have e1 : p.length + 1 ≤ 100000 := by omega
      unfold callOf
      rw [show defAt PySem.Challenge.pw_pq0040_01 6 = Def.mk _ _ _ from rfl]
      match t, i, hk with
      | .lam b, 0, hk =>
        cases hk
        have hp := hp.at
        simp [evSs, evS, evE, evEs, evT, evA, evB, evC, evO, evI, evF, ofString_inj, ofString_beq, strOk_ofString, strOk_append, M.then, bind_at, pure_at, fail_at, lift_some_at, lift_none_at, ite_at, isGlob, varOf, Vars.of, Vars.setAll, Vars.set, constOf, item, pickAt, cmpop, eqTop, PV.lay, PV.lays, PV.depth, PV.depths, binop, List.lookup_cons, plainArgs, const1, exn1, fuel1, isDef1, places1, consts1, exns1, bnames, callBuiltin, lenOf, small, canStore, pyEq, PV.toD, PV.toDs, PyData.eqv, PyData.eqvAll, getList, newCell, setCell, slice, bound, cut, textOk, empty_append, andor, oror, andand, orand, strOk_num, strOk_v, strOk_n, strOk_nm, strOk_fr, v_lam, v_app, v_fr, fr_lam, fr_app, v_take, v_drop, fr_take, List.getElem?_append, fieldText, relab, compOk, Vars.comp, pathPV, B.pv] at hp hr
        have hr := hr.at
        simp [evSs, evS, evE, evEs, evT, evA, evB, evC, evO, evI, evF, ofString_inj, ofString_beq, strOk_ofString, strOk_append, M.then, bind_at, pure_at, fail_at, lift_some_at, lift_none_at, ite_at, isGlob, varOf, Vars.of, Vars.setAll, Vars.set, constOf, item, pickAt, cmpop, eqTop, PV.lay, PV.lays, PV.depth, PV.depths, binop, List.lookup_cons, plainArgs, const1, exn1, fuel1, isDef1, places1, consts1, exns1, bnames, callBuiltin, lenOf, small, canStore, pyEq, PV.toD, PV.toDs, PyData.eqv, PyData.eqvAll, getList, newCell, setCell, slice, bound, cut, textOk, empty_append, andor, oror, andand, orand, strOk_num, strOk_v, strOk_n, strOk_nm, strOk_fr, v_lam, v_app, v_fr, fr_lam, fr_app, v_take, v_drop, fr_take, List.getElem?_append, fieldText, relab, compOk, Vars.comp, pathPV, B.repl, lays_path, depths_path, e1, B.pv, hp, hr]
      | .app a b, 0, hk =>
        cases hk
        have hp := hp.at
        simp [evSs, evS, evE, evEs, evT, evA, evB, evC, evO, evI, evF, ofString_inj, ofString_beq, strOk_ofString, strOk_append, M.then, bind_at, pure_at, fail_at, lift_some_at, lift_none_at, ite_at, isGlob, varOf, Vars.of, Vars.setAll, Vars.set, constOf, item, pickAt, cmpop, eqTop, PV.lay, PV.lays, PV.depth, PV.depths, binop, List.lookup_cons, plainArgs, const1, exn1, fuel1, isDef1, places1, consts1, exns1, bnames, callBuiltin, lenOf, small, canStore, pyEq, PV.toD, PV.toDs, PyData.eqv, PyData.eqvAll, getList, newCell, setCell, slice, bound, cut, textOk, empty_append, andor, oror, andand, orand, strOk_num, strOk_v, strOk_n, strOk_nm, strOk_fr, v_lam, v_app, v_fr, fr_lam, fr_app, v_take, v_drop, fr_take, List.getElem?_append, fieldText, relab, compOk, Vars.comp, pathPV, B.pv] at hp hr
        have hr := hr.at
        simp [evSs, evS, evE, evEs, evT, evA, evB, evC, evO, evI, evF, ofString_inj, ofString_beq, strOk_ofString, strOk_append, M.then, bind_at, pure_at, fail_at, lift_some_at, lift_none_at, ite_at, isGlob, varOf, Vars.of, Vars.setAll, Vars.set, constOf, item, pickAt, cmpop, eqTop, PV.lay, PV.lays, PV.depth, PV.depths, binop, List.lookup_cons, plainArgs, const1, exn1, fuel1, isDef1, places1, consts1, exns1, bnames, callBuiltin, lenOf, small, canStore, pyEq, PV.toD, PV.toDs, PyData.eqv, PyData.eqvAll, getList, newCell, setCell, slice, bound, cut, textOk, empty_append, andor, oror, andand, orand, strOk_num, strOk_v, strOk_n, strOk_nm, strOk_fr, v_lam, v_app, v_fr, fr_lam, fr_app, v_take, v_drop, fr_take, List.getElem?_append, fieldText, relab, compOk, Vars.comp, pathPV, B.repl, lays_path, depths_path, e1, B.pv, hp, hr]
      | .app a b, 1, hk =>
        cases hk
        have hp := hp.at
        simp [evSs, evS, evE, evEs, evT, evA, evB, evC, evO, evI, evF, ofString_inj, ofString_beq, strOk_ofString, strOk_append, M.then, bind_at, pure_at, fail_at, lift_some_at, lift_none_at, ite_at, isGlob, varOf, Vars.of, Vars.setAll, Vars.set, constOf, item, pickAt, cmpop, eqTop, PV.lay, PV.lays, PV.depth, PV.depths, binop, List.lookup_cons, plainArgs, const1, exn1, fuel1, isDef1, places1, consts1, exns1, bnames, callBuiltin, lenOf, small, canStore, pyEq, PV.toD, PV.toDs, PyData.eqv, PyData.eqvAll, getList, newCell, setCell, slice, bound, cut, textOk, empty_append, andor, oror, andand, orand, strOk_num, strOk_v, strOk_n, strOk_nm, strOk_fr, v_lam, v_app, v_fr, fr_lam, fr_app, v_take, v_drop, fr_take, List.getElem?_append, fieldText, relab, compOk, Vars.comp, pathPV, B.pv] at hp hr
        have hr := hr.at
        simp [evSs, evS, evE, evEs, evT, evA, evB, evC, evO, evI, evF, ofString_inj, ofString_beq, strOk_ofString, strOk_append, M.then, bind_at, pure_at, fail_at, lift_some_at, lift_none_at, ite_at, isGlob, varOf, Vars.of, Vars.setAll, Vars.set, constOf, item, pickAt, cmpop, eqTop, PV.lay, PV.lays, PV.depth, PV.depths, binop, List.lookup_cons, plainArgs, const1, exn1, fuel1, isDef1, places1, consts1, exns1, bnames, callBuiltin, lenOf, small, canStore, pyEq, PV.toD, PV.toDs, PyData.eqv, PyData.eqvAll, getList, newCell, setCell, slice, bound, cut, textOk, empty_append, andor, oror, andand, orand, strOk_num, strOk_v, strOk_n, strOk_nm, strOk_fr, v_lam, v_app, v_fr, fr_lam, fr_app, v_take, v_drop, fr_take, List.getElem?_append, fieldText, relab, compOk, Vars.comp, pathPV, B.repl, lays_path, depths_path, e1, B.pv, hp, hr]
end Mine

-- P8
namespace Mine
open PySem

theorem beta_spec (t c x : B) (p : List Nat) (K b : Nat) (h : t.part p = some (.app (.lam c) x)) (hp : p.length ≤ 1000) (hc : c.vars (10 ^ 8)) (hx : x.vars b) (hb : b + c.size ≤ 10 ^ 8) (hK : c.size + x.size + 6 ≤ K) (hK2 : p.length + 2 ≤ K) :
    Calls "beta" [t.pv, pathPV p] (K + 1) (B.repl (c.put 0 x) t p).pv := by
  refine calls_of rfl fun n hn σ => ?_
  have h1 := part_spec t _ p (by omega) h n (by omega)
  have h2 := redex_spec (.app (.lam c) x) n (by omega)
  have h3 : Gives ((T1.at n).call (Str.ofString "put_in") [c.pv, .int 0, x.pv]) (c.put 0 x).pv := put_spec c hc 0 x b hx hb n (by omega)
  have h4 := repl_spec (c.put 0 x) p t _ hp h n (by omega)
  unfold callOf
  rw [show defAt PySem.Challenge.pw_pq0040_01 20 = Def.mk _ _ _ from rfl]
  simp [evSs, evS, evE, evEs, evT, evA, evB, evC, evO, evI, evF, ofString_inj, ofString_beq, strOk_ofString, strOk_append, M.then, bind_at, pure_at, fail_at, lift_some_at, lift_none_at, ite_at, isGlob, varOf, Vars.of, Vars.setAll, Vars.set, constOf, item, pickAt, cmpop, eqTop, PV.lay, PV.lays, PV.depth, PV.depths, binop, List.lookup_cons, plainArgs, const1, exn1, fuel1, isDef1, places1, consts1, exns1, bnames, callBuiltin, lenOf, small, canStore, pyEq, PV.toD, PV.toDs, PyData.eqv, PyData.eqvAll, getList, newCell, setCell, slice, bound, cut, textOk, empty_append, andor, oror, andand, orand, strOk_num, strOk_v, strOk_n, strOk_nm, strOk_fr, v_lam, v_app, v_fr, fr_lam, fr_app, v_take, v_drop, fr_take, List.getElem?_append, fieldText, relab, compOk, Vars.comp, B.pv, B.redex] at h1 h2
  simp [evSs, evS, evE, evEs, evT, evA, evB, evC, evO, evI, evF, ofString_inj, ofString_beq, strOk_ofString, strOk_append, M.then, bind_at, pure_at, fail_at, lift_some_at, lift_none_at, ite_at, isGlob, varOf, Vars.of, Vars.setAll, Vars.set, constOf, item, pickAt, cmpop, eqTop, PV.lay, PV.lays, PV.depth, PV.depths, binop, List.lookup_cons, plainArgs, const1, exn1, fuel1, isDef1, places1, consts1, exns1, bnames, callBuiltin, lenOf, small, canStore, pyEq, PV.toD, PV.toDs, PyData.eqv, PyData.eqvAll, getList, newCell, setCell, slice, bound, cut, textOk, empty_append, andor, oror, andand, orand, strOk_num, strOk_v, strOk_n, strOk_nm, strOk_fr, v_lam, v_app, v_fr, fr_lam, fr_app, v_take, v_drop, fr_take, List.getElem?_append, fieldText, relab, compOk, Vars.comp, h1.at, h2.at, h3.at, h4.at]

def B.first : B → Option (List Nat)
  | .app (.lam _) _ => some []
  | .app a b => match a.first with
    | some p => some (0 :: p)
    | none => match b.first with
      | some p => some (1 :: p)
      | none => none
  | .lam b => match b.first with
    | some p => some (0 :: p)
    | none => none
  | _ => none
def optPV : Option (List Nat) → PV
  | none => .none
  | some p => pathPV p
theorem first_len : ∀ (t : B) (p : List Nat), t.first = some p → p.length ≤ t.size
  | .var _, _, h => by simp [evSs, evS, evE, evEs, evT, evA, evB, evC, evO, evI, evF, ofString_inj, ofString_beq, strOk_ofString, strOk_append, M.then, bind_at, pure_at, fail_at, lift_some_at, lift_none_at, ite_at, isGlob, varOf, Vars.of, Vars.setAll, Vars.set, constOf, item, pickAt, cmpop, eqTop, PV.lay, PV.lays, PV.depth, PV.depths, binop, List.lookup_cons, plainArgs, const1, exn1, fuel1, isDef1, places1, consts1, exns1, bnames, callBuiltin, lenOf, small, canStore, pyEq, PV.toD, PV.toDs, PyData.eqv, PyData.eqvAll, getList, newCell, setCell, slice, bound, cut, textOk, empty_append, andor, oror, andand, orand, strOk_num, strOk_v, strOk_n, strOk_nm, strOk_fr, v_lam, v_app, v_fr, fr_lam, fr_app, v_take, v_drop, fr_take, List.getElem?_append, fieldText, relab, compOk, Vars.comp, B.first] at h
  | .fr _, _, h => by simp [evSs, evS, evE, evEs, evT, evA, evB, evC, evO, evI, evF, ofString_inj, ofString_beq, strOk_ofString, strOk_append, M.then, bind_at, pure_at, fail_at, lift_some_at, lift_none_at, ite_at, isGlob, varOf, Vars.of, Vars.setAll, Vars.set, constOf, item, pickAt, cmpop, eqTop, PV.lay, PV.lays, PV.depth, PV.depths, binop, List.lookup_cons, plainArgs, const1, exn1, fuel1, isDef1, places1, consts1, exns1, bnames, callBuiltin, lenOf, small, canStore, pyEq, PV.toD, PV.toDs, PyData.eqv, PyData.eqvAll, getList, newCell, setCell, slice, bound, cut, textOk, empty_append, andor, oror, andand, orand, strOk_num, strOk_v, strOk_n, strOk_nm, strOk_fr, v_lam, v_app, v_fr, fr_lam, fr_app, v_take, v_drop, fr_take, List.getElem?_append, fieldText, relab, compOk, Vars.comp, B.first] at h
  | .lam b, p, h => by
    unfold B.first at h
    cases hb : b.first with
    | none => rw [hb] at h; exact absurd h (by simp [evSs, evS, evE, evEs, evT, evA, evB, evC, evO, evI, evF, ofString_inj, ofString_beq, strOk_ofString, strOk_append, M.then, bind_at, pure_at, fail_at, lift_some_at, lift_none_at, ite_at, isGlob, varOf, Vars.of, Vars.setAll, Vars.set, constOf, item, pickAt, cmpop, eqTop, PV.lay, PV.lays, PV.depth, PV.depths, binop, List.lookup_cons, plainArgs, const1, exn1, fuel1, isDef1, places1, consts1, exns1, bnames, callBuiltin, lenOf, small, canStore, pyEq, PV.toD, PV.toDs, PyData.eqv, PyData.eqvAll, getList, newCell, setCell, slice, bound, cut, textOk, empty_append, andor, oror, andand, orand, strOk_num, strOk_v, strOk_n, strOk_nm, strOk_fr, v_lam, v_app, v_fr, fr_lam, fr_app, v_take, v_drop, fr_take, List.getElem?_append, fieldText, relab, compOk, Vars.comp])
    | some q =>
      have := first_len b q hb
      rw [hb] at h; cases h
      show q.length + 1 ≤ b.size + 1
      omega
  | .app a b, p, h => by
    have hz : (B.app a b).size = a.size + b.size + 1 := rfl
    by_cases hr : ∃ c, a = .lam c
    · obtain ⟨c, rfl⟩ := hr
      simp [evSs, evS, evE, evEs, evT, evA, evB, evC, evO, evI, evF, ofString_inj, ofString_beq, strOk_ofString, strOk_append, M.then, bind_at, pure_at, fail_at, lift_some_at, lift_none_at, ite_at, isGlob, varOf, Vars.of, Vars.setAll, Vars.set, constOf, item, pickAt, cmpop, eqTop, PV.lay, PV.lays, PV.depth, PV.depths, binop, List.lookup_cons, plainArgs, const1, exn1, fuel1, isDef1, places1, consts1, exns1, bnames, callBuiltin, lenOf, small, canStore, pyEq, PV.toD, PV.toDs, PyData.eqv, PyData.eqvAll, getList, newCell, setCell, slice, bound, cut, textOk, empty_append, andor, oror, andand, orand, strOk_num, strOk_v, strOk_n, strOk_nm, strOk_fr, v_lam, v_app, v_fr, fr_lam, fr_app, v_take, v_drop, fr_take, List.getElem?_append, fieldText, relab, compOk, Vars.comp, B.first] at h
      subst h; exact Nat.zero_le _
    · have e : (B.app a b).first = match a.first with
        | some p => some (0 :: p)
        | none => match b.first with
          | some p => some (1 :: p)
          | none => none := by
        cases a with
        | lam c => exact absurd ⟨c, rfl⟩ hr
        | _ => rfl
      rw [e] at h
      cases ha : a.first with
      | some q =>
        have := first_len a q ha
        rw [ha] at h; cases h
        simp only [List.length_cons]; omega
      | none =>
        rw [ha] at h
        cases hb : b.first with
        | none => rw [hb] at h; exact absurd h (by simp [evSs, evS, evE, evEs, evT, evA, evB, evC, evO, evI, evF, ofString_inj, ofString_beq, strOk_ofString, strOk_append, M.then, bind_at, pure_at, fail_at, lift_some_at, lift_none_at, ite_at, isGlob, varOf, Vars.of, Vars.setAll, Vars.set, constOf, item, pickAt, cmpop, eqTop, PV.lay, PV.lays, PV.depth, PV.depths, binop, List.lookup_cons, plainArgs, const1, exn1, fuel1, isDef1, places1, consts1, exns1, bnames, callBuiltin, lenOf, small, canStore, pyEq, PV.toD, PV.toDs, PyData.eqv, PyData.eqvAll, getList, newCell, setCell, slice, bound, cut, textOk, empty_append, andor, oror, andand, orand, strOk_num, strOk_v, strOk_n, strOk_nm, strOk_fr, v_lam, v_app, v_fr, fr_lam, fr_app, v_take, v_drop, fr_take, List.getElem?_append, fieldText, relab, compOk, Vars.comp])
        | some q =>
          have := first_len b q hb
          rw [hb] at h; cases h
          simp only [List.length_cons]; omega

theorem first_spec : ∀ (t : B), t.size ≤ 1000 → Calls "first_redex" [t.pv] (t.size + 3) (optPV t.first)
  | .var i, _ => by
    refine calls_of rfl fun n hn σ => ?_
    have h2 := redex_spec (.var i) n (by omega)
    unfold callOf
    rw [show defAt PySem.Challenge.pw_pq0040_01 21 = Def.mk _ _ _ from rfl]
    simp [evSs, evS, evE, evEs, evT, evA, evB, evC, evO, evI, evF, ofString_inj, ofString_beq, strOk_ofString, strOk_append, M.then, bind_at, pure_at, fail_at, lift_some_at, lift_none_at, ite_at, isGlob, varOf, Vars.of, Vars.setAll, Vars.set, constOf, item, pickAt, cmpop, eqTop, PV.lay, PV.lays, PV.depth, PV.depths, binop, List.lookup_cons, plainArgs, const1, exn1, fuel1, isDef1, places1, consts1, exns1, bnames, callBuiltin, lenOf, small, canStore, pyEq, PV.toD, PV.toDs, PyData.eqv, PyData.eqvAll, getList, newCell, setCell, slice, bound, cut, textOk, empty_append, andor, oror, andand, orand, strOk_num, strOk_v, strOk_n, strOk_nm, strOk_fr, v_lam, v_app, v_fr, fr_lam, fr_app, v_take, v_drop, fr_take, List.getElem?_append, fieldText, relab, compOk, Vars.comp, B.pv, B.redex] at h2
    simp [evSs, evS, evE, evEs, evT, evA, evB, evC, evO, evI, evF, ofString_inj, ofString_beq, strOk_ofString, strOk_append, M.then, bind_at, pure_at, fail_at, lift_some_at, lift_none_at, ite_at, isGlob, varOf, Vars.of, Vars.setAll, Vars.set, constOf, item, pickAt, cmpop, eqTop, PV.lay, PV.lays, PV.depth, PV.depths, binop, List.lookup_cons, plainArgs, const1, exn1, fuel1, isDef1, places1, consts1, exns1, bnames, callBuiltin, lenOf, small, canStore, pyEq, PV.toD, PV.toDs, PyData.eqv, PyData.eqvAll, getList, newCell, setCell, slice, bound, cut, textOk, empty_append, andor, oror, andand, orand, strOk_num, strOk_v, strOk_n, strOk_nm, strOk_fr, v_lam, v_app, v_fr, fr_lam, fr_app, v_take, v_drop, fr_take, List.getElem?_append, fieldText, relab, compOk, Vars.comp, B.pv, h2.at, items, forGo, B.first, optPV]
  | .fr k, _ => by
    refine calls_of rfl fun n hn σ => ?_
    have h2 := redex_spec (.fr k) n (by omega)
    unfold callOf
    rw [show defAt PySem.Challenge.pw_pq0040_01 21 = Def.mk _ _ _ from rfl]
    simp [evSs, evS, evE, evEs, evT, evA, evB, evC, evO, evI, evF, ofString_inj, ofString_beq, strOk_ofString, strOk_append, M.then, bind_at, pure_at, fail_at, lift_some_at, lift_none_at, ite_at, isGlob, varOf, Vars.of, Vars.setAll, Vars.set, constOf, item, pickAt, cmpop, eqTop, PV.lay, PV.lays, PV.depth, PV.depths, binop, List.lookup_cons, plainArgs, const1, exn1, fuel1, isDef1, places1, consts1, exns1, bnames, callBuiltin, lenOf, small, canStore, pyEq, PV.toD, PV.toDs, PyData.eqv, PyData.eqvAll, getList, newCell, setCell, slice, bound, cut, textOk, empty_append, andor, oror, andand, orand, strOk_num, strOk_v, strOk_n, strOk_nm, strOk_fr, v_lam, v_app, v_fr, fr_lam, fr_app, v_take, v_drop, fr_take, List.getElem?_append, fieldText, relab, compOk, Vars.comp, B.pv, B.redex] at h2
    simp [evSs, evS, evE, evEs, evT, evA, evB, evC, evO, evI, evF, ofString_inj, ofString_beq, strOk_ofString, strOk_append, M.then, bind_at, pure_at, fail_at, lift_some_at, lift_none_at, ite_at, isGlob, varOf, Vars.of, Vars.setAll, Vars.set, constOf, item, pickAt, cmpop, eqTop, PV.lay, PV.lays, PV.depth, PV.depths, binop, List.lookup_cons, plainArgs, const1, exn1, fuel1, isDef1, places1, consts1, exns1, bnames, callBuiltin, lenOf, small, canStore, pyEq, PV.toD, PV.toDs, PyData.eqv, PyData.eqvAll, getList, newCell, setCell, slice, bound, cut, textOk, empty_append, andor, oror, andand, orand, strOk_num, strOk_v, strOk_n, strOk_nm, strOk_fr, v_lam, v_app, v_fr, fr_lam, fr_app, v_take, v_drop, fr_take, List.getElem?_append, fieldText, relab, compOk, Vars.comp, B.pv, h2.at, items, forGo, B.first, optPV]
  | .lam b, hs => by
    have hz : (B.lam b).size = b.size + 1 := rfl
    refine calls_of rfl fun n hn σ => ?_
    have h2 := redex_spec (.lam b) n (by omega)
    have h3 := first_spec b (by omega) n (by omega)
    unfold callOf
    rw [show defAt PySem.Challenge.pw_pq0040_01 21 = Def.mk _ _ _ from rfl]
    simp [evSs, evS, evE, evEs, evT, evA, evB, evC, evO, evI, evF, ofString_inj, ofString_beq, strOk_ofString, strOk_append, M.then, bind_at, pure_at, fail_at, lift_some_at, lift_none_at, ite_at, isGlob, varOf, Vars.of, Vars.setAll, Vars.set, constOf, item, pickAt, cmpop, eqTop, PV.lay, PV.lays, PV.depth, PV.depths, binop, List.lookup_cons, plainArgs, const1, exn1, fuel1, isDef1, places1, consts1, exns1, bnames, callBuiltin, lenOf, small, canStore, pyEq, PV.toD, PV.toDs, PyData.eqv, PyData.eqvAll, getList, newCell, setCell, slice, bound, cut, textOk, empty_append, andor, oror, andand, orand, strOk_num, strOk_v, strOk_n, strOk_nm, strOk_fr, v_lam, v_app, v_fr, fr_lam, fr_app, v_take, v_drop, fr_take, List.getElem?_append, fieldText, relab, compOk, Vars.comp, B.pv, B.redex] at h2
    cases hb : b.first with
    | none =>
      rw [hb] at h3; simp [evSs, evS, evE, evEs, evT, evA, evB, evC, evO, evI, evF, ofString_inj, ofString_beq, strOk_ofString, strOk_append, M.then, bind_at, pure_at, fail_at, lift_some_at, lift_none_at, ite_at, isGlob, varOf, Vars.of, Vars.setAll, Vars.set, constOf, item, pickAt, cmpop, eqTop, PV.lay, PV.lays, PV.depth, PV.depths, binop, List.lookup_cons, plainArgs, const1, exn1, fuel1, isDef1, places1, consts1, exns1, bnames, callBuiltin, lenOf, small, canStore, pyEq, PV.toD, PV.toDs, PyData.eqv, PyData.eqvAll, getList, newCell, setCell, slice, bound, cut, textOk, empty_append, andor, oror, andand, orand, strOk_num, strOk_v, strOk_n, strOk_nm, strOk_fr, v_lam, v_app, v_fr, fr_lam, fr_app, v_take, v_drop, fr_take, List.getElem?_append, fieldText, relab, compOk, Vars.comp, optPV] at h3
      simp [evSs, evS, evE, evEs, evT, evA, evB, evC, evO, evI, evF, ofString_inj, ofString_beq, strOk_ofString, strOk_append, M.then, bind_at, pure_at, fail_at, lift_some_at, lift_none_at, ite_at, isGlob, varOf, Vars.of, Vars.setAll, Vars.set, constOf, item, pickAt, cmpop, eqTop, PV.lay, PV.lays, PV.depth, PV.depths, binop, List.lookup_cons, plainArgs, const1, exn1, fuel1, isDef1, places1, consts1, exns1, bnames, callBuiltin, lenOf, small, canStore, pyEq, PV.toD, PV.toDs, PyData.eqv, PyData.eqvAll, getList, newCell, setCell, slice, bound, cut, textOk, empty_append, andor, oror, andand, orand, strOk_num, strOk_v, strOk_n, strOk_nm, strOk_fr, v_lam, v_app, v_fr, fr_lam, fr_app, v_take, v_drop, fr_take, List.getElem?_append, fieldText, relab, compOk, Vars.comp, B.pv, h2.at, h3.at, hb, items, forGo, B.first, optPV, stillB, List.range_succ]
    | some q =>
      have hl := first_len b q hb
      have e1 : q.length ≤ 100000 := by omega
      rw [hb] at h3; simp [evSs, evS, evE, evEs, evT, evA, evB, evC, evO, evI, evF, ofString_inj, ofString_beq, strOk_ofString, strOk_append, M.then, bind_at, pure_at, fail_at, lift_some_at, lift_none_at, ite_at, isGlob, varOf, Vars.of, Vars.setAll, Vars.set, constOf, item, pickAt, cmpop, eqTop, PV.lay, PV.lays, PV.depth, PV.depths, binop, List.lookup_cons, plainArgs, const1, exn1, fuel1, isDef1, places1, consts1, exns1, bnames, callBuiltin, lenOf, small, canStore, pyEq, PV.toD, PV.toDs, PyData.eqv, PyData.eqvAll, getList, newCell, setCell, slice, bound, cut, textOk, empty_append, andor, oror, andand, orand, strOk_num, strOk_v, strOk_n, strOk_nm, strOk_fr, v_lam, v_app, v_fr, fr_lam, fr_app, v_take, v_drop, fr_take, List.getElem?_append, fieldText, relab, compOk, Vars.comp, optPV, pathPV] at h3
      simp [evSs, evS, evE, evEs, evT, evA, evB, evC, evO, evI, evF, ofString_inj, ofString_beq, strOk_ofString, strOk_append, M.then, bind_at, pure_at, fail_at, lift_some_at, lift_none_at, ite_at, isGlob, varOf, Vars.of, Vars.setAll, Vars.set, constOf, item, pickAt, cmpop, eqTop, PV.lay, PV.lays, PV.depth, PV.depths, binop, List.lookup_cons, plainArgs, const1, exn1, fuel1, isDef1, places1, consts1, exns1, bnames, callBuiltin, lenOf, small, canStore, pyEq, PV.toD, PV.toDs, PyData.eqv, PyData.eqvAll, getList, newCell, setCell, slice, bound, cut, textOk, empty_append, andor, oror, andand, orand, strOk_num, strOk_v, strOk_n, strOk_nm, strOk_fr, v_lam, v_app, v_fr, fr_lam, fr_app, v_take, v_drop, fr_take, List.getElem?_append, fieldText, relab, compOk, Vars.comp, B.pv, h2.at, h3.at, hb, items, forGo, B.first, optPV, pathPV, stillB, List.range_succ, e1]
  | .app a b, hs => by
    have hz : (B.app a b).size = a.size + b.size + 1 := rfl
    refine calls_of rfl fun n hn σ => ?_
    have h2 := redex_spec (.app a b) n (by omega)
    have h3 := first_spec a (by omega) n (by omega)
    have h4 := first_spec b (by omega) n (by omega)
    unfold callOf
    rw [show defAt PySem.Challenge.pw_pq0040_01 21 = Def.mk _ _ _ from rfl]
    by_cases hr : ∃ c, a = .lam c
    · obtain ⟨c, rfl⟩ := hr
      simp [evSs, evS, evE, evEs, evT, evA, evB, evC, evO, evI, evF, ofString_inj, ofString_beq, strOk_ofString, strOk_append, M.then, bind_at, pure_at, fail_at, lift_some_at, lift_none_at, ite_at, isGlob, varOf, Vars.of, Vars.setAll, Vars.set, constOf, item, pickAt, cmpop, eqTop, PV.lay, PV.lays, PV.depth, PV.depths, binop, List.lookup_cons, plainArgs, const1, exn1, fuel1, isDef1, places1, consts1, exns1, bnames, callBuiltin, lenOf, small, canStore, pyEq, PV.toD, PV.toDs, PyData.eqv, PyData.eqvAll, getList, newCell, setCell, slice, bound, cut, textOk, empty_append, andor, oror, andand, orand, strOk_num, strOk_v, strOk_n, strOk_nm, strOk_fr, v_lam, v_app, v_fr, fr_lam, fr_app, v_take, v_drop, fr_take, List.getElem?_append, fieldText, relab, compOk, Vars.comp, B.pv, B.redex] at h2
      simp [evSs, evS, evE, evEs, evT, evA, evB, evC, evO, evI, evF, ofString_inj, ofString_beq, strOk_ofString, strOk_append, M.then, bind_at, pure_at, fail_at, lift_some_at, lift_none_at, ite_at, isGlob, varOf, Vars.of, Vars.setAll, Vars.set, constOf, item, pickAt, cmpop, eqTop, PV.lay, PV.lays, PV.depth, PV.depths, binop, List.lookup_cons, plainArgs, const1, exn1, fuel1, isDef1, places1, consts1, exns1, bnames, callBuiltin, lenOf, small, canStore, pyEq, PV.toD, PV.toDs, PyData.eqv, PyData.eqvAll, getList, newCell, setCell, slice, bound, cut, textOk, empty_append, andor, oror, andand, orand, strOk_num, strOk_v, strOk_n, strOk_nm, strOk_fr, v_lam, v_app, v_fr, fr_lam, fr_app, v_take, v_drop, fr_take, List.getElem?_append, fieldText, relab, compOk, Vars.comp, B.pv, h2.at, B.first, optPV, pathPV]
    · have e : (B.app a b).first = match a.first with
        | some p => some (0 :: p)
        | none => match b.first with
          | some p => some (1 :: p)
          | none => none := by
        cases a with
        | lam c => exact absurd ⟨c, rfl⟩ hr
        | _ => rfl
      have e2 : (B.app a b).redex = false := by
        cases a with
        | lam c => exact absurd ⟨c, rfl⟩ hr
        | _ => rfl
      rw [e2] at h2
      simp [evSs, evS, evE, evEs, evT, evA, evB, evC, evO, evI, evF, ofString_inj, ofString_beq, strOk_ofString, strOk_append, M.then, bind_at, pure_at, fail_at, lift_some_at, lift_none_at, ite_at, isGlob, varOf, Vars.of, Vars.setAll, Vars.set, constOf, item, pickAt, cmpop, eqTop, PV.lay, PV.lays, PV.depth, PV.depths, binop, List.lookup_cons, plainArgs, const1, exn1, fuel1, isDef1, places1, consts1, exns1, bnames, callBuiltin, lenOf, small, canStore, pyEq, PV.toD, PV.toDs, PyData.eqv, PyData.eqvAll, getList, newCell, setCell, slice, bound, cut, textOk, empty_append, andor, oror, andand, orand, strOk_num, strOk_v, strOk_n, strOk_nm, strOk_fr, v_lam, v_app, v_fr, fr_lam, fr_app, v_take, v_drop, fr_take, List.getElem?_append, fieldText, relab, compOk, Vars.comp, B.pv] at h2
      rw [e]
      cases ha : a.first with
      | some q =>
        have hl := first_len a q ha
        have e1 : q.length ≤ 100000 := by omega
        rw [ha] at h3; simp [evSs, evS, evE, evEs, evT, evA, evB, evC, evO, evI, evF, ofString_inj, ofString_beq, strOk_ofString, strOk_append, M.then, bind_at, pure_at, fail_at, lift_some_at, lift_none_at, ite_at, isGlob, varOf, Vars.of, Vars.setAll, Vars.set, constOf, item, pickAt, cmpop, eqTop, PV.lay, PV.lays, PV.depth, PV.depths, binop, List.lookup_cons, plainArgs, const1, exn1, fuel1, isDef1, places1, consts1, exns1, bnames, callBuiltin, lenOf, small, canStore, pyEq, PV.toD, PV.toDs, PyData.eqv, PyData.eqvAll, getList, newCell, setCell, slice, bound, cut, textOk, empty_append, andor, oror, andand, orand, strOk_num, strOk_v, strOk_n, strOk_nm, strOk_fr, v_lam, v_app, v_fr, fr_lam, fr_app, v_take, v_drop, fr_take, List.getElem?_append, fieldText, relab, compOk, Vars.comp, optPV, pathPV] at h3
        simp [evSs, evS, evE, evEs, evT, evA, evB, evC, evO, evI, evF, ofString_inj, ofString_beq, strOk_ofString, strOk_append, M.then, bind_at, pure_at, fail_at, lift_some_at, lift_none_at, ite_at, isGlob, varOf, Vars.of, Vars.setAll, Vars.set, constOf, item, pickAt, cmpop, eqTop, PV.lay, PV.lays, PV.depth, PV.depths, binop, List.lookup_cons, plainArgs, const1, exn1, fuel1, isDef1, places1, consts1, exns1, bnames, callBuiltin, lenOf, small, canStore, pyEq, PV.toD, PV.toDs, PyData.eqv, PyData.eqvAll, getList, newCell, setCell, slice, bound, cut, textOk, empty_append, andor, oror, andand, orand, strOk_num, strOk_v, strOk_n, strOk_nm, strOk_fr, v_lam, v_app, v_fr, fr_lam, fr_app, v_take, v_drop, fr_take, List.getElem?_append, fieldText, relab, compOk, Vars.comp, B.pv, h2.at, h3.at, items, forGo, optPV, pathPV, stillB, List.range_succ, e1]
      | none =>
        rw [ha] at h3; simp [evSs, evS, evE, evEs, evT, evA, evB, evC, evO, evI, evF, ofString_inj, ofString_beq, strOk_ofString, strOk_append, M.then, bind_at, pure_at, fail_at, lift_some_at, lift_none_at, ite_at, isGlob, varOf, Vars.of, Vars.setAll, Vars.set, constOf, item, pickAt, cmpop, eqTop, PV.lay, PV.lays, PV.depth, PV.depths, binop, List.lookup_cons, plainArgs, const1, exn1, fuel1, isDef1, places1, consts1, exns1, bnames, callBuiltin, lenOf, small, canStore, pyEq, PV.toD, PV.toDs, PyData.eqv, PyData.eqvAll, getList, newCell, setCell, slice, bound, cut, textOk, empty_append, andor, oror, andand, orand, strOk_num, strOk_v, strOk_n, strOk_nm, strOk_fr, v_lam, v_app, v_fr, fr_lam, fr_app, v_take, v_drop, fr_take, List.getElem?_append, fieldText, relab, compOk, Vars.comp, optPV] at h3
        cases hb : b.first with
        | none =>
          rw [hb] at h4; simp [evSs, evS, evE, evEs, evT, evA, evB, evC, evO, evI, evF, ofString_inj, ofString_beq, strOk_ofString, strOk_append, M.then, bind_at, pure_at, fail_at, lift_some_at, lift_none_at, ite_at, isGlob, varOf, Vars.of, Vars.setAll, Vars.set, constOf, item, pickAt, cmpop, eqTop, PV.lay, PV.lays, PV.depth, PV.depths, binop, List.lookup_cons, plainArgs, const1, exn1, fuel1, isDef1, places1, consts1, exns1, bnames, callBuiltin, lenOf, small, canStore, pyEq, PV.toD, PV.toDs, PyData.eqv, PyData.eqvAll, getList, newCell, setCell, slice, bound, cut, textOk, empty_append, andor, oror, andand, orand, strOk_num, strOk_v, strOk_n, strOk_nm, strOk_fr, v_lam, v_app, v_fr, fr_lam, fr_app, v_take, v_drop, fr_take, List.getElem?_append, fieldText, relab, compOk, Vars.comp, optPV] at h4
          simp [evSs, evS, evE, evEs, evT, evA, evB, evC, evO, evI, evF, ofString_inj, ofString_beq, strOk_ofString, strOk_append, M.then, bind_at, pure_at, fail_at, lift_some_at, lift_none_at, ite_at, isGlob, varOf, Vars.of, Vars.setAll, Vars.set, constOf, item, pickAt, cmpop, eqTop, PV.lay, PV.lays, PV.depth, PV.depths, binop, List.lookup_cons, plainArgs, const1, exn1, fuel1, isDef1, places1, consts1, exns1, bnames, callBuiltin, lenOf, small, canStore, pyEq, PV.toD, PV.toDs, PyData.eqv, PyData.eqvAll, getList, newCell, setCell, slice, bound, cut, textOk, empty_append, andor, oror, andand, orand, strOk_num, strOk_v, strOk_n, strOk_nm, strOk_fr, v_lam, v_app, v_fr, fr_lam, fr_app, v_take, v_drop, fr_take, List.getElem?_append, fieldText, relab, compOk, Vars.comp, B.pv, h2.at, h3.at, h4.at, items, forGo, optPV, pathPV, stillB, List.range_succ]
        | some q =>
          have hl := first_len b q hb
          have e1 : q.length ≤ 100000 := by omega
          rw [hb] at h4; simp [evSs, evS, evE, evEs, evT, evA, evB, evC, evO, evI, evF, ofString_inj, ofString_beq, strOk_ofString, strOk_append, M.then, bind_at, pure_at, fail_at, lift_some_at, lift_none_at, ite_at, isGlob, varOf, Vars.of, Vars.setAll, Vars.set, constOf, item, pickAt, cmpop, eqTop, PV.lay, PV.lays, PV.depth, PV.depths, binop, List.lookup_cons, plainArgs, const1, exn1, fuel1, isDef1, places1, consts1, exns1, bnames, callBuiltin, lenOf, small, canStore, pyEq, PV.toD, PV.toDs, PyData.eqv, PyData.eqvAll, getList, newCell, setCell, slice, bound, cut, textOk, empty_append, andor, oror, andand, orand, strOk_num, strOk_v, strOk_n, strOk_nm, strOk_fr, v_lam, v_app, v_fr, fr_lam, fr_app, v_take, v_drop, fr_take, List.getElem?_append, fieldText, relab, compOk, Vars.comp, optPV, pathPV] at h4
          simp [evSs, evS, evE, evEs, evT, evA, evB, evC, evO, evI, evF, ofString_inj, ofString_beq, strOk_ofString, strOk_append, M.then, bind_at, pure_at, fail_at, lift_some_at, lift_none_at, ite_at, isGlob, varOf, Vars.of, Vars.setAll, Vars.set, constOf, item, pickAt, cmpop, eqTop, PV.lay, PV.lays, PV.depth, PV.depths, binop, List.lookup_cons, plainArgs, const1, exn1, fuel1, isDef1, places1, consts1, exns1, bnames, callBuiltin, lenOf, small, canStore, pyEq, PV.toD, PV.toDs, PyData.eqv, PyData.eqvAll, getList, newCell, setCell, slice, bound, cut, textOk, empty_append, andor, oror, andand, orand, strOk_num, strOk_v, strOk_n, strOk_nm, strOk_fr, v_lam, v_app, v_fr, fr_lam, fr_app, v_take, v_drop, fr_take, List.getElem?_append, fieldText, relab, compOk, Vars.comp, B.pv, h2.at, h3.at, h4.at, items, forGo, optPV, pathPV, stillB, List.range_succ, e1]
end Mine

-- P9
namespace Mine
open PySem

theorem B.lay_pv (t : B) : t.pv.lay = true := by
  induction t with
  | var i => simp [evSs, evS, evE, evEs, evT, evA, evB, evC, evO, evI, evF, ofString_inj, ofString_beq, strOk_ofString, strOk_append, M.then, bind_at, pure_at, fail_at, lift_some_at, lift_none_at, ite_at, isGlob, varOf, Vars.of, Vars.setAll, Vars.set, constOf, item, pickAt, cmpop, eqTop, PV.lay, PV.lays, PV.depth, PV.depths, binop, List.lookup_cons, plainArgs, const1, exn1, fuel1, isDef1, places1, consts1, exns1, bnames, callBuiltin, lenOf, small, canStore, pyEq, PV.toD, PV.toDs, PyData.eqv, PyData.eqvAll, getList, newCell, setCell, slice, bound, cut, textOk, empty_append, andor, oror, andand, orand, strOk_num, strOk_v, strOk_n, strOk_nm, strOk_fr, v_lam, v_app, v_fr, fr_lam, fr_app, v_take, v_drop, fr_take, List.getElem?_append, fieldText, relab, compOk, Vars.comp, B.pv]
  | fr k => simp [evSs, evS, evE, evEs, evT, evA, evB, evC, evO, evI, evF, ofString_inj, ofString_beq, strOk_ofString, strOk_append, M.then, bind_at, pure_at, fail_at, lift_some_at, lift_none_at, ite_at, isGlob, varOf, Vars.of, Vars.setAll, Vars.set, constOf, item, pickAt, cmpop, eqTop, PV.lay, PV.lays, PV.depth, PV.depths, binop, List.lookup_cons, plainArgs, const1, exn1, fuel1, isDef1, places1, consts1, exns1, bnames, callBuiltin, lenOf, small, canStore, pyEq, PV.toD, PV.toDs, PyData.eqv, PyData.eqvAll, getList, newCell, setCell, slice, bound, cut, textOk, empty_append, andor, oror, andand, orand, strOk_num, strOk_v, strOk_n, strOk_nm, strOk_fr, v_lam, v_app, v_fr, fr_lam, fr_app, v_take, v_drop, fr_take, List.getElem?_append, fieldText, relab, compOk, Vars.comp, B.pv]
  | lam b ih => simp [evSs, evS, evE, evEs, evT, evA, evB, evC, evO, evI, evF, ofString_inj, ofString_beq, strOk_ofString, strOk_append, M.then, bind_at, pure_at, fail_at, lift_some_at, lift_none_at, ite_at, isGlob, varOf, Vars.of, Vars.setAll, Vars.set, constOf, item, pickAt, cmpop, eqTop, PV.lay, PV.lays, PV.depth, PV.depths, binop, List.lookup_cons, plainArgs, const1, exn1, fuel1, isDef1, places1, consts1, exns1, bnames, callBuiltin, lenOf, small, canStore, pyEq, PV.toD, PV.toDs, PyData.eqv, PyData.eqvAll, getList, newCell, setCell, slice, bound, cut, textOk, empty_append, andor, oror, andand, orand, strOk_num, strOk_v, strOk_n, strOk_nm, strOk_fr, v_lam, v_app, v_fr, fr_lam, fr_app, v_take, v_drop, fr_take, List.getElem?_append, fieldText, relab, compOk, Vars.comp, B.pv, ih]
  | app a b ih1 ih2 => simp [evSs, evS, evE, evEs, evT, evA, evB, evC, evO, evI, evF, ofString_inj, ofString_beq, strOk_ofString, strOk_append, M.then, bind_at, pure_at, fail_at, lift_some_at, lift_none_at, ite_at, isGlob, varOf, Vars.of, Vars.setAll, Vars.set, constOf, item, pickAt, cmpop, eqTop, PV.lay, PV.lays, PV.depth, PV.depths, binop, List.lookup_cons, plainArgs, const1, exn1, fuel1, isDef1, places1, consts1, exns1, bnames, callBuiltin, lenOf, small, canStore, pyEq, PV.toD, PV.toDs, PyData.eqv, PyData.eqvAll, getList, newCell, setCell, slice, bound, cut, textOk, empty_append, andor, oror, andand, orand, strOk_num, strOk_v, strOk_n, strOk_nm, strOk_fr, v_lam, v_app, v_fr, fr_lam, fr_app, v_take, v_drop, fr_take, List.getElem?_append, fieldText, relab, compOk, Vars.comp, B.pv, ih1, ih2]
theorem B.depth_pv (t : B) : t.pv.depth ≤ t.size := by
  induction t with
  | var i => simp [evSs, evS, evE, evEs, evT, evA, evB, evC, evO, evI, evF, ofString_inj, ofString_beq, strOk_ofString, strOk_append, M.then, bind_at, pure_at, fail_at, lift_some_at, lift_none_at, ite_at, isGlob, varOf, Vars.of, Vars.setAll, Vars.set, constOf, item, pickAt, cmpop, eqTop, PV.lay, PV.lays, PV.depth, PV.depths, binop, List.lookup_cons, plainArgs, const1, exn1, fuel1, isDef1, places1, consts1, exns1, bnames, callBuiltin, lenOf, small, canStore, pyEq, PV.toD, PV.toDs, PyData.eqv, PyData.eqvAll, getList, newCell, setCell, slice, bound, cut, textOk, empty_append, andor, oror, andand, orand, strOk_num, strOk_v, strOk_n, strOk_nm, strOk_fr, v_lam, v_app, v_fr, fr_lam, fr_app, v_take, v_drop, fr_take, List.getElem?_append, fieldText, relab, compOk, Vars.comp, B.pv, B.size]
  | fr k => simp [evSs, evS, evE, evEs, evT, evA, evB, evC, evO, evI, evF, ofString_inj, ofString_beq, strOk_ofString, strOk_append, M.then, bind_at, pure_at, fail_at, lift_some_at, lift_none_at, ite_at, isGlob, varOf, Vars.of, Vars.setAll, Vars.set, constOf, item, pickAt, cmpop, eqTop, PV.lay, PV.lays, PV.depth, PV.depths, binop, List.lookup_cons, plainArgs, const1, exn1, fuel1, isDef1, places1, consts1, exns1, bnames, callBuiltin, lenOf, small, canStore, pyEq, PV.toD, PV.toDs, PyData.eqv, PyData.eqvAll, getList, newCell, setCell, slice, bound, cut, textOk, empty_append, andor, oror, andand, orand, strOk_num, strOk_v, strOk_n, strOk_nm, strOk_fr, v_lam, v_app, v_fr, fr_lam, fr_app, v_take, v_drop, fr_take, List.getElem?_append, fieldText, relab, compOk, Vars.comp, B.pv, B.size]
  | lam b ih => simp [evSs, evS, evE, evEs, evT, evA, evB, evC, evO, evI, evF, ofString_inj, ofString_beq, strOk_ofString, strOk_append, M.then, bind_at, pure_at, fail_at, lift_some_at, lift_none_at, ite_at, isGlob, varOf, Vars.of, Vars.setAll, Vars.set, constOf, item, pickAt, cmpop, eqTop, PV.lay, PV.lays, PV.depth, PV.depths, binop, List.lookup_cons, plainArgs, const1, exn1, fuel1, isDef1, places1, consts1, exns1, bnames, callBuiltin, lenOf, small, canStore, pyEq, PV.toD, PV.toDs, PyData.eqv, PyData.eqvAll, getList, newCell, setCell, slice, bound, cut, textOk, empty_append, andor, oror, andand, orand, strOk_num, strOk_v, strOk_n, strOk_nm, strOk_fr, v_lam, v_app, v_fr, fr_lam, fr_app, v_take, v_drop, fr_take, List.getElem?_append, fieldText, relab, compOk, Vars.comp, B.pv, B.size]; omega
  | app a b ih1 ih2 => simp [evSs, evS, evE, evEs, evT, evA, evB, evC, evO, evI, evF, ofString_inj, ofString_beq, strOk_ofString, strOk_append, M.then, bind_at, pure_at, fail_at, lift_some_at, lift_none_at, ite_at, isGlob, varOf, Vars.of, Vars.setAll, Vars.set, constOf, item, pickAt, cmpop, eqTop, PV.lay, PV.lays, PV.depth, PV.depths, binop, List.lookup_cons, plainArgs, const1, exn1, fuel1, isDef1, places1, consts1, exns1, bnames, callBuiltin, lenOf, small, canStore, pyEq, PV.toD, PV.toDs, PyData.eqv, PyData.eqvAll, getList, newCell, setCell, slice, bound, cut, textOk, empty_append, andor, oror, andand, orand, strOk_num, strOk_v, strOk_n, strOk_nm, strOk_fr, v_lam, v_app, v_fr, fr_lam, fr_app, v_take, v_drop, fr_take, List.getElem?_append, fieldText, relab, compOk, Vars.comp, B.pv, B.size]; omega
def onStack (x : B × Nat) : PV := .tup [x.1.pv, .int x.2]
def stackSize : List (B × Nat) → Nat
  | [] => 0
  | x :: r => x.1.size + stackSize r
theorem lays_append (a b : List PV) : PV.lays (a ++ b) = (PV.lays a && PV.lays b) := by
  induction a with
  | nil => simp [evSs, evS, evE, evEs, evT, evA, evB, evC, evO, evI, evF, ofString_inj, ofString_beq, strOk_ofString, strOk_append, M.then, bind_at, pure_at, fail_at, lift_some_at, lift_none_at, ite_at, isGlob, varOf, Vars.of, Vars.setAll, Vars.set, constOf, item, pickAt, cmpop, eqTop, PV.lay, PV.lays, PV.depth, PV.depths, binop, List.lookup_cons, plainArgs, const1, exn1, fuel1, isDef1, places1, consts1, exns1, bnames, callBuiltin, lenOf, small, canStore, pyEq, PV.toD, PV.toDs, PyData.eqv, PyData.eqvAll, getList, newCell, setCell, slice, bound, cut, textOk, empty_append, andor, oror, andand, orand, strOk_num, strOk_v, strOk_n, strOk_nm, strOk_fr, v_lam, v_app, v_fr, fr_lam, fr_app, v_take, v_drop, fr_take, List.getElem?_append, fieldText, relab, compOk, Vars.comp]
  | cons x r ih => simp [evSs, evS, evE, evEs, evT, evA, evB, evC, evO, evI, evF, ofString_inj, ofString_beq, strOk_ofString, strOk_append, M.then, bind_at, pure_at, fail_at, lift_some_at, lift_none_at, ite_at, isGlob, varOf, Vars.of, Vars.setAll, Vars.set, constOf, item, pickAt, cmpop, eqTop, PV.lay, PV.lays, PV.depth, PV.depths, binop, List.lookup_cons, plainArgs, const1, exn1, fuel1, isDef1, places1, consts1, exns1, bnames, callBuiltin, lenOf, small, canStore, pyEq, PV.toD, PV.toDs, PyData.eqv, PyData.eqvAll, getList, newCell, setCell, slice, bound, cut, textOk, empty_append, andor, oror, andand, orand, strOk_num, strOk_v, strOk_n, strOk_nm, strOk_fr, v_lam, v_app, v_fr, fr_lam, fr_app, v_take, v_drop, fr_take, List.getElem?_append, fieldText, relab, compOk, Vars.comp, ih, Bool.and_assoc]
theorem depths_append (a b : List PV) : PV.depths (a ++ b) = max (PV.depths a) (PV.depths b) := by
  induction a with
  | nil => simp [evSs, evS, evE, evEs, evT, evA, evB, evC, evO, evI, evF, ofString_inj, ofString_beq, strOk_ofString, strOk_append, M.then, bind_at, pure_at, fail_at, lift_some_at, lift_none_at, ite_at, isGlob, varOf, Vars.of, Vars.setAll, Vars.set, constOf, item, pickAt, cmpop, eqTop, PV.lay, PV.lays, PV.depth, PV.depths, binop, List.lookup_cons, plainArgs, const1, exn1, fuel1, isDef1, places1, consts1, exns1, bnames, callBuiltin, lenOf, small, canStore, pyEq, PV.toD, PV.toDs, PyData.eqv, PyData.eqvAll, getList, newCell, setCell, slice, bound, cut, textOk, empty_append, andor, oror, andand, orand, strOk_num, strOk_v, strOk_n, strOk_nm, strOk_fr, v_lam, v_app, v_fr, fr_lam, fr_app, v_take, v_drop, fr_take, List.getElem?_append, fieldText, relab, compOk, Vars.comp]
  | cons x r ih => simp [evSs, evS, evE, evEs, evT, evA, evB, evC, evO, evI, evF, ofString_inj, ofString_beq, strOk_ofString, strOk_append, M.then, bind_at, pure_at, fail_at, lift_some_at, lift_none_at, ite_at, isGlob, varOf, Vars.of, Vars.setAll, Vars.set, constOf, item, pickAt, cmpop, eqTop, PV.lay, PV.lays, PV.depth, PV.depths, binop, List.lookup_cons, plainArgs, const1, exn1, fuel1, isDef1, places1, consts1, exns1, bnames, callBuiltin, lenOf, small, canStore, pyEq, PV.toD, PV.toDs, PyData.eqv, PyData.eqvAll, getList, newCell, setCell, slice, bound, cut, textOk, empty_append, andor, oror, andand, orand, strOk_num, strOk_v, strOk_n, strOk_nm, strOk_fr, v_lam, v_app, v_fr, fr_lam, fr_app, v_take, v_drop, fr_take, List.getElem?_append, fieldText, relab, compOk, Vars.comp, ih, Nat.max_assoc]
theorem lays_stack (rs : List (B × Nat)) : PV.lays (rs.map onStack).reverse = true := by
  induction rs with
  | nil => rfl
  | cons x r ih => simp only [List.map_cons, List.reverse_cons, lays_append, ih]; simp [evSs, evS, evE, evEs, evT, evA, evB, evC, evO, evI, evF, ofString_inj, ofString_beq, strOk_ofString, strOk_append, M.then, bind_at, pure_at, fail_at, lift_some_at, lift_none_at, ite_at, isGlob, varOf, Vars.of, Vars.setAll, Vars.set, constOf, item, pickAt, cmpop, eqTop, PV.lay, PV.lays, PV.depth, PV.depths, binop, List.lookup_cons, plainArgs, const1, exn1, fuel1, isDef1, places1, consts1, exns1, bnames, callBuiltin, lenOf, small, canStore, pyEq, PV.toD, PV.toDs, PyData.eqv, PyData.eqvAll, getList, newCell, setCell, slice, bound, cut, textOk, empty_append, andor, oror, andand, orand, strOk_num, strOk_v, strOk_n, strOk_nm, strOk_fr, v_lam, v_app, v_fr, fr_lam, fr_app, v_take, v_drop, fr_take, List.getElem?_append, fieldText, relab, compOk, Vars.comp, onStack, B.lay_pv]
theorem depths_stack (rs : List (B × Nat)) : PV.depths (rs.map onStack).reverse ≤ stackSize rs + 1 := by
  induction rs with
  | nil => simp [evSs, evS, evE, evEs, evT, evA, evB, evC, evO, evI, evF, ofString_inj, ofString_beq, strOk_ofString, strOk_append, M.then, bind_at, pure_at, fail_at, lift_some_at, lift_none_at, ite_at, isGlob, varOf, Vars.of, Vars.setAll, Vars.set, constOf, item, pickAt, cmpop, eqTop, PV.lay, PV.lays, PV.depth, PV.depths, binop, List.lookup_cons, plainArgs, const1, exn1, fuel1, isDef1, places1, consts1, exns1, bnames, callBuiltin, lenOf, small, canStore, pyEq, PV.toD, PV.toDs, PyData.eqv, PyData.eqvAll, getList, newCell, setCell, slice, bound, cut, textOk, empty_append, andor, oror, andand, orand, strOk_num, strOk_v, strOk_n, strOk_nm, strOk_fr, v_lam, v_app, v_fr, fr_lam, fr_app, v_take, v_drop, fr_take, List.getElem?_append, fieldText, relab, compOk, Vars.comp]
  | cons x r ih =>
    have := B.depth_pv x.1
    simp only [List.map_cons, List.reverse_cons, depths_append]
    simp [evSs, evS, evE, evEs, evT, evA, evB, evC, evO, evI, evF, ofString_inj, ofString_beq, strOk_ofString, strOk_append, M.then, bind_at, pure_at, fail_at, lift_some_at, lift_none_at, ite_at, isGlob, varOf, Vars.of, Vars.setAll, Vars.set, constOf, item, pickAt, cmpop, eqTop, PV.lay, PV.lays, PV.depth, PV.depths, binop, List.lookup_cons, plainArgs, const1, exn1, fuel1, isDef1, places1, consts1, exns1, bnames, callBuiltin, lenOf, small, canStore, pyEq, PV.toD, PV.toDs, PyData.eqv, PyData.eqvAll, getList, newCell, setCell, slice, bound, cut, textOk, empty_append, andor, oror, andand, orand, strOk_num, strOk_v, strOk_n, strOk_nm, strOk_fr, v_lam, v_app, v_fr, fr_lam, fr_app, v_take, v_drop, fr_take, List.getElem?_append, fieldText, relab, compOk, Vars.comp, onStack, stackSize]; omega
theorem B.size_pos (t : B) : 1 ≤ t.size := by cases t <;> simp [evSs, evS, evE, evEs, evT, evA, evB, evC, evO, evI, evF, ofString_inj, ofString_beq, strOk_ofString, strOk_append, M.then, bind_at, pure_at, fail_at, lift_some_at, lift_none_at, ite_at, isGlob, varOf, Vars.of, Vars.setAll, Vars.set, constOf, item, pickAt, cmpop, eqTop, PV.lay, PV.lays, PV.depth, PV.depths, binop, List.lookup_cons, plainArgs, const1, exn1, fuel1, isDef1, places1, consts1, exns1, bnames, callBuiltin, lenOf, small, canStore, pyEq, PV.toD, PV.toDs, PyData.eqv, PyData.eqvAll, getList, newCell, setCell, slice, bound, cut, textOk, empty_append, andor, oror, andand, orand, strOk_num, strOk_v, strOk_n, strOk_nm, strOk_fr, v_lam, v_app, v_fr, fr_lam, fr_app, v_take, v_drop, fr_take, List.getElem?_append, fieldText, relab, compOk, Vars.comp, B.size]
theorem eqv_nil (ds : List PV) : PyData.eqvAll (PV.toDs ds) [] = ds.isEmpty := by cases ds <;> rfl

def B.kids : B → List B
  | .var _ => []
  | .fr _ => []
  | .lam b => [b]
  | .app a b => [a, b]
theorem B.pv_kids (t : B) : ∃ w, t.pv = .tup (.str w :: t.kids.map B.pv) := by cases t <;> exact ⟨_, rfl⟩
theorem B.kids_len (t : B) : t.kids.length ≤ 2 := by cases t <;> simp [evSs, evS, evE, evEs, evT, evA, evB, evC, evO, evI, evF, ofString_inj, ofString_beq, strOk_ofString, strOk_append, M.then, bind_at, pure_at, fail_at, lift_some_at, lift_none_at, ite_at, isGlob, varOf, Vars.of, Vars.setAll, Vars.set, constOf, item, pickAt, cmpop, eqTop, PV.lay, PV.lays, PV.depth, PV.depths, binop, List.lookup_cons, plainArgs, const1, exn1, fuel1, isDef1, places1, consts1, exns1, bnames, callBuiltin, lenOf, small, canStore, pyEq, PV.toD, PV.toDs, PyData.eqv, PyData.eqvAll, getList, newCell, setCell, slice, bound, cut, textOk, empty_append, andor, oror, andand, orand, strOk_num, strOk_v, strOk_n, strOk_nm, strOk_fr, v_lam, v_app, v_fr, fr_lam, fr_app, v_take, v_drop, fr_take, List.getElem?_append, fieldText, relab, compOk, Vars.comp, B.kids]
theorem stackSize_append (a b : List (B × Nat)) : stackSize (a ++ b) = stackSize a + stackSize b := by
  induction a with
  | nil => simp [evSs, evS, evE, evEs, evT, evA, evB, evC, evO, evI, evF, ofString_inj, ofString_beq, strOk_ofString, strOk_append, M.then, bind_at, pure_at, fail_at, lift_some_at, lift_none_at, ite_at, isGlob, varOf, Vars.of, Vars.setAll, Vars.set, constOf, item, pickAt, cmpop, eqTop, PV.lay, PV.lays, PV.depth, PV.depths, binop, List.lookup_cons, plainArgs, const1, exn1, fuel1, isDef1, places1, consts1, exns1, bnames, callBuiltin, lenOf, small, canStore, pyEq, PV.toD, PV.toDs, PyData.eqv, PyData.eqvAll, getList, newCell, setCell, slice, bound, cut, textOk, empty_append, andor, oror, andand, orand, strOk_num, strOk_v, strOk_n, strOk_nm, strOk_fr, v_lam, v_app, v_fr, fr_lam, fr_app, v_take, v_drop, fr_take, List.getElem?_append, fieldText, relab, compOk, Vars.comp, stackSize]
  | cons x r ih => simp [evSs, evS, evE, evEs, evT, evA, evB, evC, evO, evI, evF, ofString_inj, ofString_beq, strOk_ofString, strOk_append, M.then, bind_at, pure_at, fail_at, lift_some_at, lift_none_at, ite_at, isGlob, varOf, Vars.of, Vars.setAll, Vars.set, constOf, item, pickAt, cmpop, eqTop, PV.lay, PV.lays, PV.depth, PV.depths, binop, List.lookup_cons, plainArgs, const1, exn1, fuel1, isDef1, places1, consts1, exns1, bnames, callBuiltin, lenOf, small, canStore, pyEq, PV.toD, PV.toDs, PyData.eqv, PyData.eqvAll, getList, newCell, setCell, slice, bound, cut, textOk, empty_append, andor, oror, andand, orand, strOk_num, strOk_v, strOk_n, strOk_nm, strOk_fr, v_lam, v_app, v_fr, fr_lam, fr_app, v_take, v_drop, fr_take, List.getElem?_append, fieldText, relab, compOk, Vars.comp, stackSize, ih]; omega
theorem B.kids_size (t : B) (l : Nat) : stackSize (t.kids.map fun k => (k, l)).reverse + 1 = t.size := by
  cases t <;> simp [evSs, evS, evE, evEs, evT, evA, evB, evC, evO, evI, evF, ofString_inj, ofString_beq, strOk_ofString, strOk_append, M.then, bind_at, pure_at, fail_at, lift_some_at, lift_none_at, ite_at, isGlob, varOf, Vars.of, Vars.setAll, Vars.set, constOf, item, pickAt, cmpop, eqTop, PV.lay, PV.lays, PV.depth, PV.depths, binop, List.lookup_cons, plainArgs, const1, exn1, fuel1, isDef1, places1, consts1, exns1, bnames, callBuiltin, lenOf, small, canStore, pyEq, PV.toD, PV.toDs, PyData.eqv, PyData.eqvAll, getList, newCell, setCell, slice, bound, cut, textOk, empty_append, andor, oror, andand, orand, strOk_num, strOk_v, strOk_n, strOk_nm, strOk_fr, v_lam, v_app, v_fr, fr_lam, fr_app, v_take, v_drop, fr_take, List.getElem?_append, fieldText, relab, compOk, Vars.comp, B.kids, stackSize, B.size] <;> omega
theorem B.kid_size (t : B) : ∀ k ∈ t.kids, k.size + 1 ≤ t.size := by
  cases t <;> simp [evSs, evS, evE, evEs, evT, evA, evB, evC, evO, evI, evF, ofString_inj, ofString_beq, strOk_ofString, strOk_append, M.then, bind_at, pure_at, fail_at, lift_some_at, lift_none_at, ite_at, isGlob, varOf, Vars.of, Vars.setAll, Vars.set, constOf, item, pickAt, cmpop, eqTop, PV.lay, PV.lays, PV.depth, PV.depths, binop, List.lookup_cons, plainArgs, const1, exn1, fuel1, isDef1, places1, consts1, exns1, bnames, callBuiltin, lenOf, small, canStore, pyEq, PV.toD, PV.toDs, PyData.eqv, PyData.eqvAll, getList, newCell, setCell, slice, bound, cut, textOk, empty_append, andor, oror, andand, orand, strOk_num, strOk_v, strOk_n, strOk_nm, strOk_fr, v_lam, v_app, v_fr, fr_lam, fr_app, v_take, v_drop, fr_take, List.getElem?_append, fieldText, relab, compOk, Vars.comp, B.kids, B.size]
theorem all2_map {α : Type} {r : PV → PV → Prop} (f g : α → PV) : ∀ (l : List α), (∀ x ∈ l, r (f x) (g x)) → All2 r (l.map f) (l.map g)
  | [], _ => .nil
  | x :: l, h => .cons (h x (List.mem_cons_self ..)) (all2_map f g l fun y hy => h y (List.mem_cons_of_mem _ hy))
theorem stack_len (rs : List (B × Nat)) : rs.length ≤ stackSize rs := by
  induction rs with
  | nil => simp [evSs, evS, evE, evEs, evT, evA, evB, evC, evO, evI, evF, ofString_inj, ofString_beq, strOk_ofString, strOk_append, M.then, bind_at, pure_at, fail_at, lift_some_at, lift_none_at, ite_at, isGlob, varOf, Vars.of, Vars.setAll, Vars.set, constOf, item, pickAt, cmpop, eqTop, PV.lay, PV.lays, PV.depth, PV.depths, binop, List.lookup_cons, plainArgs, const1, exn1, fuel1, isDef1, places1, consts1, exns1, bnames, callBuiltin, lenOf, small, canStore, pyEq, PV.toD, PV.toDs, PyData.eqv, PyData.eqvAll, getList, newCell, setCell, slice, bound, cut, textOk, empty_append, andor, oror, andand, orand, strOk_num, strOk_v, strOk_n, strOk_nm, strOk_fr, v_lam, v_app, v_fr, fr_lam, fr_app, v_take, v_drop, fr_take, List.getElem?_append, fieldText, relab, compOk, Vars.comp]
  | cons x r ih => have := B.size_pos x.1; simp [evSs, evS, evE, evEs, evT, evA, evB, evC, evO, evI, evF, ofString_inj, ofString_beq, strOk_ofString, strOk_append, M.then, bind_at, pure_at, fail_at, lift_some_at, lift_none_at, ite_at, isGlob, varOf, Vars.of, Vars.setAll, Vars.set, constOf, item, pickAt, cmpop, eqTop, PV.lay, PV.lays, PV.depth, PV.depths, binop, List.lookup_cons, plainArgs, const1, exn1, fuel1, isDef1, places1, consts1, exns1, bnames, callBuiltin, lenOf, small, canStore, pyEq, PV.toD, PV.toDs, PyData.eqv, PyData.eqvAll, getList, newCell, setCell, slice, bound, cut, textOk, empty_append, andor, oror, andand, orand, strOk_num, strOk_v, strOk_n, strOk_nm, strOk_fr, v_lam, v_app, v_fr, fr_lam, fr_app, v_take, v_drop, fr_take, List.getElem?_append, fieldText, relab, compOk, Vars.comp, stackSize]; omega

theorem beyond_spec (t : B) (hs : t.size ≤ 150) : Calls "is_beyond" [t.pv] 1 (.bool false) := by
  refine calls_of rfl fun n hn σ => ?_
  unfold callOf
  rw [show defAt PySem.Challenge.pw_pq0040_01 22 = Def.mk _ _ _ from rfl]
  simp [evSs, evS, evE, evEs, evT, evA, evB, evC, evO, evI, evF, ofString_inj, ofString_beq, strOk_ofString, strOk_append, M.then, bind_at, pure_at, fail_at, lift_some_at, lift_none_at, ite_at, isGlob, varOf, Vars.of, Vars.setAll, Vars.set, constOf, item, pickAt, cmpop, eqTop, PV.lay, PV.lays, PV.depth, PV.depths, binop, List.lookup_cons, plainArgs, const1, exn1, fuel1, isDef1, places1, consts1, exns1, bnames, callBuiltin, lenOf, small, canStore, pyEq, PV.toD, PV.toDs, PyData.eqv, PyData.eqvAll, getList, newCell, setCell, slice, bound, cut, textOk, empty_append, andor, oror, andand, orand, strOk_num, strOk_v, strOk_n, strOk_nm, strOk_fr, v_lam, v_app, v_fr, fr_lam, fr_app, v_take, v_drop, fr_take, List.getElem?_append, fieldText, relab, compOk, Vars.comp, targetNames, tupleOk, constantsAlone]
  generalize hF : whileGo _ _ _ _ _ = F
  obtain ⟨o, rfl, hq⟩ : ∃ o, F = some o ∧ (∃ ρ g, o = .next ρ (σ ++ g)) := by
    refine whileGo_at hF (fun m ρ σ' => ∃ (rs : List (B × Nat)) (many : Nat) (g : Store), ρ "waiting" = some (.ref σ.length) ∧ ρ "many" = some (.int many) ∧ m = stackSize rs ∧ many + stackSize rs ≤ t.size ∧ (∀ x ∈ rs, x.2 + x.1.size ≤ t.size + 1) ∧ σ' = σ ++ .list (rs.map onStack).reverse :: g) _ (m := t.size) (by omega) ?_ ?_
    · refine ⟨[(t, 1)], 0, [], by simp [evSs, evS, evE, evEs, evT, evA, evB, evC, evO, evI, evF, ofString_inj, ofString_beq, strOk_ofString, strOk_append, M.then, bind_at, pure_at, fail_at, lift_some_at, lift_none_at, ite_at, isGlob, varOf, Vars.of, Vars.setAll, Vars.set, constOf, item, pickAt, cmpop, eqTop, PV.lay, PV.lays, PV.depth, PV.depths, binop, List.lookup_cons, plainArgs, const1, exn1, fuel1, isDef1, places1, consts1, exns1, bnames, callBuiltin, lenOf, small, canStore, pyEq, PV.toD, PV.toDs, PyData.eqv, PyData.eqvAll, getList, newCell, setCell, slice, bound, cut, textOk, empty_append, andor, oror, andand, orand, strOk_num, strOk_v, strOk_n, strOk_nm, strOk_fr, v_lam, v_app, v_fr, fr_lam, fr_app, v_take, v_drop, fr_take, List.getElem?_append, fieldText, relab, compOk, Vars.comp], by simp [evSs, evS, evE, evEs, evT, evA, evB, evC, evO, evI, evF, ofString_inj, ofString_beq, strOk_ofString, strOk_append, M.then, bind_at, pure_at, fail_at, lift_some_at, lift_none_at, ite_at, isGlob, varOf, Vars.of, Vars.setAll, Vars.set, constOf, item, pickAt, cmpop, eqTop, PV.lay, PV.lays, PV.depth, PV.depths, binop, List.lookup_cons, plainArgs, const1, exn1, fuel1, isDef1, places1, consts1, exns1, bnames, callBuiltin, lenOf, small, canStore, pyEq, PV.toD, PV.toDs, PyData.eqv, PyData.eqvAll, getList, newCell, setCell, slice, bound, cut, textOk, empty_append, andor, oror, andand, orand, strOk_num, strOk_v, strOk_n, strOk_nm, strOk_fr, v_lam, v_app, v_fr, fr_lam, fr_app, v_take, v_drop, fr_take, List.getElem?_append, fieldText, relab, compOk, Vars.comp], by simp [evSs, evS, evE, evEs, evT, evA, evB, evC, evO, evI, evF, ofString_inj, ofString_beq, strOk_ofString, strOk_append, M.then, bind_at, pure_at, fail_at, lift_some_at, lift_none_at, ite_at, isGlob, varOf, Vars.of, Vars.setAll, Vars.set, constOf, item, pickAt, cmpop, eqTop, PV.lay, PV.lays, PV.depth, PV.depths, binop, List.lookup_cons, plainArgs, const1, exn1, fuel1, isDef1, places1, consts1, exns1, bnames, callBuiltin, lenOf, small, canStore, pyEq, PV.toD, PV.toDs, PyData.eqv, PyData.eqvAll, getList, newCell, setCell, slice, bound, cut, textOk, empty_append, andor, oror, andand, orand, strOk_num, strOk_v, strOk_n, strOk_nm, strOk_fr, v_lam, v_app, v_fr, fr_lam, fr_app, v_take, v_drop, fr_take, List.getElem?_append, fieldText, relab, compOk, Vars.comp, stackSize], by simp [evSs, evS, evE, evEs, evT, evA, evB, evC, evO, evI, evF, ofString_inj, ofString_beq, strOk_ofString, strOk_append, M.then, bind_at, pure_at, fail_at, lift_some_at, lift_none_at, ite_at, isGlob, varOf, Vars.of, Vars.setAll, Vars.set, constOf, item, pickAt, cmpop, eqTop, PV.lay, PV.lays, PV.depth, PV.depths, binop, List.lookup_cons, plainArgs, const1, exn1, fuel1, isDef1, places1, consts1, exns1, bnames, callBuiltin, lenOf, small, canStore, pyEq, PV.toD, PV.toDs, PyData.eqv, PyData.eqvAll, getList, newCell, setCell, slice, bound, cut, textOk, empty_append, andor, oror, andand, orand, strOk_num, strOk_v, strOk_n, strOk_nm, strOk_fr, v_lam, v_app, v_fr, fr_lam, fr_app, v_take, v_drop, fr_take, List.getElem?_append, fieldText, relab, compOk, Vars.comp, stackSize], ?_, by simp [evSs, evS, evE, evEs, evT, evA, evB, evC, evO, evI, evF, ofString_inj, ofString_beq, strOk_ofString, strOk_append, M.then, bind_at, pure_at, fail_at, lift_some_at, lift_none_at, ite_at, isGlob, varOf, Vars.of, Vars.setAll, Vars.set, constOf, item, pickAt, cmpop, eqTop, PV.lay, PV.lays, PV.depth, PV.depths, binop, List.lookup_cons, plainArgs, const1, exn1, fuel1, isDef1, places1, consts1, exns1, bnames, callBuiltin, lenOf, small, canStore, pyEq, PV.toD, PV.toDs, PyData.eqv, PyData.eqvAll, getList, newCell, setCell, slice, bound, cut, textOk, empty_append, andor, oror, andand, orand, strOk_num, strOk_v, strOk_n, strOk_nm, strOk_fr, v_lam, v_app, v_fr, fr_lam, fr_app, v_take, v_drop, fr_take, List.getElem?_append, fieldText, relab, compOk, Vars.comp, onStack]⟩
      intro x hx
      simp [evSs, evS, evE, evEs, evT, evA, evB, evC, evO, evI, evF, ofString_inj, ofString_beq, strOk_ofString, strOk_append, M.then, bind_at, pure_at, fail_at, lift_some_at, lift_none_at, ite_at, isGlob, varOf, Vars.of, Vars.setAll, Vars.set, constOf, item, pickAt, cmpop, eqTop, PV.lay, PV.lays, PV.depth, PV.depths, binop, List.lookup_cons, plainArgs, const1, exn1, fuel1, isDef1, places1, consts1, exns1, bnames, callBuiltin, lenOf, small, canStore, pyEq, PV.toD, PV.toDs, PyData.eqv, PyData.eqvAll, getList, newCell, setCell, slice, bound, cut, textOk, empty_append, andor, oror, andand, orand, strOk_num, strOk_v, strOk_n, strOk_nm, strOk_fr, v_lam, v_app, v_fr, fr_lam, fr_app, v_take, v_drop, fr_take, List.getElem?_append, fieldText, relab, compOk, Vars.comp] at hx; subst hx; simp [evSs, evS, evE, evEs, evT, evA, evB, evC, evO, evI, evF, ofString_inj, ofString_beq, strOk_ofString, strOk_append, M.then, bind_at, pure_at, fail_at, lift_some_at, lift_none_at, ite_at, isGlob, varOf, Vars.of, Vars.setAll, Vars.set, constOf, item, pickAt, cmpop, eqTop, PV.lay, PV.lays, PV.depth, PV.depths, binop, List.lookup_cons, plainArgs, const1, exn1, fuel1, isDef1, places1, consts1, exns1, bnames, callBuiltin, lenOf, small, canStore, pyEq, PV.toD, PV.toDs, PyData.eqv, PyData.eqvAll, getList, newCell, setCell, slice, bound, cut, textOk, empty_append, andor, oror, andand, orand, strOk_num, strOk_v, strOk_n, strOk_nm, strOk_fr, v_lam, v_app, v_fr, fr_lam, fr_app, v_take, v_drop, fr_take, List.getElem?_append, fieldText, relab, compOk, Vars.comp]; omega
    · rintro m ρ σ' ⟨rs, many, g, hw, hm, rfl, hle, hx, rfl⟩
      have hd := depths_stack rs
      have hd2 : PV.depths (rs.map onStack).reverse < 2000 := by omega
      have hcell : (σ ++ Cell.list (rs.map onStack).reverse :: g)[σ.length]? = some (.list (rs.map onStack).reverse) := by simp [evSs, evS, evE, evEs, evT, evA, evB, evC, evO, evI, evF, ofString_inj, ofString_beq, strOk_ofString, strOk_append, M.then, bind_at, pure_at, fail_at, lift_some_at, lift_none_at, ite_at, isGlob, varOf, Vars.of, Vars.setAll, Vars.set, constOf, item, pickAt, cmpop, eqTop, PV.lay, PV.lays, PV.depth, PV.depths, binop, List.lookup_cons, plainArgs, const1, exn1, fuel1, isDef1, places1, consts1, exns1, bnames, callBuiltin, lenOf, small, canStore, pyEq, PV.toD, PV.toDs, PyData.eqv, PyData.eqvAll, getList, newCell, setCell, slice, bound, cut, textOk, empty_append, andor, oror, andand, orand, strOk_num, strOk_v, strOk_n, strOk_nm, strOk_fr, v_lam, v_app, v_fr, fr_lam, fr_app, v_take, v_drop, fr_take, List.getElem?_append, fieldText, relab, compOk, Vars.comp]
      have hlay := lays_stack rs
      refine ⟨!(rs.map onStack).reverse.isEmpty, σ ++ .list (rs.map onStack).reverse :: (g ++ [.list []]), ?_, ?_⟩
      · simp [evSs, evS, evE, evEs, evT, evA, evB, evC, evO, evI, evF, ofString_inj, ofString_beq, strOk_ofString, strOk_append, M.then, bind_at, pure_at, fail_at, lift_some_at, lift_none_at, ite_at, isGlob, varOf, Vars.of, Vars.setAll, Vars.set, constOf, item, pickAt, cmpop, eqTop, PV.lay, PV.lays, PV.depth, PV.depths, binop, List.lookup_cons, plainArgs, const1, exn1, fuel1, isDef1, places1, consts1, exns1, bnames, callBuiltin, lenOf, small, canStore, pyEq, PV.toD, PV.toDs, PyData.eqv, PyData.eqvAll, getList, newCell, setCell, slice, bound, cut, textOk, empty_append, andor, oror, andand, orand, strOk_num, strOk_v, strOk_n, strOk_nm, strOk_fr, v_lam, v_app, v_fr, fr_lam, fr_app, v_take, v_drop, fr_take, List.getElem?_append, fieldText, relab, compOk, Vars.comp, hw, hlay, hd2, eqv_nil]
      · cases rs with
        | nil => exact ⟨ρ, _, rfl⟩
        | cons x rs =>
          obtain ⟨y, l⟩ := x
          have hN := hx (y, l) (List.mem_cons_self ..)
          have hp := B.size_pos y
          have hsl := stack_len rs
          have hkl := B.kids_len y
          have hks := B.kids_size y (l + 1)
          simp [evSs, evS, evE, evEs, evT, evA, evB, evC, evO, evI, evF, ofString_inj, ofString_beq, strOk_ofString, strOk_append, M.then, bind_at, pure_at, fail_at, lift_some_at, lift_none_at, ite_at, isGlob, varOf, Vars.of, Vars.setAll, Vars.set, constOf, item, pickAt, cmpop, eqTop, PV.lay, PV.lays, PV.depth, PV.depths, binop, List.lookup_cons, plainArgs, const1, exn1, fuel1, isDef1, places1, consts1, exns1, bnames, callBuiltin, lenOf, small, canStore, pyEq, PV.toD, PV.toDs, PyData.eqv, PyData.eqvAll, getList, newCell, setCell, slice, bound, cut, textOk, empty_append, andor, oror, andand, orand, strOk_num, strOk_v, strOk_n, strOk_nm, strOk_fr, v_lam, v_app, v_fr, fr_lam, fr_app, v_take, v_drop, fr_take, List.getElem?_append, fieldText, relab, compOk, Vars.comp] at hN
          simp [evSs, evS, evE, evEs, evT, evA, evB, evC, evO, evI, evF, ofString_inj, ofString_beq, strOk_ofString, strOk_append, M.then, bind_at, pure_at, fail_at, lift_some_at, lift_none_at, ite_at, isGlob, varOf, Vars.of, Vars.setAll, Vars.set, constOf, item, pickAt, cmpop, eqTop, PV.lay, PV.lays, PV.depth, PV.depths, binop, List.lookup_cons, plainArgs, const1, exn1, fuel1, isDef1, places1, consts1, exns1, bnames, callBuiltin, lenOf, small, canStore, pyEq, PV.toD, PV.toDs, PyData.eqv, PyData.eqvAll, getList, newCell, setCell, slice, bound, cut, textOk, empty_append, andor, oror, andand, orand, strOk_num, strOk_v, strOk_n, strOk_nm, strOk_fr, v_lam, v_app, v_fr, fr_lam, fr_app, v_take, v_drop, fr_take, List.getElem?_append, fieldText, relab, compOk, Vars.comp, stackSize] at hle
          have e1 : ¬ (20000 : Int) < (many : Int) + 1 := by omega
          have e2 : ¬ (150 : Int) < (l : Int) := by omega
          have e3 : rs.length + 1 ≤ 100000 := by omega
          have e4 : rs.length ≤ 100000 := by omega
          have e5 : y.kids.length + 1 ≤ 100000 := by omega
          have e6 : y.kids.length ≤ 100000 := by omega
          obtain ⟨w, hy⟩ := B.pv_kids y
          have he : ((List.map onStack ((y, l) :: rs)).reverse).isEmpty = false := by simp [evSs, evS, evE, evEs, evT, evA, evB, evC, evO, evI, evF, ofString_inj, ofString_beq, strOk_ofString, strOk_append, M.then, bind_at, pure_at, fail_at, lift_some_at, lift_none_at, ite_at, isGlob, varOf, Vars.of, Vars.setAll, Vars.set, constOf, item, pickAt, cmpop, eqTop, PV.lay, PV.lays, PV.depth, PV.depths, binop, List.lookup_cons, plainArgs, const1, exn1, fuel1, isDef1, places1, consts1, exns1, bnames, callBuiltin, lenOf, small, canStore, pyEq, PV.toD, PV.toDs, PyData.eqv, PyData.eqvAll, getList, newCell, setCell, slice, bound, cut, textOk, empty_append, andor, oror, andand, orand, strOk_num, strOk_v, strOk_n, strOk_nm, strOk_fr, v_lam, v_app, v_fr, fr_lam, fr_app, v_take, v_drop, fr_take, List.getElem?_append, fieldText, relab, compOk, Vars.comp]
          rw [he]
          clear hF
          simp [evSs, evS, evE, evEs, evT, evA, evB, evC, evO, evI, evF, ofString_inj, ofString_beq, strOk_ofString, strOk_append, M.then, bind_at, pure_at, fail_at, lift_some_at, lift_none_at, ite_at, isGlob, varOf, Vars.of, Vars.setAll, Vars.set, constOf, item, pickAt, cmpop, eqTop, PV.lay, PV.lays, PV.depth, PV.depths, binop, List.lookup_cons, plainArgs, const1, exn1, fuel1, isDef1, places1, consts1, exns1, bnames, callBuiltin, lenOf, small, canStore, pyEq, PV.toD, PV.toDs, PyData.eqv, PyData.eqvAll, getList, newCell, setCell, slice, bound, cut, textOk, empty_append, andor, oror, andand, orand, strOk_num, strOk_v, strOk_n, strOk_nm, strOk_fr, v_lam, v_app, v_fr, fr_lam, fr_app, v_take, v_drop, fr_take, List.getElem?_append, fieldText, relab, compOk, Vars.comp, hw, hm, knows, callMethod, onStack, e1, e2, e3, hy, e5]
          rw [(compM_zip (y.kids.map fun k => onStack (k, l + 1)) ?_ (items_tup (xs := y.kids.map B.pv) (by simpa [evSs, evS, evE, evEs, evT, evA, evB, evC, evO, evI, evF, ofString_inj, ofString_beq, strOk_ofString, strOk_append, M.then, bind_at, pure_at, fail_at, lift_some_at, lift_none_at, ite_at, isGlob, varOf, Vars.of, Vars.setAll, Vars.set, constOf, item, pickAt, cmpop, eqTop, PV.lay, PV.lays, PV.depth, PV.depths, binop, List.lookup_cons, plainArgs, const1, exn1, fuel1, isDef1, places1, consts1, exns1, bnames, callBuiltin, lenOf, small, canStore, pyEq, PV.toD, PV.toDs, PyData.eqv, PyData.eqvAll, getList, newCell, setCell, slice, bound, cut, textOk, empty_append, andor, oror, andand, orand, strOk_num, strOk_v, strOk_n, strOk_nm, strOk_fr, v_lam, v_app, v_fr, fr_lam, fr_app, v_take, v_drop, fr_take, List.getElem?_append, fieldText, relab, compOk, Vars.comp] using e6)) (still_tup _ _) (all2_map _ _ _ fun k hk => ⟨?_, ?_⟩)).at]
          · generalize gar _ _ _ = g1
            simp [evSs, evS, evE, evEs, evT, evA, evB, evC, evO, evI, evF, ofString_inj, ofString_beq, strOk_ofString, strOk_append, M.then, bind_at, pure_at, fail_at, lift_some_at, lift_none_at, ite_at, isGlob, varOf, Vars.of, Vars.setAll, Vars.set, constOf, item, pickAt, cmpop, eqTop, PV.lay, PV.lays, PV.depth, PV.depths, binop, List.lookup_cons, plainArgs, const1, exn1, fuel1, isDef1, places1, consts1, exns1, bnames, callBuiltin, lenOf, small, canStore, pyEq, PV.toD, PV.toDs, PyData.eqv, PyData.eqvAll, getList, newCell, setCell, slice, bound, cut, textOk, empty_append, andor, oror, andand, orand, strOk_num, strOk_v, strOk_n, strOk_nm, strOk_fr, v_lam, v_app, v_fr, fr_lam, fr_app, v_take, v_drop, fr_take, List.getElem?_append, fieldText, relab, compOk, Vars.comp, e4, e6]
            refine ⟨_, ?_, hw, (y.kids.map fun k => (k, l + 1)).reverse ++ rs, many + 1, by simp [evSs, evS, evE, evEs, evT, evA, evB, evC, evO, evI, evF, ofString_inj, ofString_beq, strOk_ofString, strOk_append, M.then, bind_at, pure_at, fail_at, lift_some_at, lift_none_at, ite_at, isGlob, varOf, Vars.of, Vars.setAll, Vars.set, constOf, item, pickAt, cmpop, eqTop, PV.lay, PV.lays, PV.depth, PV.depths, binop, List.lookup_cons, plainArgs, const1, exn1, fuel1, isDef1, places1, consts1, exns1, bnames, callBuiltin, lenOf, small, canStore, pyEq, PV.toD, PV.toDs, PyData.eqv, PyData.eqvAll, getList, newCell, setCell, slice, bound, cut, textOk, empty_append, andor, oror, andand, orand, strOk_num, strOk_v, strOk_n, strOk_nm, strOk_fr, v_lam, v_app, v_fr, fr_lam, fr_app, v_take, v_drop, fr_take, List.getElem?_append, fieldText, relab, compOk, Vars.comp], rfl, ?_, ?_, ?_⟩
            · rw [stackSize_append]; simp only [stackSize]; omega
            · rw [stackSize_append]; omega
            · intro a b hab
              rcases List.mem_append.mp hab with h | h
              · obtain ⟨k, hk, e⟩ := List.mem_map.mp (List.mem_reverse.mp h)
                cases e
                have := B.kid_size y _ hk
                omega
              · exact hx (a, b) (List.mem_cons_of_mem _ h)
            · simp [evSs, evS, evE, evEs, evT, evA, evB, evC, evO, evI, evF, ofString_inj, ofString_beq, strOk_ofString, strOk_append, M.then, bind_at, pure_at, fail_at, lift_some_at, lift_none_at, ite_at, isGlob, varOf, Vars.of, Vars.setAll, Vars.set, constOf, item, pickAt, cmpop, eqTop, PV.lay, PV.lays, PV.depth, PV.depths, binop, List.lookup_cons, plainArgs, const1, exn1, fuel1, isDef1, places1, consts1, exns1, bnames, callBuiltin, lenOf, small, canStore, pyEq, PV.toD, PV.toDs, PyData.eqv, PyData.eqvAll, getList, newCell, setCell, slice, bound, cut, textOk, empty_append, andor, oror, andand, orand, strOk_num, strOk_v, strOk_n, strOk_nm, strOk_fr, v_lam, v_app, v_fr, fr_lam, fr_app, v_take, v_drop, fr_take, List.getElem?_append, fieldText, relab, compOk, Vars.comp, Function.comp_def]
          · intro σ; simp [evSs, evS, evE, evEs, evT, evA, evB, evC, evO, evI, evF, ofString_inj, ofString_beq, strOk_ofString, strOk_append, M.then, bind_at, pure_at, fail_at, lift_some_at, lift_none_at, ite_at, isGlob, varOf, Vars.of, Vars.setAll, Vars.set, constOf, item, pickAt, cmpop, eqTop, PV.lay, PV.lays, PV.depth, PV.depths, binop, List.lookup_cons, plainArgs, const1, exn1, fuel1, isDef1, places1, consts1, exns1, bnames, callBuiltin, lenOf, small, canStore, pyEq, PV.toD, PV.toDs, PyData.eqv, PyData.eqvAll, getList, newCell, setCell, slice, bound, cut, textOk, empty_append, andor, oror, andand, orand, strOk_num, strOk_v, strOk_n, strOk_nm, strOk_fr, v_lam, v_app, v_fr, fr_lam, fr_app, v_take, v_drop, fr_take, List.getElem?_append, fieldText, relab, compOk, Vars.comp, e5]
          · exact gives_pure _
          · intro σ; simp [evSs, evS, evE, evEs, evT, evA, evB, evC, evO, evI, evF, ofString_inj, ofString_beq, strOk_ofString, strOk_append, M.then, bind_at, pure_at, fail_at, lift_some_at, lift_none_at, ite_at, isGlob, varOf, Vars.of, Vars.setAll, Vars.set, constOf, item, pickAt, cmpop, eqTop, PV.lay, PV.lays, PV.depth, PV.depths, binop, List.lookup_cons, plainArgs, const1, exn1, fuel1, isDef1, places1, consts1, exns1, bnames, callBuiltin, lenOf, small, canStore, pyEq, PV.toD, PV.toDs, PyData.eqv, PyData.eqvAll, getList, newCell, setCell, slice, bound, cut, textOk, empty_append, andor, oror, andand, orand, strOk_num, strOk_v, strOk_n, strOk_nm, strOk_fr, v_lam, v_app, v_fr, fr_lam, fr_app, v_take, v_drop, fr_take, List.getElem?_append, fieldText, relab, compOk, Vars.comp, onStack]
  obtain ⟨ρ, g, rfl⟩ := hq
  simp [evSs, evS, evE, evEs, evT, evA, evB, evC, evO, evI, evF, ofString_inj, ofString_beq, strOk_ofString, strOk_append, M.then, bind_at, pure_at, fail_at, lift_some_at, lift_none_at, ite_at, isGlob, varOf, Vars.of, Vars.setAll, Vars.set, constOf, item, pickAt, cmpop, eqTop, PV.lay, PV.lays, PV.depth, PV.depths, binop, List.lookup_cons, plainArgs, const1, exn1, fuel1, isDef1, places1, consts1, exns1, bnames, callBuiltin, lenOf, small, canStore, pyEq, PV.toD, PV.toDs, PyData.eqv, PyData.eqvAll, getList, newCell, setCell, slice, bound, cut, textOk, empty_append, andor, oror, andand, orand, strOk_num, strOk_v, strOk_n, strOk_nm, strOk_fr, v_lam, v_app, v_fr, fr_lam, fr_app, v_take, v_drop, fr_take, List.getElem?_append, fieldText, relab, compOk, Vars.comp]
end Mine

-- P10
namespace Mine
open PySem

def B.step : B → Option B
  | .app (.lam c) x => some (c.put 0 x)
  | .app a b => match a.step with
    | some a' => some (.app a' b)
    | none => match b.step with
      | some b' => some (.app a b')
      | none => none
  | .lam b => match b.step with
    | some b' => some (.lam b')
    | none => none
  | _ => none
theorem B.app_first (a b : B) (h : ¬ ∃ c, a = .lam c) : (B.app a b).first = (match a.first with
    | some p => some (0 :: p)
    | none => match b.first with
      | some p => some (1 :: p)
      | none => none) ∧ (B.app a b).step = (match a.step with
    | some a' => some (.app a' b)
    | none => match b.step with
      | some b' => some (.app a b')
      | none => none) := by
  cases a with
  | lam c => exact absurd ⟨c, rfl⟩ h
  | _ => exact ⟨rfl, rfl⟩
/-- the first place and what is made there -/
theorem B.step_first (t : B) : match t.first with
    | none => t.step = none
    | some p => ∃ c x, t.part p = some (.app (.lam c) x) ∧ t.step = some (B.repl (c.put 0 x) t p) ∧ c.size + x.size ≤ t.size ∧ ∀ b, t.vars b → c.vars b ∧ x.vars b := by
  induction t with
  | var i => rfl
  | fr k => rfl
  | lam b ih =>
    unfold B.first B.step
    cases hb : b.first with
    | none => rw [hb] at ih; simp only at ih ⊢; rw [ih]
    | some p =>
      rw [hb] at ih
      obtain ⟨c, x, h1, h2, h3, h4⟩ := ih
      refine ⟨c, x, h1, by rw [h2]; rfl, ?_, h4⟩
      show _ ≤ b.size + 1
      omega
  | app a b ih1 ih2 =>
    by_cases hr : ∃ c, a = .lam c
    · obtain ⟨c, rfl⟩ := hr
      refine ⟨c, b, rfl, rfl, ?_, fun k h => h⟩
      show _ ≤ c.size + 1 + b.size + 1
      omega
    · obtain ⟨e1, e2⟩ := B.app_first a b hr
      rw [e1, e2]
      have hz : (B.app a b).size = a.size + b.size + 1 := rfl
      cases ha : a.first with
      | some p =>
        rw [ha] at ih1
        obtain ⟨c, x, h1, h2, h3, h4⟩ := ih1
        exact ⟨c, x, h1, by rw [h2]; rfl, by omega, fun k h => h4 k h.1⟩
      | none =>
        rw [ha] at ih1
        simp only at ih1
        rw [ih1]
        cases hb : b.first with
        | none => rw [hb] at ih2; simp only at ih2 ⊢; rw [ih2]
        | some p =>
          rw [hb] at ih2
          obtain ⟨c, x, h1, h2, h3, h4⟩ := ih2
          exact ⟨c, x, h1, by rw [h2]; rfl, by omega, fun k h => h4 k h.2⟩

/-- the end of the steps by the first place, and their number -/
inductive Ends : B → Nat → B → Prop where
  | done {t : B} : t.step = none → t.size ≤ 150 → t.vars (10 ^ 6) → Ends t 0 t
  | more {t t' u : B} {n : Nat} : t.step = some t' → t.size ≤ 150 → t.vars (10 ^ 6) → Ends t' n u → Ends t (n + 1) u

def Faults (f : Str) (args : List PV) (k : Nat) (e : Exn) : Prop := ∀ n, k ≤ n → ∀ σ, ∃ g, (T1.at n).call f args σ = some (.exc e (σ ++ g))
theorem faults_of {f : Str} {args : List PV} {k : Nat} {e : Exn} {D : Def} (hD : T1.defs f = some D) (h : ∀ n, k ≤ n → ∀ σ, ∃ g, callOf (T1.at n) D args σ = some (.exc e (σ ++ g))) : Faults f args (k + 1) e := by
  intro n hn
  obtain ⟨m, rfl⟩ : ∃ m, n = m + 1 := ⟨n - 1, by omega⟩
  rw [at_call _ _ _ _ _ hD]
  exact h m (by omega)
theorem length_txt (a : String) : (Str.ofString a).length = a.toList.length := by
  rw [show (Str.ofString a).length = (Str.ofString a).cps.toList.length from Array.length_toList.symm, signs_txt, List.length_map]

theorem normal_loop (t u : B) (n most d : Nat) (h : Ends t n u) (hn : n < 100000) (hd : 199 ≤ d) (σ : Store) : ∃ o, evSs (T1.at d) (defAt PySem.Challenge.pw_pq0040_01 23).names (defAt PySem.Challenge.pw_pq0040_01 23).body (Vars.of (defAt PySem.Challenge.pw_pq0040_01 23).params [t.pv, .int most]) σ = some o ∧
    (if n ≤ most then ∃ g, o = .ret u.pv (σ ++ g) else ∃ ρ g, o = .exc .limit ρ (σ ++ g)) := by
  rw [show defAt PySem.Challenge.pw_pq0040_01 23 = Def.mk _ _ _ from rfl]
  have hm : (Str.ofString "no normal form within what is let").length ≤ 100000 := by rw [length_txt]; decide
  simp [evSs, evS, evE, evEs, evT, evA, evB, evC, evO, evI, evF, ofString_inj, ofString_beq, strOk_ofString, strOk_append, M.then, bind_at, pure_at, fail_at, lift_some_at, lift_none_at, ite_at, isGlob, varOf, Vars.of, Vars.setAll, Vars.set, constOf, item, pickAt, cmpop, eqTop, PV.lay, PV.lays, PV.depth, PV.depths, binop, List.lookup_cons, plainArgs, const1, exn1, fuel1, isDef1, places1, consts1, exns1, bnames, callBuiltin, lenOf, small, canStore, pyEq, PV.toD, PV.toDs, PyData.eqv, PyData.eqvAll, getList, newCell, setCell, slice, bound, cut, textOk, empty_append, andor, oror, andand, orand, strOk_num, strOk_v, strOk_n, strOk_nm, strOk_fr, v_lam, v_app, v_fr, fr_lam, fr_app, v_take, v_drop, fr_take, List.getElem?_append, fieldText, relab, compOk, Vars.comp]
  generalize hF : whileGo _ _ _ _ _ = F
  obtain ⟨o, rfl, hq⟩ : ∃ o, F = some o ∧ (if n ≤ most then ∃ g, o = .ret u.pv (σ ++ g) else ∃ ρ g, o = .next ρ (σ ++ g)) := by
    refine whileGo_at hF (fun m ρ σ' => ∃ (t' : B) (many : Nat), Ends t' m u ∧ many + m = n ∧ ρ "t" = some t'.pv ∧ ρ "many" = some (.int many) ∧ ρ "most" = some (.int most) ∧ many ≤ most ∧ ∃ g, σ' = σ ++ g) _ (m := n) hn ?_ ?_
    · exact ⟨t, 0, h, by omega, by simp [evSs, evS, evE, evEs, evT, evA, evB, evC, evO, evI, evF, ofString_inj, ofString_beq, strOk_ofString, strOk_append, M.then, bind_at, pure_at, fail_at, lift_some_at, lift_none_at, ite_at, isGlob, varOf, Vars.of, Vars.setAll, Vars.set, constOf, item, pickAt, cmpop, eqTop, PV.lay, PV.lays, PV.depth, PV.depths, binop, List.lookup_cons, plainArgs, const1, exn1, fuel1, isDef1, places1, consts1, exns1, bnames, callBuiltin, lenOf, small, canStore, pyEq, PV.toD, PV.toDs, PyData.eqv, PyData.eqvAll, getList, newCell, setCell, slice, bound, cut, textOk, empty_append, andor, oror, andand, orand, strOk_num, strOk_v, strOk_n, strOk_nm, strOk_fr, v_lam, v_app, v_fr, fr_lam, fr_app, v_take, v_drop, fr_take, List.getElem?_append, fieldText, relab, compOk, Vars.comp], by simp [evSs, evS, evE, evEs, evT, evA, evB, evC, evO, evI, evF, ofString_inj, ofString_beq, strOk_ofString, strOk_append, M.then, bind_at, pure_at, fail_at, lift_some_at, lift_none_at, ite_at, isGlob, varOf, Vars.of, Vars.setAll, Vars.set, constOf, item, pickAt, cmpop, eqTop, PV.lay, PV.lays, PV.depth, PV.depths, binop, List.lookup_cons, plainArgs, const1, exn1, fuel1, isDef1, places1, consts1, exns1, bnames, callBuiltin, lenOf, small, canStore, pyEq, PV.toD, PV.toDs, PyData.eqv, PyData.eqvAll, getList, newCell, setCell, slice, bound, cut, textOk, empty_append, andor, oror, andand, orand, strOk_num, strOk_v, strOk_n, strOk_nm, strOk_fr, v_lam, v_app, v_fr, fr_lam, fr_app, v_take, v_drop, fr_take, List.getElem?_append, fieldText, relab, compOk, Vars.comp], by simp [evSs, evS, evE, evEs, evT, evA, evB, evC, evO, evI, evF, ofString_inj, ofString_beq, strOk_ofString, strOk_append, M.then, bind_at, pure_at, fail_at, lift_some_at, lift_none_at, ite_at, isGlob, varOf, Vars.of, Vars.setAll, Vars.set, constOf, item, pickAt, cmpop, eqTop, PV.lay, PV.lays, PV.depth, PV.depths, binop, List.lookup_cons, plainArgs, const1, exn1, fuel1, isDef1, places1, consts1, exns1, bnames, callBuiltin, lenOf, small, canStore, pyEq, PV.toD, PV.toDs, PyData.eqv, PyData.eqvAll, getList, newCell, setCell, slice, bound, cut, textOk, empty_append, andor, oror, andand, orand, strOk_num, strOk_v, strOk_n, strOk_nm, strOk_fr, v_lam, v_app, v_fr, fr_lam, fr_app, v_take, v_drop, fr_take, List.getElem?_append, fieldText, relab, compOk, Vars.comp], by omega, [], by simp [evSs, evS, evE, evEs, evT, evA, evB, evC, evO, evI, evF, ofString_inj, ofString_beq, strOk_ofString, strOk_append, M.then, bind_at, pure_at, fail_at, lift_some_at, lift_none_at, ite_at, isGlob, varOf, Vars.of, Vars.setAll, Vars.set, constOf, item, pickAt, cmpop, eqTop, PV.lay, PV.lays, PV.depth, PV.depths, binop, List.lookup_cons, plainArgs, const1, exn1, fuel1, isDef1, places1, consts1, exns1, bnames, callBuiltin, lenOf, small, canStore, pyEq, PV.toD, PV.toDs, PyData.eqv, PyData.eqvAll, getList, newCell, setCell, slice, bound, cut, textOk, empty_append, andor, oror, andand, orand, strOk_num, strOk_v, strOk_n, strOk_nm, strOk_fr, v_lam, v_app, v_fr, fr_lam, fr_app, v_take, v_drop, fr_take, List.getElem?_append, fieldText, relab, compOk, Vars.comp]⟩
    · clear hF
      rintro m ρ σ' ⟨t', many, hE, hmn, ht, hmany, hmost, hle, g, rfl⟩
      have hsz : t'.size ≤ 150 ∧ t'.vars (10 ^ 6) := by cases hE <;> exact ⟨‹_›, ‹_›⟩
      have h1 := beyond_spec t' hsz.1 d (by omega)
      have h2 := first_spec t' (by omega) d (by omega)
      have hsf := B.step_first t'
      obtain ⟨g1, hg1⟩ := h1 (σ ++ g)
      refine ⟨true, σ ++ (g ++ g1), ?_, ?_⟩
      · simp [evSs, evS, evE, evEs, evT, evA, evB, evC, evO, evI, evF, ofString_inj, ofString_beq, strOk_ofString, strOk_append, M.then, bind_at, pure_at, fail_at, lift_some_at, lift_none_at, ite_at, isGlob, varOf, Vars.of, Vars.setAll, Vars.set, constOf, item, pickAt, cmpop, eqTop, PV.lay, PV.lays, PV.depth, PV.depths, binop, List.lookup_cons, plainArgs, const1, exn1, fuel1, isDef1, places1, consts1, exns1, bnames, callBuiltin, lenOf, small, canStore, pyEq, PV.toD, PV.toDs, PyData.eqv, PyData.eqvAll, getList, newCell, setCell, slice, bound, cut, textOk, empty_append, andor, oror, andand, orand, strOk_num, strOk_v, strOk_n, strOk_nm, strOk_fr, v_lam, v_app, v_fr, fr_lam, fr_app, v_take, v_drop, fr_take, List.getElem?_append, fieldText, relab, compOk, Vars.comp, ht, hg1]
      · cases hf : t'.first with
        | none =>
          rw [hf] at hsf h2
          simp only at hsf
          cases hE with
          | more e _ _ _ => rw [hsf] at e; exact absurd e (by simp [evSs, evS, evE, evEs, evT, evA, evB, evC, evO, evI, evF, ofString_inj, ofString_beq, strOk_ofString, strOk_append, M.then, bind_at, pure_at, fail_at, lift_some_at, lift_none_at, ite_at, isGlob, varOf, Vars.of, Vars.setAll, Vars.set, constOf, item, pickAt, cmpop, eqTop, PV.lay, PV.lays, PV.depth, PV.depths, binop, List.lookup_cons, plainArgs, const1, exn1, fuel1, isDef1, places1, consts1, exns1, bnames, callBuiltin, lenOf, small, canStore, pyEq, PV.toD, PV.toDs, PyData.eqv, PyData.eqvAll, getList, newCell, setCell, slice, bound, cut, textOk, empty_append, andor, oror, andand, orand, strOk_num, strOk_v, strOk_n, strOk_nm, strOk_fr, v_lam, v_app, v_fr, fr_lam, fr_app, v_take, v_drop, fr_take, List.getElem?_append, fieldText, relab, compOk, Vars.comp])
          | done _ _ _ =>
            have e : n ≤ most := by omega
            simp [evSs, evS, evE, evEs, evT, evA, evB, evC, evO, evI, evF, ofString_inj, ofString_beq, strOk_ofString, strOk_append, M.then, bind_at, pure_at, fail_at, lift_some_at, lift_none_at, ite_at, isGlob, varOf, Vars.of, Vars.setAll, Vars.set, constOf, item, pickAt, cmpop, eqTop, PV.lay, PV.lays, PV.depth, PV.depths, binop, List.lookup_cons, plainArgs, const1, exn1, fuel1, isDef1, places1, consts1, exns1, bnames, callBuiltin, lenOf, small, canStore, pyEq, PV.toD, PV.toDs, PyData.eqv, PyData.eqvAll, getList, newCell, setCell, slice, bound, cut, textOk, empty_append, andor, oror, andand, orand, strOk_num, strOk_v, strOk_n, strOk_nm, strOk_fr, v_lam, v_app, v_fr, fr_lam, fr_app, v_take, v_drop, fr_take, List.getElem?_append, fieldText, relab, compOk, Vars.comp, optPV] at h2
            simp [evSs, evS, evE, evEs, evT, evA, evB, evC, evO, evI, evF, ofString_inj, ofString_beq, strOk_ofString, strOk_append, M.then, bind_at, pure_at, fail_at, lift_some_at, lift_none_at, ite_at, isGlob, varOf, Vars.of, Vars.setAll, Vars.set, constOf, item, pickAt, cmpop, eqTop, PV.lay, PV.lays, PV.depth, PV.depths, binop, List.lookup_cons, plainArgs, const1, exn1, fuel1, isDef1, places1, consts1, exns1, bnames, callBuiltin, lenOf, small, canStore, pyEq, PV.toD, PV.toDs, PyData.eqv, PyData.eqvAll, getList, newCell, setCell, slice, bound, cut, textOk, empty_append, andor, oror, andand, orand, strOk_num, strOk_v, strOk_n, strOk_nm, strOk_fr, v_lam, v_app, v_fr, fr_lam, fr_app, v_take, v_drop, fr_take, List.getElem?_append, fieldText, relab, compOk, Vars.comp, ht, h2.at, e]
        | some p =>
          rw [hf] at hsf h2
          obtain ⟨c, x, q1, q2, q3, q4⟩ := hsf
          have hpl := first_len t' p hf
          simp [evSs, evS, evE, evEs, evT, evA, evB, evC, evO, evI, evF, ofString_inj, ofString_beq, strOk_ofString, strOk_append, M.then, bind_at, pure_at, fail_at, lift_some_at, lift_none_at, ite_at, isGlob, varOf, Vars.of, Vars.setAll, Vars.set, constOf, item, pickAt, cmpop, eqTop, PV.lay, PV.lays, PV.depth, PV.depths, binop, List.lookup_cons, plainArgs, const1, exn1, fuel1, isDef1, places1, consts1, exns1, bnames, callBuiltin, lenOf, small, canStore, pyEq, PV.toD, PV.toDs, PyData.eqv, PyData.eqvAll, getList, newCell, setCell, slice, bound, cut, textOk, empty_append, andor, oror, andand, orand, strOk_num, strOk_v, strOk_n, strOk_nm, strOk_fr, v_lam, v_app, v_fr, fr_lam, fr_app, v_take, v_drop, fr_take, List.getElem?_append, fieldText, relab, compOk, Vars.comp, optPV, pathPV] at h2
          cases hE with
          | done e _ _ => rw [q2] at e; exact absurd e (by simp [evSs, evS, evE, evEs, evT, evA, evB, evC, evO, evI, evF, ofString_inj, ofString_beq, strOk_ofString, strOk_append, M.then, bind_at, pure_at, fail_at, lift_some_at, lift_none_at, ite_at, isGlob, varOf, Vars.of, Vars.setAll, Vars.set, constOf, item, pickAt, cmpop, eqTop, PV.lay, PV.lays, PV.depth, PV.depths, binop, List.lookup_cons, plainArgs, const1, exn1, fuel1, isDef1, places1, consts1, exns1, bnames, callBuiltin, lenOf, small, canStore, pyEq, PV.toD, PV.toDs, PyData.eqv, PyData.eqvAll, getList, newCell, setCell, slice, bound, cut, textOk, empty_append, andor, oror, andand, orand, strOk_num, strOk_v, strOk_n, strOk_nm, strOk_fr, v_lam, v_app, v_fr, fr_lam, fr_app, v_take, v_drop, fr_take, List.getElem?_append, fieldText, relab, compOk, Vars.comp])
          | more e _ _ hE' =>
            rename_i t2 n'
            rw [q2] at e
            cases e
            obtain ⟨q5, q6⟩ := q4 _ hsz.2
            have h3 := beta_spec t' c x p 160 (10 ^ 6) q1 (by omega) (B.vars_mono q5 (by decide)) q6 (by omega) (by omega) (by omega) d (by omega)
            simp [evSs, evS, evE, evEs, evT, evA, evB, evC, evO, evI, evF, ofString_inj, ofString_beq, strOk_ofString, strOk_append, M.then, bind_at, pure_at, fail_at, lift_some_at, lift_none_at, ite_at, isGlob, varOf, Vars.of, Vars.setAll, Vars.set, constOf, item, pickAt, cmpop, eqTop, PV.lay, PV.lays, PV.depth, PV.depths, binop, List.lookup_cons, plainArgs, const1, exn1, fuel1, isDef1, places1, consts1, exns1, bnames, callBuiltin, lenOf, small, canStore, pyEq, PV.toD, PV.toDs, PyData.eqv, PyData.eqvAll, getList, newCell, setCell, slice, bound, cut, textOk, empty_append, andor, oror, andand, orand, strOk_num, strOk_v, strOk_n, strOk_nm, strOk_fr, v_lam, v_app, v_fr, fr_lam, fr_app, v_take, v_drop, fr_take, List.getElem?_append, fieldText, relab, compOk, Vars.comp, pathPV] at h3
            by_cases hmm : many = most
            · have e : ¬ n ≤ most := by omega
              have e2 : (many : Int) = (most : Int) := by omega
              simp [evSs, evS, evE, evEs, evT, evA, evB, evC, evO, evI, evF, ofString_inj, ofString_beq, strOk_ofString, strOk_append, M.then, bind_at, pure_at, fail_at, lift_some_at, lift_none_at, ite_at, isGlob, varOf, Vars.of, Vars.setAll, Vars.set, constOf, item, pickAt, cmpop, eqTop, PV.lay, PV.lays, PV.depth, PV.depths, binop, List.lookup_cons, plainArgs, const1, exn1, fuel1, isDef1, places1, consts1, exns1, bnames, callBuiltin, lenOf, small, canStore, pyEq, PV.toD, PV.toDs, PyData.eqv, PyData.eqvAll, getList, newCell, setCell, slice, bound, cut, textOk, empty_append, andor, oror, andand, orand, strOk_num, strOk_v, strOk_n, strOk_nm, strOk_fr, v_lam, v_app, v_fr, fr_lam, fr_app, v_take, v_drop, fr_take, List.getElem?_append, fieldText, relab, compOk, Vars.comp, ht, h2.at, hmany, hmost, e, hmm]
            · have e2 : ((many : Int) = (most : Int)) = False := by simp [evSs, evS, evE, evEs, evT, evA, evB, evC, evO, evI, evF, ofString_inj, ofString_beq, strOk_ofString, strOk_append, M.then, bind_at, pure_at, fail_at, lift_some_at, lift_none_at, ite_at, isGlob, varOf, Vars.of, Vars.setAll, Vars.set, constOf, item, pickAt, cmpop, eqTop, PV.lay, PV.lays, PV.depth, PV.depths, binop, List.lookup_cons, plainArgs, const1, exn1, fuel1, isDef1, places1, consts1, exns1, bnames, callBuiltin, lenOf, small, canStore, pyEq, PV.toD, PV.toDs, PyData.eqv, PyData.eqvAll, getList, newCell, setCell, slice, bound, cut, textOk, empty_append, andor, oror, andand, orand, strOk_num, strOk_v, strOk_n, strOk_nm, strOk_fr, v_lam, v_app, v_fr, fr_lam, fr_app, v_take, v_drop, fr_take, List.getElem?_append, fieldText, relab, compOk, Vars.comp]; omega
              have e3 : ((many : Int) == (most : Int)) = false := by simp [evSs, evS, evE, evEs, evT, evA, evB, evC, evO, evI, evF, ofString_inj, ofString_beq, strOk_ofString, strOk_append, M.then, bind_at, pure_at, fail_at, lift_some_at, lift_none_at, ite_at, isGlob, varOf, Vars.of, Vars.setAll, Vars.set, constOf, item, pickAt, cmpop, eqTop, PV.lay, PV.lays, PV.depth, PV.depths, binop, List.lookup_cons, plainArgs, const1, exn1, fuel1, isDef1, places1, consts1, exns1, bnames, callBuiltin, lenOf, small, canStore, pyEq, PV.toD, PV.toDs, PyData.eqv, PyData.eqvAll, getList, newCell, setCell, slice, bound, cut, textOk, empty_append, andor, oror, andand, orand, strOk_num, strOk_v, strOk_n, strOk_nm, strOk_fr, v_lam, v_app, v_fr, fr_lam, fr_app, v_take, v_drop, fr_take, List.getElem?_append, fieldText, relab, compOk, Vars.comp]; omega
              simp [evSs, evS, evE, evEs, evT, evA, evB, evC, evO, evI, evF, ofString_inj, ofString_beq, strOk_ofString, strOk_append, M.then, bind_at, pure_at, fail_at, lift_some_at, lift_none_at, ite_at, isGlob, varOf, Vars.of, Vars.setAll, Vars.set, constOf, item, pickAt, cmpop, eqTop, PV.lay, PV.lays, PV.depth, PV.depths, binop, List.lookup_cons, plainArgs, const1, exn1, fuel1, isDef1, places1, consts1, exns1, bnames, callBuiltin, lenOf, small, canStore, pyEq, PV.toD, PV.toDs, PyData.eqv, PyData.eqvAll, getList, newCell, setCell, slice, bound, cut, textOk, empty_append, andor, oror, andand, orand, strOk_num, strOk_v, strOk_n, strOk_nm, strOk_fr, v_lam, v_app, v_fr, fr_lam, fr_app, v_take, v_drop, fr_take, List.getElem?_append, fieldText, relab, compOk, Vars.comp, ht, h2.at, h3.at, hmany, hmost, e2, e3, targetNames, tupleOk, constantsAlone]
              exact ⟨_, Nat.lt_succ_self _, _, hE', many + 1, by omega, rfl, by simp [evSs, evS, evE, evEs, evT, evA, evB, evC, evO, evI, evF, ofString_inj, ofString_beq, strOk_ofString, strOk_append, M.then, bind_at, pure_at, fail_at, lift_some_at, lift_none_at, ite_at, isGlob, varOf, Vars.of, Vars.setAll, Vars.set, constOf, item, pickAt, cmpop, eqTop, PV.lay, PV.lays, PV.depth, PV.depths, binop, List.lookup_cons, plainArgs, const1, exn1, fuel1, isDef1, places1, consts1, exns1, bnames, callBuiltin, lenOf, small, canStore, pyEq, PV.toD, PV.toDs, PyData.eqv, PyData.eqvAll, getList, newCell, setCell, slice, bound, cut, textOk, empty_append, andor, oror, andand, orand, strOk_num, strOk_v, strOk_n, strOk_nm, strOk_fr, v_lam, v_app, v_fr, fr_lam, fr_app, v_take, v_drop, fr_take, List.getElem?_append, fieldText, relab, compOk, Vars.comp], by omega⟩
  by_cases hnm : n ≤ most
  · rw [if_pos hnm] at hq
    obtain ⟨g, rfl⟩ := hq
    refine ⟨_, rfl, ?_⟩
    rw [if_pos hnm]
    exact ⟨g, rfl⟩
  · rw [if_neg hnm] at hq
    obtain ⟨ρ, g, rfl⟩ := hq
    refine ⟨.exc .limit ρ (σ ++ g), by simp [evSs, evS, evE, evEs, evT, evA, evB, evC, evO, evI, evF, ofString_inj, ofString_beq, strOk_ofString, strOk_append, M.then, bind_at, pure_at, fail_at, lift_some_at, lift_none_at, ite_at, isGlob, varOf, Vars.of, Vars.setAll, Vars.set, constOf, item, pickAt, cmpop, eqTop, PV.lay, PV.lays, PV.depth, PV.depths, binop, List.lookup_cons, plainArgs, const1, exn1, fuel1, isDef1, places1, consts1, exns1, bnames, callBuiltin, lenOf, small, canStore, pyEq, PV.toD, PV.toDs, PyData.eqv, PyData.eqvAll, getList, newCell, setCell, slice, bound, cut, textOk, empty_append, andor, oror, andand, orand, strOk_num, strOk_v, strOk_n, strOk_nm, strOk_fr, v_lam, v_app, v_fr, fr_lam, fr_app, v_take, v_drop, fr_take, List.getElem?_append, fieldText, relab, compOk, Vars.comp, hm], ?_⟩
    rw [if_neg hnm]
    exact ⟨_, _, rfl⟩
theorem normal_ok (t u : B) (n most : Nat) (h : Ends t n u) (hn : n < 100000) (hm : n ≤ most) : Calls "normal" [t.pv, .int most] 200 u.pv := by
  refine calls_of rfl fun d hd σ => ?_
  obtain ⟨o, ho, hq⟩ := normal_loop t u n most d h hn hd σ
  rw [if_pos hm] at hq
  obtain ⟨g, rfl⟩ := hq
  unfold callOf
  have e : [t.pv, PV.int (most : Int)].length = (defAt PySem.Challenge.pw_pq0040_01 23).params.length := rfl
  rw [if_pos e, ho]
  exact ⟨g, rfl⟩
theorem normal_not (t u : B) (n most : Nat) (h : Ends t n u) (hn : n < 100000) (hm : ¬ n ≤ most) : Faults "normal" [t.pv, .int most] 200 .limit := by
  refine faults_of rfl fun d hd σ => ?_
  obtain ⟨o, ho, hq⟩ := normal_loop t u n most d h hn hd σ
  rw [if_neg hm] at hq
  obtain ⟨ρ, g, rfl⟩ := hq
  unfold callOf
  have e : [t.pv, PV.int (most : Int)].length = (defAt PySem.Challenge.pw_pq0040_01 23).params.length := rfl
  rw [if_pos e, ho]
  exact ⟨g, rfl⟩

theorem told_spec (t u t' u' : B) (n k most : Nat) (h1 : Ends t n t') (h2 : Ends u k u') (hn : n < 100000) (hk : k < 100000) (ht : t'.size ≤ 150) :
    Calls "_law_told" [t.pv, u.pv, .int most] 202 (if n ≤ most ∧ k ≤ most then .bool (PyData.eqv t'.pv.toD u'.pv.toD) else .none) := by
  have hd := B.depth_pv t'
  have hdp : t'.pv.depth < 2000 := by omega
  have l1 := B.lay_pv t'
  have l2 := B.lay_pv u'
  by_cases hm : n ≤ most ∧ k ≤ most
  · rw [if_pos hm]
    have ha : Calls "alike_to" [t.pv, u.pv, .int most] 201 (.bool (PyData.eqv t'.pv.toD u'.pv.toD)) := by
      refine calls_of rfl fun d hd σ => ?_
      have q1 := normal_ok t t' n most h1 hn hm.1 d hd
      have q2 := normal_ok u u' k most h2 hk hm.2 d hd
      unfold callOf
      rw [show defAt PySem.Challenge.pw_pq0040_01 24 = Def.mk _ _ _ from rfl]
      have e : ∀ σ, eqTop t'.pv u'.pv σ = some (.ok (PyData.eqv t'.pv.toD u'.pv.toD) σ) := by
        intro σ
        obtain ⟨w1, e1⟩ := B.pv_kids t'
        obtain ⟨w2, e2⟩ := B.pv_kids u'
        unfold eqTop
        rw [e1] at l1 hdp ⊢
        rw [e2] at l2 ⊢
        show (if _ then _ else _) = _
        rw [l1, l2, decide_eq_true hdp]
        rfl
      simp [evSs, evS, evE, evEs, evT, evA, evB, evC, evO, evI, evF, ofString_inj, ofString_beq, strOk_ofString, strOk_append, M.then, bind_at, pure_at, fail_at, lift_some_at, lift_none_at, ite_at, isGlob, varOf, Vars.of, Vars.setAll, Vars.set, constOf, item, pickAt, cmpop, eqTop, PV.lay, PV.lays, PV.depth, PV.depths, binop, List.lookup_cons, plainArgs, const1, exn1, fuel1, isDef1, places1, consts1, exns1, bnames, callBuiltin, lenOf, small, canStore, pyEq, PV.toD, PV.toDs, PyData.eqv, PyData.eqvAll, getList, newCell, setCell, slice, bound, cut, textOk, empty_append, andor, oror, andand, orand, strOk_num, strOk_v, strOk_n, strOk_nm, strOk_fr, v_lam, v_app, v_fr, fr_lam, fr_app, v_take, v_drop, fr_take, List.getElem?_append, fieldText, relab, compOk, Vars.comp, -eqTop, q1.at, q2.at, e]
    refine calls_of rfl fun d hd σ => ?_
    have hA := ha d hd
    unfold callOf
    rw [show defAt PySem.Challenge.pw_pq0040_01 38 = Def.mk _ _ _ from rfl]
    simp [evSs, evS, evE, evEs, evT, evA, evB, evC, evO, evI, evF, ofString_inj, ofString_beq, strOk_ofString, strOk_append, M.then, bind_at, pure_at, fail_at, lift_some_at, lift_none_at, ite_at, isGlob, varOf, Vars.of, Vars.setAll, Vars.set, constOf, item, pickAt, cmpop, eqTop, PV.lay, PV.lays, PV.depth, PV.depths, binop, List.lookup_cons, plainArgs, const1, exn1, fuel1, isDef1, places1, consts1, exns1, bnames, callBuiltin, lenOf, small, canStore, pyEq, PV.toD, PV.toDs, PyData.eqv, PyData.eqvAll, getList, newCell, setCell, slice, bound, cut, textOk, empty_append, andor, oror, andand, orand, strOk_num, strOk_v, strOk_n, strOk_nm, strOk_fr, v_lam, v_app, v_fr, fr_lam, fr_app, v_take, v_drop, fr_take, List.getElem?_append, fieldText, relab, compOk, Vars.comp, hA.at]
  · rw [if_neg hm]
    have ha : Faults "alike_to" [t.pv, u.pv, .int most] 201 .limit := by
      refine faults_of rfl fun d hd σ => ?_
      unfold callOf
      rw [show defAt PySem.Challenge.pw_pq0040_01 24 = Def.mk _ _ _ from rfl]
      by_cases hm1 : n ≤ most
      · have q1 := normal_ok t t' n most h1 hn hm1 d hd
        obtain ⟨g1, hg1⟩ := q1 σ
        obtain ⟨g2, hg2⟩ := normal_not u u' k most h2 hk (fun h => hm ⟨hm1, h⟩) d hd (σ ++ g1)
        simp [evSs, evS, evE, evEs, evT, evA, evB, evC, evO, evI, evF, ofString_inj, ofString_beq, strOk_ofString, strOk_append, M.then, bind_at, pure_at, fail_at, lift_some_at, lift_none_at, ite_at, isGlob, varOf, Vars.of, Vars.setAll, Vars.set, constOf, item, pickAt, cmpop, eqTop, PV.lay, PV.lays, PV.depth, PV.depths, binop, List.lookup_cons, plainArgs, const1, exn1, fuel1, isDef1, places1, consts1, exns1, bnames, callBuiltin, lenOf, small, canStore, pyEq, PV.toD, PV.toDs, PyData.eqv, PyData.eqvAll, getList, newCell, setCell, slice, bound, cut, textOk, empty_append, andor, oror, andand, orand, strOk_num, strOk_v, strOk_n, strOk_nm, strOk_fr, v_lam, v_app, v_fr, fr_lam, fr_app, v_take, v_drop, fr_take, List.getElem?_append, fieldText, relab, compOk, Vars.comp] at hg2
        simp [evSs, evS, evE, evEs, evT, evA, evB, evC, evO, evI, evF, ofString_inj, ofString_beq, strOk_ofString, strOk_append, M.then, bind_at, pure_at, fail_at, lift_some_at, lift_none_at, ite_at, isGlob, varOf, Vars.of, Vars.setAll, Vars.set, constOf, item, pickAt, cmpop, eqTop, PV.lay, PV.lays, PV.depth, PV.depths, binop, List.lookup_cons, plainArgs, const1, exn1, fuel1, isDef1, places1, consts1, exns1, bnames, callBuiltin, lenOf, small, canStore, pyEq, PV.toD, PV.toDs, PyData.eqv, PyData.eqvAll, getList, newCell, setCell, slice, bound, cut, textOk, empty_append, andor, oror, andand, orand, strOk_num, strOk_v, strOk_n, strOk_nm, strOk_fr, v_lam, v_app, v_fr, fr_lam, fr_app, v_take, v_drop, fr_take, List.getElem?_append, fieldText, relab, compOk, Vars.comp, hg1, hg2]
      · obtain ⟨g1, hg1⟩ := normal_not t t' n most h1 hn hm1 d hd σ
        simp [evSs, evS, evE, evEs, evT, evA, evB, evC, evO, evI, evF, ofString_inj, ofString_beq, strOk_ofString, strOk_append, M.then, bind_at, pure_at, fail_at, lift_some_at, lift_none_at, ite_at, isGlob, varOf, Vars.of, Vars.setAll, Vars.set, constOf, item, pickAt, cmpop, eqTop, PV.lay, PV.lays, PV.depth, PV.depths, binop, List.lookup_cons, plainArgs, const1, exn1, fuel1, isDef1, places1, consts1, exns1, bnames, callBuiltin, lenOf, small, canStore, pyEq, PV.toD, PV.toDs, PyData.eqv, PyData.eqvAll, getList, newCell, setCell, slice, bound, cut, textOk, empty_append, andor, oror, andand, orand, strOk_num, strOk_v, strOk_n, strOk_nm, strOk_fr, v_lam, v_app, v_fr, fr_lam, fr_app, v_take, v_drop, fr_take, List.getElem?_append, fieldText, relab, compOk, Vars.comp, hg1]
    refine calls_of rfl fun d hd σ => ?_
    obtain ⟨g, hg⟩ := ha d hd σ
    unfold callOf
    rw [show defAt PySem.Challenge.pw_pq0040_01 38 = Def.mk _ _ _ from rfl]
    simp [evSs, evS, evE, evEs, evT, evA, evB, evC, evO, evI, evF, ofString_inj, ofString_beq, strOk_ofString, strOk_append, M.then, bind_at, pure_at, fail_at, lift_some_at, lift_none_at, ite_at, isGlob, varOf, Vars.of, Vars.setAll, Vars.set, constOf, item, pickAt, cmpop, eqTop, PV.lay, PV.lays, PV.depth, PV.depths, binop, List.lookup_cons, plainArgs, const1, exn1, fuel1, isDef1, places1, consts1, exns1, bnames, callBuiltin, lenOf, small, canStore, pyEq, PV.toD, PV.toDs, PyData.eqv, PyData.eqvAll, getList, newCell, setCell, slice, bound, cut, textOk, empty_append, andor, oror, andand, orand, strOk_num, strOk_v, strOk_n, strOk_nm, strOk_fr, v_lam, v_app, v_fr, fr_lam, fr_app, v_take, v_drop, fr_take, List.getElem?_append, fieldText, relab, compOk, Vars.comp, hg]
end Mine

-- P11
namespace Mine
open PySem

theorem each_in (P : Store → Prop) (hP : ∀ σ g, P σ → P (σ ++ g)) {f : PV → M (Option PV)} {α : Type} (q : α → PV) (o : α → Option PV) : ∀ (l : List α), (∀ x ∈ l, ∀ σ, P σ → ∃ g, f (q x) σ = some (.ok (o x) (σ ++ g))) →
    ∀ σ, P σ → ∃ g, each f (l.map q) σ = some (.ok (l.flatMap fun x => (o x).toList) (σ ++ g))
  | [], _, σ, _ => ⟨[], by rw [List.append_nil]; rfl⟩
  | x :: l, h, σ, hσ => by
    obtain ⟨g1, h1⟩ := h x (List.mem_cons_self ..) σ hσ
    obtain ⟨g2, h2⟩ := each_in P hP q o l (fun y hy => h y (List.mem_cons_of_mem _ hy)) (σ ++ g1) (hP _ _ hσ)
    refine ⟨g1 ++ g2, ?_⟩
    show (f (q x) >>= fun v => each f (l.map q) >>= fun vs => pure (v.toList ++ vs)) σ = _
    rw [bind_at, h1]
    simp only [bind_at]
    rw [h2]
    simp only [pure_at, List.flatMap_cons, List.append_assoc]
theorem flat_filter2 {α : Type} (b : α → Bool) (e : α → PV) : ∀ l : List α, (l.flatMap fun d => (if b d = true then some (e d) else .none : Option PV).toList) = (l.filter b).map e
  | [] => rfl
  | d :: r => by
    rw [List.flatMap_cons, flat_filter2 b e r]
    cases h : b d <;> simp [evSs, evS, evE, evEs, evT, evA, evB, evC, evO, evI, evF, ofString_inj, ofString_beq, strOk_ofString, strOk_append, M.then, bind_at, pure_at, fail_at, lift_some_at, lift_none_at, ite_at, isGlob, varOf, Vars.of, Vars.setAll, Vars.set, constOf, item, pickAt, cmpop, eqTop, PV.lay, PV.lays, PV.depth, PV.depths, binop, List.lookup_cons, plainArgs, const1, exn1, fuel1, isDef1, places1, consts1, exns1, bnames, callBuiltin, lenOf, small, canStore, pyEq, PV.toD, PV.toDs, PyData.eqv, PyData.eqvAll, getList, newCell, setCell, slice, bound, cut, textOk, empty_append, andor, oror, andand, orand, strOk_num, strOk_v, strOk_n, strOk_nm, strOk_fr, v_lam, v_app, v_fr, fr_lam, fr_app, v_take, v_drop, fr_take, List.getElem?_append, fieldText, relab, compOk, Vars.comp, h]
/-- a comprehension over a list that stands -/
theorem compM_refs_at (σ : Store) {src : M PV} {test : PV → M Bool} {elt : PV → M PV} {α : Type} (l : List α) (q e : α → PV) (p : α → Bool) (hs : ∃ g m, src σ = some (.ok (.ref m) (σ ++ g)) ∧ (σ ++ g)[m]? = some (.list (l.map q))) (hl : l.length ≤ 100000)
    (ht : ∀ x ∈ l, Gives (test (q x)) (p x)) (he : ∀ x ∈ l, p x = true → Gives (elt (q x)) (e x)) : ∃ g, compM src test elt σ = some (.ok ((l.filter p).map e) (σ ++ g)) := by
  obtain ⟨g, m, h1, h2⟩ := hs
  have hi : items (.ref m) (σ ++ g) = some (.ok (l.map q) (σ ++ g)) := by
    show (getList m >>= _) (σ ++ g) = _
    rw [bind_at]
    unfold getList
    rw [h2]
    simp only [small, List.length_map, decide_eq_true hl, ↓reduceIte, pure_at]
  have hst : ∀ σ' : Store, σ'[m]? = some (.list (l.map q)) → still (.ref m) (l.map q) σ' = some (.ok ⟨⟩ σ') := by
    intro σ' h
    unfold still
    exact if_pos ⟨_, h, rfl⟩
  have hP : ∀ (σ' g' : Store), σ'[m]? = some (.list (l.map q)) → (σ' ++ g')[m]? = some (.list (l.map q)) := by
    intro σ' g' h
    rw [List.getElem?_append_left (List.getElem?_eq_some_iff.mp h).1]; exact h
  obtain ⟨g3, h3⟩ := each_in (f := fun d => do
      let ok ← test d
      let r ← (if ok then do let v ← elt d; pure (some v) else pure .none)
      let _ ← still (.ref m) (l.map q)
      pure r) (fun σ' => σ'[m]? = some (.list (l.map q))) hP q (fun x => if p x = true then some (e x) else .none) l (by
    intro x hx σ' hσ'
    obtain ⟨g4, h4⟩ := ht x hx σ'
    cases hp : p x with
    | false =>
      rw [hp] at h4
      exact ⟨g4, by simp [evSs, evS, evE, evEs, evT, evA, evB, evC, evO, evI, evF, ofString_inj, ofString_beq, strOk_ofString, strOk_append, M.then, bind_at, pure_at, fail_at, lift_some_at, lift_none_at, ite_at, isGlob, varOf, Vars.of, Vars.setAll, Vars.set, constOf, item, pickAt, cmpop, eqTop, PV.lay, PV.lays, PV.depth, PV.depths, binop, List.lookup_cons, plainArgs, const1, exn1, fuel1, isDef1, places1, consts1, exns1, bnames, callBuiltin, lenOf, small, canStore, pyEq, PV.toD, PV.toDs, PyData.eqv, PyData.eqvAll, getList, newCell, setCell, slice, bound, cut, textOk, empty_append, andor, oror, andand, orand, strOk_num, strOk_v, strOk_n, strOk_nm, strOk_fr, v_lam, v_app, v_fr, fr_lam, fr_app, v_take, v_drop, fr_take, List.getElem?_append, fieldText, relab, compOk, Vars.comp, h4, hst _ (hP _ _ hσ')]⟩
    | true =>
      rw [hp] at h4
      obtain ⟨g5, h5⟩ := he x hx hp (σ' ++ g4)
      simp [evSs, evS, evE, evEs, evT, evA, evB, evC, evO, evI, evF, ofString_inj, ofString_beq, strOk_ofString, strOk_append, M.then, bind_at, pure_at, fail_at, lift_some_at, lift_none_at, ite_at, isGlob, varOf, Vars.of, Vars.setAll, Vars.set, constOf, item, pickAt, cmpop, eqTop, PV.lay, PV.lays, PV.depth, PV.depths, binop, List.lookup_cons, plainArgs, const1, exn1, fuel1, isDef1, places1, consts1, exns1, bnames, callBuiltin, lenOf, small, canStore, pyEq, PV.toD, PV.toDs, PyData.eqv, PyData.eqvAll, getList, newCell, setCell, slice, bound, cut, textOk, empty_append, andor, oror, andand, orand, strOk_num, strOk_v, strOk_n, strOk_nm, strOk_fr, v_lam, v_app, v_fr, fr_lam, fr_app, v_take, v_drop, fr_take, List.getElem?_append, fieldText, relab, compOk, Vars.comp] at h5
      exact ⟨g4 ++ g5, by simp [evSs, evS, evE, evEs, evT, evA, evB, evC, evO, evI, evF, ofString_inj, ofString_beq, strOk_ofString, strOk_append, M.then, bind_at, pure_at, fail_at, lift_some_at, lift_none_at, ite_at, isGlob, varOf, Vars.of, Vars.setAll, Vars.set, constOf, item, pickAt, cmpop, eqTop, PV.lay, PV.lays, PV.depth, PV.depths, binop, List.lookup_cons, plainArgs, const1, exn1, fuel1, isDef1, places1, consts1, exns1, bnames, callBuiltin, lenOf, small, canStore, pyEq, PV.toD, PV.toDs, PyData.eqv, PyData.eqvAll, getList, newCell, setCell, slice, bound, cut, textOk, empty_append, andor, oror, andand, orand, strOk_num, strOk_v, strOk_n, strOk_nm, strOk_fr, v_lam, v_app, v_fr, fr_lam, fr_app, v_take, v_drop, fr_take, List.getElem?_append, fieldText, relab, compOk, Vars.comp, h4, h5, hst _ (hP _ (g4 ++ g5) hσ')]⟩) (σ ++ g) h2
  refine ⟨g ++ g3, ?_⟩
  unfold compM
  rw [bind_at, h1]
  simp only [bind_at, hi, quiet]
  rw [h3]
  simp only [flat_filter2, List.append_assoc]

theorem compM_refs {src : M PV} {test : PV → M Bool} {elt : PV → M PV} {α : Type} (l : List α) (q e : α → PV) (p : α → Bool) (hs : ∀ σ, ∃ g m, src σ = some (.ok (.ref m) (σ ++ g)) ∧ (σ ++ g)[m]? = some (.list (l.map q))) (hl : l.length ≤ 100000)
    (ht : ∀ x ∈ l, Gives (test (q x)) (p x)) (he : ∀ x ∈ l, p x = true → Gives (elt (q x)) (e x)) : Gives (compM src test elt) ((l.filter p).map e) :=
  fun σ => compM_refs_at σ l q e p (hs σ) hl ht he
theorem gar_at {α : Type} {m : M α} {v : α} {σ : Store} (h : ∃ g, m σ = some (.ok v (σ ++ g))) : m σ = some (.ok v (σ ++ gar m v σ)) := by
  unfold gar; rw [dif_pos h]; exact h.choose_spec

/-- the call gives a list that is new -/
def CallsL (f : Str) (args : List PV) (k : Nat) (ds : List PV) : Prop := ∀ n, k ≤ n → ∀ σ, ∃ g m, (T1.at n).call f args σ = some (.ok (.ref m) (σ ++ g)) ∧ (σ ++ g)[m]? = some (.list ds)

def T.kid : T → Nat → Option T
  | .lam _ b, 2 => some b
  | .app a _, 1 => some a
  | .app _ b, 2 => some b
  | _, _ => none
def T.part : T → List Nat → Option T
  | t, [] => some t
  | t, i :: p => match t.kid i with
    | some k => k.part p
    | none => none
def T.repl (u : T) : T → List Nat → T
  | _, [] => u
  | .lam x b, 2 :: p => .lam x (T.repl u b p)
  | .app a b, 1 :: p => .app (T.repl u a p) b
  | .app a b, 2 :: p => .app a (T.repl u b p)
  | t, _ => t
def T.spots : T → List (List Nat)
  | .nm _ => [[]]
  | .lam _ b => [] :: b.spots.map (2 :: ·)
  | .app a b => [] :: (a.spots.map (1 :: ·) ++ b.spots.map (2 :: ·))
def T.put (x : Nm) (u : T) : T → T
  | .nm y => if y = x then u else .nm y
  | .lam y b => .lam y (T.put x u b)
  | .app a b => .app (T.put x u a) (T.put x u b)
def T.redex : T → Bool
  | .app (.lam _ _) _ => true
  | _ => false
theorem T.spots_len (t : T) : t.spots.length = t.size := by
  induction t with
  | nm x => rfl
  | lam x b ih => simp [evSs, evS, evE, evEs, evT, evA, evB, evC, evO, evI, evF, ofString_inj, ofString_beq, strOk_ofString, strOk_append, M.then, bind_at, pure_at, fail_at, lift_some_at, lift_none_at, ite_at, isGlob, varOf, Vars.of, Vars.setAll, Vars.set, constOf, item, pickAt, cmpop, eqTop, PV.lay, PV.lays, PV.depth, PV.depths, binop, List.lookup_cons, plainArgs, const1, exn1, fuel1, isDef1, places1, consts1, exns1, bnames, callBuiltin, lenOf, small, canStore, pyEq, PV.toD, PV.toDs, PyData.eqv, PyData.eqvAll, getList, newCell, setCell, slice, bound, cut, textOk, empty_append, andor, oror, andand, orand, strOk_num, strOk_v, strOk_n, strOk_nm, strOk_fr, v_lam, v_app, v_fr, fr_lam, fr_app, v_take, v_drop, fr_take, List.getElem?_append, fieldText, relab, compOk, Vars.comp, T.spots, T.size, ih]
  | app a b ih1 ih2 => simp [evSs, evS, evE, evEs, evT, evA, evB, evC, evO, evI, evF, ofString_inj, ofString_beq, strOk_ofString, strOk_append, M.then, bind_at, pure_at, fail_at, lift_some_at, lift_none_at, ite_at, isGlob, varOf, Vars.of, Vars.setAll, Vars.set, constOf, item, pickAt, cmpop, eqTop, PV.lay, PV.lays, PV.depth, PV.depths, binop, List.lookup_cons, plainArgs, const1, exn1, fuel1, isDef1, places1, consts1, exns1, bnames, callBuiltin, lenOf, small, canStore, pyEq, PV.toD, PV.toDs, PyData.eqv, PyData.eqvAll, getList, newCell, setCell, slice, bound, cut, textOk, empty_append, andor, oror, andand, orand, strOk_num, strOk_v, strOk_n, strOk_nm, strOk_fr, v_lam, v_app, v_fr, fr_lam, fr_app, v_take, v_drop, fr_take, List.getElem?_append, fieldText, relab, compOk, Vars.comp, T.spots, T.size, ih1, ih2]
theorem T.spots_depth (t : T) : ∀ p ∈ t.spots, p.length ≤ t.size := by
  induction t with
  | nm x => simp [evSs, evS, evE, evEs, evT, evA, evB, evC, evO, evI, evF, ofString_inj, ofString_beq, strOk_ofString, strOk_append, M.then, bind_at, pure_at, fail_at, lift_some_at, lift_none_at, ite_at, isGlob, varOf, Vars.of, Vars.setAll, Vars.set, constOf, item, pickAt, cmpop, eqTop, PV.lay, PV.lays, PV.depth, PV.depths, binop, List.lookup_cons, plainArgs, const1, exn1, fuel1, isDef1, places1, consts1, exns1, bnames, callBuiltin, lenOf, small, canStore, pyEq, PV.toD, PV.toDs, PyData.eqv, PyData.eqvAll, getList, newCell, setCell, slice, bound, cut, textOk, empty_append, andor, oror, andand, orand, strOk_num, strOk_v, strOk_n, strOk_nm, strOk_fr, v_lam, v_app, v_fr, fr_lam, fr_app, v_take, v_drop, fr_take, List.getElem?_append, fieldText, relab, compOk, Vars.comp, T.spots]
  | lam x b ih =>
    simp only [T.spots, T.size, List.mem_cons, List.mem_map]
    rintro p (rfl | ⟨q, hq, rfl⟩)
    · simp [evSs, evS, evE, evEs, evT, evA, evB, evC, evO, evI, evF, ofString_inj, ofString_beq, strOk_ofString, strOk_append, M.then, bind_at, pure_at, fail_at, lift_some_at, lift_none_at, ite_at, isGlob, varOf, Vars.of, Vars.setAll, Vars.set, constOf, item, pickAt, cmpop, eqTop, PV.lay, PV.lays, PV.depth, PV.depths, binop, List.lookup_cons, plainArgs, const1, exn1, fuel1, isDef1, places1, consts1, exns1, bnames, callBuiltin, lenOf, small, canStore, pyEq, PV.toD, PV.toDs, PyData.eqv, PyData.eqvAll, getList, newCell, setCell, slice, bound, cut, textOk, empty_append, andor, oror, andand, orand, strOk_num, strOk_v, strOk_n, strOk_nm, strOk_fr, v_lam, v_app, v_fr, fr_lam, fr_app, v_take, v_drop, fr_take, List.getElem?_append, fieldText, relab, compOk, Vars.comp]
    · have := ih q hq; simp [evSs, evS, evE, evEs, evT, evA, evB, evC, evO, evI, evF, ofString_inj, ofString_beq, strOk_ofString, strOk_append, M.then, bind_at, pure_at, fail_at, lift_some_at, lift_none_at, ite_at, isGlob, varOf, Vars.of, Vars.setAll, Vars.set, constOf, item, pickAt, cmpop, eqTop, PV.lay, PV.lays, PV.depth, PV.depths, binop, List.lookup_cons, plainArgs, const1, exn1, fuel1, isDef1, places1, consts1, exns1, bnames, callBuiltin, lenOf, small, canStore, pyEq, PV.toD, PV.toDs, PyData.eqv, PyData.eqvAll, getList, newCell, setCell, slice, bound, cut, textOk, empty_append, andor, oror, andand, orand, strOk_num, strOk_v, strOk_n, strOk_nm, strOk_fr, v_lam, v_app, v_fr, fr_lam, fr_app, v_take, v_drop, fr_take, List.getElem?_append, fieldText, relab, compOk, Vars.comp]; omega
  | app a b ih1 ih2 =>
    simp only [T.spots, T.size, List.mem_cons, List.mem_append, List.mem_map]
    rintro p (rfl | ⟨q, hq, rfl⟩ | ⟨q, hq, rfl⟩)
    · simp [evSs, evS, evE, evEs, evT, evA, evB, evC, evO, evI, evF, ofString_inj, ofString_beq, strOk_ofString, strOk_append, M.then, bind_at, pure_at, fail_at, lift_some_at, lift_none_at, ite_at, isGlob, varOf, Vars.of, Vars.setAll, Vars.set, constOf, item, pickAt, cmpop, eqTop, PV.lay, PV.lays, PV.depth, PV.depths, binop, List.lookup_cons, plainArgs, const1, exn1, fuel1, isDef1, places1, consts1, exns1, bnames, callBuiltin, lenOf, small, canStore, pyEq, PV.toD, PV.toDs, PyData.eqv, PyData.eqvAll, getList, newCell, setCell, slice, bound, cut, textOk, empty_append, andor, oror, andand, orand, strOk_num, strOk_v, strOk_n, strOk_nm, strOk_fr, v_lam, v_app, v_fr, fr_lam, fr_app, v_take, v_drop, fr_take, List.getElem?_append, fieldText, relab, compOk, Vars.comp]
    · have := ih1 q hq; simp [evSs, evS, evE, evEs, evT, evA, evB, evC, evO, evI, evF, ofString_inj, ofString_beq, strOk_ofString, strOk_append, M.then, bind_at, pure_at, fail_at, lift_some_at, lift_none_at, ite_at, isGlob, varOf, Vars.of, Vars.setAll, Vars.set, constOf, item, pickAt, cmpop, eqTop, PV.lay, PV.lays, PV.depth, PV.depths, binop, List.lookup_cons, plainArgs, const1, exn1, fuel1, isDef1, places1, consts1, exns1, bnames, callBuiltin, lenOf, small, canStore, pyEq, PV.toD, PV.toDs, PyData.eqv, PyData.eqvAll, getList, newCell, setCell, slice, bound, cut, textOk, empty_append, andor, oror, andand, orand, strOk_num, strOk_v, strOk_n, strOk_nm, strOk_fr, v_lam, v_app, v_fr, fr_lam, fr_app, v_take, v_drop, fr_take, List.getElem?_append, fieldText, relab, compOk, Vars.comp]; omega
    · have := ih2 q hq; simp [evSs, evS, evE, evEs, evT, evA, evB, evC, evO, evI, evF, ofString_inj, ofString_beq, strOk_ofString, strOk_append, M.then, bind_at, pure_at, fail_at, lift_some_at, lift_none_at, ite_at, isGlob, varOf, Vars.of, Vars.setAll, Vars.set, constOf, item, pickAt, cmpop, eqTop, PV.lay, PV.lays, PV.depth, PV.depths, binop, List.lookup_cons, plainArgs, const1, exn1, fuel1, isDef1, places1, consts1, exns1, bnames, callBuiltin, lenOf, small, canStore, pyEq, PV.toD, PV.toDs, PyData.eqv, PyData.eqvAll, getList, newCell, setCell, slice, bound, cut, textOk, empty_append, andor, oror, andand, orand, strOk_num, strOk_v, strOk_n, strOk_nm, strOk_fr, v_lam, v_app, v_fr, fr_lam, fr_app, v_take, v_drop, fr_take, List.getElem?_append, fieldText, relab, compOk, Vars.comp]; omega
theorem T.spots_part (t : T) : ∀ p ∈ t.spots, ∃ u, t.part p = some u := by
  induction t with
  | nm x => intro p hp; simp [evSs, evS, evE, evEs, evT, evA, evB, evC, evO, evI, evF, ofString_inj, ofString_beq, strOk_ofString, strOk_append, M.then, bind_at, pure_at, fail_at, lift_some_at, lift_none_at, ite_at, isGlob, varOf, Vars.of, Vars.setAll, Vars.set, constOf, item, pickAt, cmpop, eqTop, PV.lay, PV.lays, PV.depth, PV.depths, binop, List.lookup_cons, plainArgs, const1, exn1, fuel1, isDef1, places1, consts1, exns1, bnames, callBuiltin, lenOf, small, canStore, pyEq, PV.toD, PV.toDs, PyData.eqv, PyData.eqvAll, getList, newCell, setCell, slice, bound, cut, textOk, empty_append, andor, oror, andand, orand, strOk_num, strOk_v, strOk_n, strOk_nm, strOk_fr, v_lam, v_app, v_fr, fr_lam, fr_app, v_take, v_drop, fr_take, List.getElem?_append, fieldText, relab, compOk, Vars.comp, T.spots] at hp; subst hp; exact ⟨_, rfl⟩
  | lam x b ih =>
    simp only [T.spots, List.mem_cons, List.mem_map]
    rintro p (rfl | ⟨q, hq, rfl⟩)
    · exact ⟨_, rfl⟩
    · exact ih q hq
  | app a b ih1 ih2 =>
    simp only [T.spots, List.mem_cons, List.mem_append, List.mem_map]
    rintro p (rfl | ⟨q, hq, rfl⟩ | ⟨q, hq, rfl⟩)
    · exact ⟨_, rfl⟩
    · exact ih1 q hq
    · exact ih2 q hq
theorem T.lay_pv (t : T) : t.pv.lay = true := by
  induction t with
  | nm x => simp [evSs, evS, evE, evEs, evT, evA, evB, evC, evO, evI, evF, ofString_inj, ofString_beq, strOk_ofString, strOk_append, M.then, bind_at, pure_at, fail_at, lift_some_at, lift_none_at, ite_at, isGlob, varOf, Vars.of, Vars.setAll, Vars.set, constOf, item, pickAt, cmpop, eqTop, PV.lay, PV.lays, PV.depth, PV.depths, binop, List.lookup_cons, plainArgs, const1, exn1, fuel1, isDef1, places1, consts1, exns1, bnames, callBuiltin, lenOf, small, canStore, pyEq, PV.toD, PV.toDs, PyData.eqv, PyData.eqvAll, getList, newCell, setCell, slice, bound, cut, textOk, empty_append, andor, oror, andand, orand, strOk_num, strOk_v, strOk_n, strOk_nm, strOk_fr, v_lam, v_app, v_fr, fr_lam, fr_app, v_take, v_drop, fr_take, List.getElem?_append, fieldText, relab, compOk, Vars.comp, T.pv]
  | lam x b ih => simp [evSs, evS, evE, evEs, evT, evA, evB, evC, evO, evI, evF, ofString_inj, ofString_beq, strOk_ofString, strOk_append, M.then, bind_at, pure_at, fail_at, lift_some_at, lift_none_at, ite_at, isGlob, varOf, Vars.of, Vars.setAll, Vars.set, constOf, item, pickAt, cmpop, eqTop, PV.lay, PV.lays, PV.depth, PV.depths, binop, List.lookup_cons, plainArgs, const1, exn1, fuel1, isDef1, places1, consts1, exns1, bnames, callBuiltin, lenOf, small, canStore, pyEq, PV.toD, PV.toDs, PyData.eqv, PyData.eqvAll, getList, newCell, setCell, slice, bound, cut, textOk, empty_append, andor, oror, andand, orand, strOk_num, strOk_v, strOk_n, strOk_nm, strOk_fr, v_lam, v_app, v_fr, fr_lam, fr_app, v_take, v_drop, fr_take, List.getElem?_append, fieldText, relab, compOk, Vars.comp, T.pv, ih]
  | app a b ih1 ih2 => simp [evSs, evS, evE, evEs, evT, evA, evB, evC, evO, evI, evF, ofString_inj, ofString_beq, strOk_ofString, strOk_append, M.then, bind_at, pure_at, fail_at, lift_some_at, lift_none_at, ite_at, isGlob, varOf, Vars.of, Vars.setAll, Vars.set, constOf, item, pickAt, cmpop, eqTop, PV.lay, PV.lays, PV.depth, PV.depths, binop, List.lookup_cons, plainArgs, const1, exn1, fuel1, isDef1, places1, consts1, exns1, bnames, callBuiltin, lenOf, small, canStore, pyEq, PV.toD, PV.toDs, PyData.eqv, PyData.eqvAll, getList, newCell, setCell, slice, bound, cut, textOk, empty_append, andor, oror, andand, orand, strOk_num, strOk_v, strOk_n, strOk_nm, strOk_fr, v_lam, v_app, v_fr, fr_lam, fr_app, v_take, v_drop, fr_take, List.getElem?_append, fieldText, relab, compOk, Vars.comp, T.pv, ih1, ih2]
theorem T.depth_pv (t : T) : t.pv.depth ≤ t.size := by
  induction t with
  | nm x => simp [evSs, evS, evE, evEs, evT, evA, evB, evC, evO, evI, evF, ofString_inj, ofString_beq, strOk_ofString, strOk_append, M.then, bind_at, pure_at, fail_at, lift_some_at, lift_none_at, ite_at, isGlob, varOf, Vars.of, Vars.setAll, Vars.set, constOf, item, pickAt, cmpop, eqTop, PV.lay, PV.lays, PV.depth, PV.depths, binop, List.lookup_cons, plainArgs, const1, exn1, fuel1, isDef1, places1, consts1, exns1, bnames, callBuiltin, lenOf, small, canStore, pyEq, PV.toD, PV.toDs, PyData.eqv, PyData.eqvAll, getList, newCell, setCell, slice, bound, cut, textOk, empty_append, andor, oror, andand, orand, strOk_num, strOk_v, strOk_n, strOk_nm, strOk_fr, v_lam, v_app, v_fr, fr_lam, fr_app, v_take, v_drop, fr_take, List.getElem?_append, fieldText, relab, compOk, Vars.comp, T.pv, T.size]
  | lam x b ih => simp [evSs, evS, evE, evEs, evT, evA, evB, evC, evO, evI, evF, ofString_inj, ofString_beq, strOk_ofString, strOk_append, M.then, bind_at, pure_at, fail_at, lift_some_at, lift_none_at, ite_at, isGlob, varOf, Vars.of, Vars.setAll, Vars.set, constOf, item, pickAt, cmpop, eqTop, PV.lay, PV.lays, PV.depth, PV.depths, binop, List.lookup_cons, plainArgs, const1, exn1, fuel1, isDef1, places1, consts1, exns1, bnames, callBuiltin, lenOf, small, canStore, pyEq, PV.toD, PV.toDs, PyData.eqv, PyData.eqvAll, getList, newCell, setCell, slice, bound, cut, textOk, empty_append, andor, oror, andand, orand, strOk_num, strOk_v, strOk_n, strOk_nm, strOk_fr, v_lam, v_app, v_fr, fr_lam, fr_app, v_take, v_drop, fr_take, List.getElem?_append, fieldText, relab, compOk, Vars.comp, T.pv, T.size]; omega
  | app a b ih1 ih2 => simp [evSs, evS, evE, evEs, evT, evA, evB, evC, evO, evI, evF, ofString_inj, ofString_beq, strOk_ofString, strOk_append, M.then, bind_at, pure_at, fail_at, lift_some_at, lift_none_at, ite_at, isGlob, varOf, Vars.of, Vars.setAll, Vars.set, constOf, item, pickAt, cmpop, eqTop, PV.lay, PV.lays, PV.depth, PV.depths, binop, List.lookup_cons, plainArgs, const1, exn1, fuel1, isDef1, places1, consts1, exns1, bnames, callBuiltin, lenOf, small, canStore, pyEq, PV.toD, PV.toDs, PyData.eqv, PyData.eqvAll, getList, newCell, setCell, slice, bound, cut, textOk, empty_append, andor, oror, andand, orand, strOk_num, strOk_v, strOk_n, strOk_nm, strOk_fr, v_lam, v_app, v_fr, fr_lam, fr_app, v_take, v_drop, fr_take, List.getElem?_append, fieldText, relab, compOk, Vars.comp, T.pv, T.size]; omega
theorem n_codes (i : Nat) : (ntext i).cps.toList = 110 :: (strOfInt (i : Int)).cps.toList := by
  unfold ntext; rw [codes_append, codes_n]; rfl
theorem Nm.text_inj {x y : Nm} (h : x.text = y.text) : x = y := by
  have e := congrArg (fun s : Str => s.cps.toList) h
  have ek : Nm.k.text.cps.toList = [107] := by show (Str.ofString "k").cps.toList = _; rw [signs_txt]; rfl
  have em : Nm.m.text.cps.toList = [109] := by show (Str.ofString "m").cps.toList = _; rw [signs_txt]; rfl
  have en : ∀ i, (Nm.n i).text.cps.toList = 110 :: (strOfInt (i : Int)).cps.toList := n_codes
  cases x <;> cases y <;> simp only [ek, em, en] at e
  · rfl
  · exact absurd e (by decide)
  · exact absurd e (by simp [evSs, evS, evE, evEs, evT, evA, evB, evC, evO, evI, evF, ofString_inj, ofString_beq, strOk_ofString, strOk_append, M.then, bind_at, pure_at, fail_at, lift_some_at, lift_none_at, ite_at, isGlob, varOf, Vars.of, Vars.setAll, Vars.set, constOf, item, pickAt, cmpop, eqTop, PV.lay, PV.lays, PV.depth, PV.depths, binop, List.lookup_cons, plainArgs, const1, exn1, fuel1, isDef1, places1, consts1, exns1, bnames, callBuiltin, lenOf, small, canStore, pyEq, PV.toD, PV.toDs, PyData.eqv, PyData.eqvAll, getList, newCell, setCell, slice, bound, cut, textOk, empty_append, andor, oror, andand, orand, strOk_num, strOk_v, strOk_n, strOk_nm, strOk_fr, v_lam, v_app, v_fr, fr_lam, fr_app, v_take, v_drop, fr_take, List.getElem?_append, fieldText, relab, compOk, Vars.comp])
  · exact absurd e (by decide)
  · rfl
  · exact absurd e (by simp [evSs, evS, evE, evEs, evT, evA, evB, evC, evO, evI, evF, ofString_inj, ofString_beq, strOk_ofString, strOk_append, M.then, bind_at, pure_at, fail_at, lift_some_at, lift_none_at, ite_at, isGlob, varOf, Vars.of, Vars.setAll, Vars.set, constOf, item, pickAt, cmpop, eqTop, PV.lay, PV.lays, PV.depth, PV.depths, binop, List.lookup_cons, plainArgs, const1, exn1, fuel1, isDef1, places1, consts1, exns1, bnames, callBuiltin, lenOf, small, canStore, pyEq, PV.toD, PV.toDs, PyData.eqv, PyData.eqvAll, getList, newCell, setCell, slice, bound, cut, textOk, empty_append, andor, oror, andand, orand, strOk_num, strOk_v, strOk_n, strOk_nm, strOk_fr, v_lam, v_app, v_fr, fr_lam, fr_app, v_take, v_drop, fr_take, List.getElem?_append, fieldText, relab, compOk, Vars.comp])
  · exact absurd e (by simp [evSs, evS, evE, evEs, evT, evA, evB, evC, evO, evI, evF, ofString_inj, ofString_beq, strOk_ofString, strOk_append, M.then, bind_at, pure_at, fail_at, lift_some_at, lift_none_at, ite_at, isGlob, varOf, Vars.of, Vars.setAll, Vars.set, constOf, item, pickAt, cmpop, eqTop, PV.lay, PV.lays, PV.depth, PV.depths, binop, List.lookup_cons, plainArgs, const1, exn1, fuel1, isDef1, places1, consts1, exns1, bnames, callBuiltin, lenOf, small, canStore, pyEq, PV.toD, PV.toDs, PyData.eqv, PyData.eqvAll, getList, newCell, setCell, slice, bound, cut, textOk, empty_append, andor, oror, andand, orand, strOk_num, strOk_v, strOk_n, strOk_nm, strOk_fr, v_lam, v_app, v_fr, fr_lam, fr_app, v_take, v_drop, fr_take, List.getElem?_append, fieldText, relab, compOk, Vars.comp])
  · exact absurd e (by simp [evSs, evS, evE, evEs, evT, evA, evB, evC, evO, evI, evF, ofString_inj, ofString_beq, strOk_ofString, strOk_append, M.then, bind_at, pure_at, fail_at, lift_some_at, lift_none_at, ite_at, isGlob, varOf, Vars.of, Vars.setAll, Vars.set, constOf, item, pickAt, cmpop, eqTop, PV.lay, PV.lays, PV.depth, PV.depths, binop, List.lookup_cons, plainArgs, const1, exn1, fuel1, isDef1, places1, consts1, exns1, bnames, callBuiltin, lenOf, small, canStore, pyEq, PV.toD, PV.toDs, PyData.eqv, PyData.eqvAll, getList, newCell, setCell, slice, bound, cut, textOk, empty_append, andor, oror, andand, orand, strOk_num, strOk_v, strOk_n, strOk_nm, strOk_fr, v_lam, v_app, v_fr, fr_lam, fr_app, v_take, v_drop, fr_take, List.getElem?_append, fieldText, relab, compOk, Vars.comp])
  · rename_i i j
    have e2 : (strOfInt (i : Int)).cps.toList = (strOfInt (j : Int)).cps.toList := by simpa [evSs, evS, evE, evEs, evT, evA, evB, evC, evO, evI, evF, ofString_inj, ofString_beq, strOk_ofString, strOk_append, M.then, bind_at, pure_at, fail_at, lift_some_at, lift_none_at, ite_at, isGlob, varOf, Vars.of, Vars.setAll, Vars.set, constOf, item, pickAt, cmpop, eqTop, PV.lay, PV.lays, PV.depth, PV.depths, binop, List.lookup_cons, plainArgs, const1, exn1, fuel1, isDef1, places1, consts1, exns1, bnames, callBuiltin, lenOf, small, canStore, pyEq, PV.toD, PV.toDs, PyData.eqv, PyData.eqvAll, getList, newCell, setCell, slice, bound, cut, textOk, empty_append, andor, oror, andand, orand, strOk_num, strOk_v, strOk_n, strOk_nm, strOk_fr, v_lam, v_app, v_fr, fr_lam, fr_app, v_take, v_drop, fr_take, List.getElem?_append, fieldText, relab, compOk, Vars.comp] using e
    have v1 := PySem.W.KIN.val_back i
    have v2 := PySem.W.KIN.val_back j
    rw [← digits_num, e2, digits_num, v2] at v1
    rw [v1]
theorem Nm.text_beq (x y : Nm) : (x.text == y.text) = decide (x = y) := by
  rw [Bool.eq_iff_iff, beq_iff_eq, decide_eq_true_eq]
  exact ⟨Nm.text_inj, fun h => h ▸ rfl⟩
end Mine

-- P12
namespace Mine
open PySem

theorem isapp_spec (t : T) : Calls "_law_is_app_of_lam" [t.pv] 1 (.bool t.redex) := by
  refine calls_of rfl fun n hn σ => ?_
  unfold callOf
  rw [show defAt PySem.Challenge.pw_pq0040_01 33 = Def.mk _ _ _ from rfl]
  cases t with
  | nm x => simp [evSs, evS, evE, evEs, evT, evA, evB, evC, evO, evI, evF, ofString_inj, ofString_beq, strOk_ofString, strOk_append, M.then, bind_at, pure_at, fail_at, lift_some_at, lift_none_at, ite_at, isGlob, varOf, Vars.of, Vars.setAll, Vars.set, constOf, item, pickAt, cmpop, eqTop, PV.lay, PV.lays, PV.depth, PV.depths, binop, List.lookup_cons, plainArgs, const1, exn1, fuel1, isDef1, places1, consts1, exns1, bnames, callBuiltin, lenOf, small, canStore, pyEq, PV.toD, PV.toDs, PyData.eqv, PyData.eqvAll, getList, newCell, setCell, slice, bound, cut, textOk, empty_append, andor, oror, andand, orand, strOk_num, strOk_v, strOk_n, strOk_nm, strOk_fr, v_lam, v_app, v_fr, fr_lam, fr_app, v_take, v_drop, fr_take, List.getElem?_append, fieldText, relab, compOk, Vars.comp, Nm.text_beq, T.lay_pv, T.pv, T.redex]
  | lam x b => simp [evSs, evS, evE, evEs, evT, evA, evB, evC, evO, evI, evF, ofString_inj, ofString_beq, strOk_ofString, strOk_append, M.then, bind_at, pure_at, fail_at, lift_some_at, lift_none_at, ite_at, isGlob, varOf, Vars.of, Vars.setAll, Vars.set, constOf, item, pickAt, cmpop, eqTop, PV.lay, PV.lays, PV.depth, PV.depths, binop, List.lookup_cons, plainArgs, const1, exn1, fuel1, isDef1, places1, consts1, exns1, bnames, callBuiltin, lenOf, small, canStore, pyEq, PV.toD, PV.toDs, PyData.eqv, PyData.eqvAll, getList, newCell, setCell, slice, bound, cut, textOk, empty_append, andor, oror, andand, orand, strOk_num, strOk_v, strOk_n, strOk_nm, strOk_fr, v_lam, v_app, v_fr, fr_lam, fr_app, v_take, v_drop, fr_take, List.getElem?_append, fieldText, relab, compOk, Vars.comp, Nm.text_beq, T.lay_pv, T.pv, T.redex]
  | app a b => cases a <;> simp [evSs, evS, evE, evEs, evT, evA, evB, evC, evO, evI, evF, ofString_inj, ofString_beq, strOk_ofString, strOk_append, M.then, bind_at, pure_at, fail_at, lift_some_at, lift_none_at, ite_at, isGlob, varOf, Vars.of, Vars.setAll, Vars.set, constOf, item, pickAt, cmpop, eqTop, PV.lay, PV.lays, PV.depth, PV.depths, binop, List.lookup_cons, plainArgs, const1, exn1, fuel1, isDef1, places1, consts1, exns1, bnames, callBuiltin, lenOf, small, canStore, pyEq, PV.toD, PV.toDs, PyData.eqv, PyData.eqvAll, getList, newCell, setCell, slice, bound, cut, textOk, empty_append, andor, oror, andand, orand, strOk_num, strOk_v, strOk_n, strOk_nm, strOk_fr, v_lam, v_app, v_fr, fr_lam, fr_app, v_take, v_drop, fr_take, List.getElem?_append, fieldText, relab, compOk, Vars.comp, Nm.text_beq, T.lay_pv, T.pv, T.redex]

theorem lpart_spec (t u : T) (p : List Nat) (hl : p.length ≤ 100000) (h : t.part p = some u) : Calls "_law_part" [t.pv, pathPV p] 1 u.pv := by
  refine calls_of rfl fun n hn σ => ?_
  unfold callOf
  rw [show defAt PySem.Challenge.pw_pq0040_01 30 = Def.mk _ _ _ from rfl]
  simp [evSs, evS, evE, evEs, evT, evA, evB, evC, evO, evI, evF, ofString_inj, ofString_beq, strOk_ofString, strOk_append, M.then, bind_at, pure_at, fail_at, lift_some_at, lift_none_at, ite_at, isGlob, varOf, Vars.of, Vars.setAll, Vars.set, constOf, item, pickAt, cmpop, eqTop, PV.lay, PV.lays, PV.depth, PV.depths, binop, List.lookup_cons, plainArgs, const1, exn1, fuel1, isDef1, places1, consts1, exns1, bnames, callBuiltin, lenOf, small, canStore, pyEq, PV.toD, PV.toDs, PyData.eqv, PyData.eqvAll, getList, newCell, setCell, slice, bound, cut, textOk, empty_append, andor, oror, andand, orand, strOk_num, strOk_v, strOk_n, strOk_nm, strOk_fr, v_lam, v_app, v_fr, fr_lam, fr_app, v_take, v_drop, fr_take, List.getElem?_append, fieldText, relab, compOk, Vars.comp, Nm.text_beq, T.lay_pv, pathPV, items, hl]
  generalize hF : forGo _ _ _ _ _ _ = F
  obtain ⟨o, rfl, hq⟩ : ∃ o, F = some o ∧ (∃ ρ g, o = .next ρ (σ ++ g) ∧ ρ "tree" = some u.pv) := by
    refine forGo_at hF (fun ds ρ σ' => ∃ p' t', ds = p'.map (fun (i : Nat) => PV.int (i : Int)) ∧ T.part t' p' = some u ∧ ρ "tree" = some t'.pv ∧ ∃ g, σ' = σ ++ g) _ ?_ ?_ ?_
    · exact ⟨p, t, rfl, h, by simp [evSs, evS, evE, evEs, evT, evA, evB, evC, evO, evI, evF, ofString_inj, ofString_beq, strOk_ofString, strOk_append, M.then, bind_at, pure_at, fail_at, lift_some_at, lift_none_at, ite_at, isGlob, varOf, Vars.of, Vars.setAll, Vars.set, constOf, item, pickAt, cmpop, eqTop, PV.lay, PV.lays, PV.depth, PV.depths, binop, List.lookup_cons, plainArgs, const1, exn1, fuel1, isDef1, places1, consts1, exns1, bnames, callBuiltin, lenOf, small, canStore, pyEq, PV.toD, PV.toDs, PyData.eqv, PyData.eqvAll, getList, newCell, setCell, slice, bound, cut, textOk, empty_append, andor, oror, andand, orand, strOk_num, strOk_v, strOk_n, strOk_nm, strOk_fr, v_lam, v_app, v_fr, fr_lam, fr_app, v_take, v_drop, fr_take, List.getElem?_append, fieldText, relab, compOk, Vars.comp, Nm.text_beq, T.lay_pv], [], by simp [evSs, evS, evE, evEs, evT, evA, evB, evC, evO, evI, evF, ofString_inj, ofString_beq, strOk_ofString, strOk_append, M.then, bind_at, pure_at, fail_at, lift_some_at, lift_none_at, ite_at, isGlob, varOf, Vars.of, Vars.setAll, Vars.set, constOf, item, pickAt, cmpop, eqTop, PV.lay, PV.lays, PV.depth, PV.depths, binop, List.lookup_cons, plainArgs, const1, exn1, fuel1, isDef1, places1, consts1, exns1, bnames, callBuiltin, lenOf, small, canStore, pyEq, PV.toD, PV.toDs, PyData.eqv, PyData.eqvAll, getList, newCell, setCell, slice, bound, cut, textOk, empty_append, andor, oror, andand, orand, strOk_num, strOk_v, strOk_n, strOk_nm, strOk_fr, v_lam, v_app, v_fr, fr_lam, fr_app, v_take, v_drop, fr_take, List.getElem?_append, fieldText, relab, compOk, Vars.comp, Nm.text_beq, T.lay_pv]⟩
    · rintro d r ρ σ' ⟨p', t', hds, hp, ht, g, rfl⟩
      cases p' with
      | nil => exact absurd hds (by simp [evSs, evS, evE, evEs, evT, evA, evB, evC, evO, evI, evF, ofString_inj, ofString_beq, strOk_ofString, strOk_append, M.then, bind_at, pure_at, fail_at, lift_some_at, lift_none_at, ite_at, isGlob, varOf, Vars.of, Vars.setAll, Vars.set, constOf, item, pickAt, cmpop, eqTop, PV.lay, PV.lays, PV.depth, PV.depths, binop, List.lookup_cons, plainArgs, const1, exn1, fuel1, isDef1, places1, consts1, exns1, bnames, callBuiltin, lenOf, small, canStore, pyEq, PV.toD, PV.toDs, PyData.eqv, PyData.eqvAll, getList, newCell, setCell, slice, bound, cut, textOk, empty_append, andor, oror, andand, orand, strOk_num, strOk_v, strOk_n, strOk_nm, strOk_fr, v_lam, v_app, v_fr, fr_lam, fr_app, v_take, v_drop, fr_take, List.getElem?_append, fieldText, relab, compOk, Vars.comp, Nm.text_beq, T.lay_pv])
      | cons i p' =>
        simp only [List.map_cons, List.cons.injEq] at hds
        obtain ⟨rfl, rfl⟩ := hds
        unfold T.part at hp
        cases hk : t'.kid i with
        | none => rw [hk] at hp; exact absurd hp (by simp [evSs, evS, evE, evEs, evT, evA, evB, evC, evO, evI, evF, ofString_inj, ofString_beq, strOk_ofString, strOk_append, M.then, bind_at, pure_at, fail_at, lift_some_at, lift_none_at, ite_at, isGlob, varOf, Vars.of, Vars.setAll, Vars.set, constOf, item, pickAt, cmpop, eqTop, PV.lay, PV.lays, PV.depth, PV.depths, binop, List.lookup_cons, plainArgs, const1, exn1, fuel1, isDef1, places1, consts1, exns1, bnames, callBuiltin, lenOf, small, canStore, pyEq, PV.toD, PV.toDs, PyData.eqv, PyData.eqvAll, getList, newCell, setCell, slice, bound, cut, textOk, empty_append, andor, oror, andand, orand, strOk_num, strOk_v, strOk_n, strOk_nm, strOk_fr, v_lam, v_app, v_fr, fr_lam, fr_app, v_take, v_drop, fr_take, List.getElem?_append, fieldText, relab, compOk, Vars.comp, Nm.text_beq, T.lay_pv])
        | some t2 =>
          rw [hk] at hp
          match t', i, hk with
          | .lam x b, 2, hk =>
            cases hk
            simp [evSs, evS, evE, evEs, evT, evA, evB, evC, evO, evI, evF, ofString_inj, ofString_beq, strOk_ofString, strOk_append, M.then, bind_at, pure_at, fail_at, lift_some_at, lift_none_at, ite_at, isGlob, varOf, Vars.of, Vars.setAll, Vars.set, constOf, item, pickAt, cmpop, eqTop, PV.lay, PV.lays, PV.depth, PV.depths, binop, List.lookup_cons, plainArgs, const1, exn1, fuel1, isDef1, places1, consts1, exns1, bnames, callBuiltin, lenOf, small, canStore, pyEq, PV.toD, PV.toDs, PyData.eqv, PyData.eqvAll, getList, newCell, setCell, slice, bound, cut, textOk, empty_append, andor, oror, andand, orand, strOk_num, strOk_v, strOk_n, strOk_nm, strOk_fr, v_lam, v_app, v_fr, fr_lam, fr_app, v_take, v_drop, fr_take, List.getElem?_append, fieldText, relab, compOk, Vars.comp, Nm.text_beq, T.lay_pv, ht, T.pv, stillB]
            exact ⟨p', rfl, _, hp, rfl⟩
          | .app a b, 1, hk =>
            cases hk
            simp [evSs, evS, evE, evEs, evT, evA, evB, evC, evO, evI, evF, ofString_inj, ofString_beq, strOk_ofString, strOk_append, M.then, bind_at, pure_at, fail_at, lift_some_at, lift_none_at, ite_at, isGlob, varOf, Vars.of, Vars.setAll, Vars.set, constOf, item, pickAt, cmpop, eqTop, PV.lay, PV.lays, PV.depth, PV.depths, binop, List.lookup_cons, plainArgs, const1, exn1, fuel1, isDef1, places1, consts1, exns1, bnames, callBuiltin, lenOf, small, canStore, pyEq, PV.toD, PV.toDs, PyData.eqv, PyData.eqvAll, getList, newCell, setCell, slice, bound, cut, textOk, empty_append, andor, oror, andand, orand, strOk_num, strOk_v, strOk_n, strOk_nm, strOk_fr, v_lam, v_app, v_fr, fr_lam, fr_app, v_take, v_drop, fr_take, List.getElem?_append, fieldText, relab, compOk, Vars.comp, Nm.text_beq, T.lay_pv, ht, T.pv, stillB]
            exact ⟨p', rfl, _, hp, rfl⟩
          | .app a b, 2, hk =>
            cases hk
            simp [evSs, evS, evE, evEs, evT, evA, evB, evC, evO, evI, evF, ofString_inj, ofString_beq, strOk_ofString, strOk_append, M.then, bind_at, pure_at, fail_at, lift_some_at, lift_none_at, ite_at, isGlob, varOf, Vars.of, Vars.setAll, Vars.set, constOf, item, pickAt, cmpop, eqTop, PV.lay, PV.lays, PV.depth, PV.depths, binop, List.lookup_cons, plainArgs, const1, exn1, fuel1, isDef1, places1, consts1, exns1, bnames, callBuiltin, lenOf, small, canStore, pyEq, PV.toD, PV.toDs, PyData.eqv, PyData.eqvAll, getList, newCell, setCell, slice, bound, cut, textOk, empty_append, andor, oror, andand, orand, strOk_num, strOk_v, strOk_n, strOk_nm, strOk_fr, v_lam, v_app, v_fr, fr_lam, fr_app, v_take, v_drop, fr_take, List.getElem?_append, fieldText, relab, compOk, Vars.comp, Nm.text_beq, T.lay_pv, ht, T.pv, stillB]
            exact ⟨p', rfl, _, hp, rfl⟩
    · rintro ρ σ' ⟨p', t', hds, hp, ht, g, rfl⟩
      cases p' with
      | nil =>
        cases hp
        exact ⟨ρ, g, rfl, ht⟩
      | cons i p' => exact absurd hds (by simp [evSs, evS, evE, evEs, evT, evA, evB, evC, evO, evI, evF, ofString_inj, ofString_beq, strOk_ofString, strOk_append, M.then, bind_at, pure_at, fail_at, lift_some_at, lift_none_at, ite_at, isGlob, varOf, Vars.of, Vars.setAll, Vars.set, constOf, item, pickAt, cmpop, eqTop, PV.lay, PV.lays, PV.depth, PV.depths, binop, List.lookup_cons, plainArgs, const1, exn1, fuel1, isDef1, places1, consts1, exns1, bnames, callBuiltin, lenOf, small, canStore, pyEq, PV.toD, PV.toDs, PyData.eqv, PyData.eqvAll, getList, newCell, setCell, slice, bound, cut, textOk, empty_append, andor, oror, andand, orand, strOk_num, strOk_v, strOk_n, strOk_nm, strOk_fr, v_lam, v_app, v_fr, fr_lam, fr_app, v_take, v_drop, fr_take, List.getElem?_append, fieldText, relab, compOk, Vars.comp, Nm.text_beq, T.lay_pv])
  obtain ⟨ρ, g, rfl, ht⟩ := hq
  simp [evSs, evS, evE, evEs, evT, evA, evB, evC, evO, evI, evF, ofString_inj, ofString_beq, strOk_ofString, strOk_append, M.then, bind_at, pure_at, fail_at, lift_some_at, lift_none_at, ite_at, isGlob, varOf, Vars.of, Vars.setAll, Vars.set, constOf, item, pickAt, cmpop, eqTop, PV.lay, PV.lays, PV.depth, PV.depths, binop, List.lookup_cons, plainArgs, const1, exn1, fuel1, isDef1, places1, consts1, exns1, bnames, callBuiltin, lenOf, small, canStore, pyEq, PV.toD, PV.toDs, PyData.eqv, PyData.eqvAll, getList, newCell, setCell, slice, bound, cut, textOk, empty_append, andor, oror, andand, orand, strOk_num, strOk_v, strOk_n, strOk_nm, strOk_fr, v_lam, v_app, v_fr, fr_lam, fr_app, v_take, v_drop, fr_take, List.getElem?_append, fieldText, relab, compOk, Vars.comp, Nm.text_beq, T.lay_pv, ht]

theorem lwith_spec (u : T) : ∀ (p : List Nat) (t v : T), p.length ≤ 1000 → t.part p = some v → Calls "_law_with" [t.pv, pathPV p, u.pv] (p.length + 1) (T.repl u t p).pv
  | [], t, v, hl, h => by
    refine calls_of rfl fun n hn σ => ?_
    unfold callOf
    rw [show defAt PySem.Challenge.pw_pq0040_01 31 = Def.mk _ _ _ from rfl]
    simp [evSs, evS, evE, evEs, evT, evA, evB, evC, evO, evI, evF, ofString_inj, ofString_beq, strOk_ofString, strOk_append, M.then, bind_at, pure_at, fail_at, lift_some_at, lift_none_at, ite_at, isGlob, varOf, Vars.of, Vars.setAll, Vars.set, constOf, item, pickAt, cmpop, eqTop, PV.lay, PV.lays, PV.depth, PV.depths, binop, List.lookup_cons, plainArgs, const1, exn1, fuel1, isDef1, places1, consts1, exns1, bnames, callBuiltin, lenOf, small, canStore, pyEq, PV.toD, PV.toDs, PyData.eqv, PyData.eqvAll, getList, newCell, setCell, slice, bound, cut, textOk, empty_append, andor, oror, andand, orand, strOk_num, strOk_v, strOk_n, strOk_nm, strOk_fr, v_lam, v_app, v_fr, fr_lam, fr_app, v_take, v_drop, fr_take, List.getElem?_append, fieldText, relab, compOk, Vars.comp, Nm.text_beq, T.lay_pv, pathPV, T.repl]
  | i :: p, t, v, hl, h => by
    have hl' : p.length + 1 ≤ 1000 := hl
    unfold T.part at h
    cases hk : t.kid i with
    | none => rw [hk] at h; exact absurd h (by simp [evSs, evS, evE, evEs, evT, evA, evB, evC, evO, evI, evF, ofString_inj, ofString_beq, strOk_ofString, strOk_append, M.then, bind_at, pure_at, fail_at, lift_some_at, lift_none_at, ite_at, isGlob, varOf, Vars.of, Vars.setAll, Vars.set, constOf, item, pickAt, cmpop, eqTop, PV.lay, PV.lays, PV.depth, PV.depths, binop, List.lookup_cons, plainArgs, const1, exn1, fuel1, isDef1, places1, consts1, exns1, bnames, callBuiltin, lenOf, small, canStore, pyEq, PV.toD, PV.toDs, PyData.eqv, PyData.eqvAll, getList, newCell, setCell, slice, bound, cut, textOk, empty_append, andor, oror, andand, orand, strOk_num, strOk_v, strOk_n, strOk_nm, strOk_fr, v_lam, v_app, v_fr, fr_lam, fr_app, v_take, v_drop, fr_take, List.getElem?_append, fieldText, relab, compOk, Vars.comp, Nm.text_beq, T.lay_pv])
    | some k =>
      rw [hk] at h
      have hr := lwith_spec u p k v (by omega) h
      refine calls_of rfl fun n hn σ => ?_
      have hn : p.length + 1 ≤ n := by simp [evSs, evS, evE, evEs, evT, evA, evB, evC, evO, evI, evF, ofString_inj, ofString_beq, strOk_ofString, strOk_append, M.then, bind_at, pure_at, fail_at, lift_some_at, lift_none_at, ite_at, isGlob, varOf, Vars.of, Vars.setAll, Vars.set, constOf, item, pickAt, cmpop, eqTop, PV.lay, PV.lays, PV.depth, PV.depths, binop, List.lookup_cons, plainArgs, const1, exn1, fuel1, isDef1, places1, consts1, exns1, bnames, callBuiltin, lenOf, small, canStore, pyEq, PV.toD, PV.toDs, PyData.eqv, PyData.eqvAll, getList, newCell, setCell, slice, bound, cut, textOk, empty_append, andor, oror, andand, orand, strOk_num, strOk_v, strOk_n, strOk_nm, strOk_fr, v_lam, v_app, v_fr, fr_lam, fr_app, v_take, v_drop, fr_take, List.getElem?_append, fieldText, relab, compOk, Vars.comp, Nm.text_beq, T.lay_pv] at hn; omega
      have hr := hr n hn
      have e1 : p.length + 1 ≤ 100000 := by omega
      unfold callOf
      rw [show defAt PySem.Challenge.pw_pq0040_01 31 = Def.mk _ _ _ from rfl]
      match t, i, hk with
      | .lam x b, 2, hk =>
        cases hk
        simp [evSs, evS, evE, evEs, evT, evA, evB, evC, evO, evI, evF, ofString_inj, ofString_beq, strOk_ofString, strOk_append, M.then, bind_at, pure_at, fail_at, lift_some_at, lift_none_at, ite_at, isGlob, varOf, Vars.of, Vars.setAll, Vars.set, constOf, item, pickAt, cmpop, eqTop, PV.lay, PV.lays, PV.depth, PV.depths, binop, List.lookup_cons, plainArgs, const1, exn1, fuel1, isDef1, places1, consts1, exns1, bnames, callBuiltin, lenOf, small, canStore, pyEq, PV.toD, PV.toDs, PyData.eqv, PyData.eqvAll, getList, newCell, setCell, slice, bound, cut, textOk, empty_append, andor, oror, andand, orand, strOk_num, strOk_v, strOk_n, strOk_nm, strOk_fr, v_lam, v_app, v_fr, fr_lam, fr_app, v_take, v_drop, fr_take, List.getElem?_append, fieldText, relab, compOk, Vars.comp, Nm.text_beq, T.lay_pv, pathPV] at hr
        have hr := hr.at
        simp [evSs, evS, evE, evEs, evT, evA, evB, evC, evO, evI, evF, ofString_inj, ofString_beq, strOk_ofString, strOk_append, M.then, bind_at, pure_at, fail_at, lift_some_at, lift_none_at, ite_at, isGlob, varOf, Vars.of, Vars.setAll, Vars.set, constOf, item, pickAt, cmpop, eqTop, PV.lay, PV.lays, PV.depth, PV.depths, binop, List.lookup_cons, plainArgs, const1, exn1, fuel1, isDef1, places1, consts1, exns1, bnames, callBuiltin, lenOf, small, canStore, pyEq, PV.toD, PV.toDs, PyData.eqv, PyData.eqvAll, getList, newCell, setCell, slice, bound, cut, textOk, empty_append, andor, oror, andand, orand, strOk_num, strOk_v, strOk_n, strOk_nm, strOk_fr, v_lam, v_app, v_fr, fr_lam, fr_app, v_take, v_drop, fr_take, List.getElem?_append, fieldText, relab, compOk, Vars.comp, Nm.text_beq, T.lay_pv, pathPV, T.repl, lays_path, depths_path, e1, T.pv, hr]
      | .app a b, 1, hk =>
        cases hk
        simp [evSs, evS, evE, evEs, evT, evA, evB, evC, evO, evI, evF, ofString_inj, ofString_beq, strOk_ofString, strOk_append, M.then, bind_at, pure_at, fail_at, lift_some_at, lift_none_at, ite_at, isGlob, varOf, Vars.of, Vars.setAll, Vars.set, constOf, item, pickAt, cmpop, eqTop, PV.lay, PV.lays, PV.depth, PV.depths, binop, List.lookup_cons, plainArgs, const1, exn1, fuel1, isDef1, places1, consts1, exns1, bnames, callBuiltin, lenOf, small, canStore, pyEq, PV.toD, PV.toDs, PyData.eqv, PyData.eqvAll, getList, newCell, setCell, slice, bound, cut, textOk, empty_append, andor, oror, andand, orand, strOk_num, strOk_v, strOk_n, strOk_nm, strOk_fr, v_lam, v_app, v_fr, fr_lam, fr_app, v_take, v_drop, fr_take, List.getElem?_append, fieldText, relab, compOk, Vars.comp, Nm.text_beq, T.lay_pv, pathPV] at hr
        have hr := hr.at
        simp [evSs, evS, evE, evEs, evT, evA, evB, evC, evO, evI, evF, ofString_inj, ofString_beq, strOk_ofString, strOk_append, M.then, bind_at, pure_at, fail_at, lift_some_at, lift_none_at, ite_at, isGlob, varOf, Vars.of, Vars.setAll, Vars.set, constOf, item, pickAt, cmpop, eqTop, PV.lay, PV.lays, PV.depth, PV.depths, binop, List.lookup_cons, plainArgs, const1, exn1, fuel1, isDef1, places1, consts1, exns1, bnames, callBuiltin, lenOf, small, canStore, pyEq, PV.toD, PV.toDs, PyData.eqv, PyData.eqvAll, getList, newCell, setCell, slice, bound, cut, textOk, empty_append, andor, oror, andand, orand, strOk_num, strOk_v, strOk_n, strOk_nm, strOk_fr, v_lam, v_app, v_fr, fr_lam, fr_app, v_take, v_drop, fr_take, List.getElem?_append, fieldText, relab, compOk, Vars.comp, Nm.text_beq, T.lay_pv, pathPV, T.repl, lays_path, depths_path, e1, T.pv, hr]
      | .app a b, 2, hk =>
        cases hk
        simp [evSs, evS, evE, evEs, evT, evA, evB, evC, evO, evI, evF, ofString_inj, ofString_beq, strOk_ofString, strOk_append, M.then, bind_at, pure_at, fail_at, lift_some_at, lift_none_at, ite_at, isGlob, varOf, Vars.of, Vars.setAll, Vars.set, constOf, item, pickAt, cmpop, eqTop, PV.lay, PV.lays, PV.depth, PV.depths, binop, List.lookup_cons, plainArgs, const1, exn1, fuel1, isDef1, places1, consts1, exns1, bnames, callBuiltin, lenOf, small, canStore, pyEq, PV.toD, PV.toDs, PyData.eqv, PyData.eqvAll, getList, newCell, setCell, slice, bound, cut, textOk, empty_append, andor, oror, andand, orand, strOk_num, strOk_v, strOk_n, strOk_nm, strOk_fr, v_lam, v_app, v_fr, fr_lam, fr_app, v_take, v_drop, fr_take, List.getElem?_append, fieldText, relab, compOk, Vars.comp, Nm.text_beq, T.lay_pv, pathPV] at hr
        have hr := hr.at
        simp [evSs, evS, evE, evEs, evT, evA, evB, evC, evO, evI, evF, ofString_inj, ofString_beq, strOk_ofString, strOk_append, M.then, bind_at, pure_at, fail_at, lift_some_at, lift_none_at, ite_at, isGlob, varOf, Vars.of, Vars.setAll, Vars.set, constOf, item, pickAt, cmpop, eqTop, PV.lay, PV.lays, PV.depth, PV.depths, binop, List.lookup_cons, plainArgs, const1, exn1, fuel1, isDef1, places1, consts1, exns1, bnames, callBuiltin, lenOf, small, canStore, pyEq, PV.toD, PV.toDs, PyData.eqv, PyData.eqvAll, getList, newCell, setCell, slice, bound, cut, textOk, empty_append, andor, oror, andand, orand, strOk_num, strOk_v, strOk_n, strOk_nm, strOk_fr, v_lam, v_app, v_fr, fr_lam, fr_app, v_take, v_drop, fr_take, List.getElem?_append, fieldText, relab, compOk, Vars.comp, Nm.text_beq, T.lay_pv, pathPV, T.repl, lays_path, depths_path, e1, T.pv, hr]

theorem lput_spec (x : Nm) (u : T) : ∀ t : T, t.size ≤ 1000 → Calls "_law_put" [t.pv, .str x.text, u.pv] t.size (T.put x u t).pv
  | .nm y, hs => by
    refine calls_of rfl fun n hn σ => ?_
    unfold callOf
    rw [show defAt PySem.Challenge.pw_pq0040_01 32 = Def.mk _ _ _ from rfl]
    by_cases h : y = x
    · simp [evSs, evS, evE, evEs, evT, evA, evB, evC, evO, evI, evF, ofString_inj, ofString_beq, strOk_ofString, strOk_append, M.then, bind_at, pure_at, fail_at, lift_some_at, lift_none_at, ite_at, isGlob, varOf, Vars.of, Vars.setAll, Vars.set, constOf, item, pickAt, cmpop, eqTop, PV.lay, PV.lays, PV.depth, PV.depths, binop, List.lookup_cons, plainArgs, const1, exn1, fuel1, isDef1, places1, consts1, exns1, bnames, callBuiltin, lenOf, small, canStore, pyEq, PV.toD, PV.toDs, PyData.eqv, PyData.eqvAll, getList, newCell, setCell, slice, bound, cut, textOk, empty_append, andor, oror, andand, orand, strOk_num, strOk_v, strOk_n, strOk_nm, strOk_fr, v_lam, v_app, v_fr, fr_lam, fr_app, v_take, v_drop, fr_take, List.getElem?_append, fieldText, relab, compOk, Vars.comp, Nm.text_beq, T.lay_pv, T.pv, T.put, h]
    · simp [evSs, evS, evE, evEs, evT, evA, evB, evC, evO, evI, evF, ofString_inj, ofString_beq, strOk_ofString, strOk_append, M.then, bind_at, pure_at, fail_at, lift_some_at, lift_none_at, ite_at, isGlob, varOf, Vars.of, Vars.setAll, Vars.set, constOf, item, pickAt, cmpop, eqTop, PV.lay, PV.lays, PV.depth, PV.depths, binop, List.lookup_cons, plainArgs, const1, exn1, fuel1, isDef1, places1, consts1, exns1, bnames, callBuiltin, lenOf, small, canStore, pyEq, PV.toD, PV.toDs, PyData.eqv, PyData.eqvAll, getList, newCell, setCell, slice, bound, cut, textOk, empty_append, andor, oror, andand, orand, strOk_num, strOk_v, strOk_n, strOk_nm, strOk_fr, v_lam, v_app, v_fr, fr_lam, fr_app, v_take, v_drop, fr_take, List.getElem?_append, fieldText, relab, compOk, Vars.comp, Nm.text_beq, T.lay_pv, T.pv, T.put, h]
      rw [(compM_zip [.str "name", .str y.text] ?_ (items_tup (xs := [.str "name", .str y.text]) (by simp [evSs, evS, evE, evEs, evT, evA, evB, evC, evO, evI, evF, ofString_inj, ofString_beq, strOk_ofString, strOk_append, M.then, bind_at, pure_at, fail_at, lift_some_at, lift_none_at, ite_at, isGlob, varOf, Vars.of, Vars.setAll, Vars.set, constOf, item, pickAt, cmpop, eqTop, PV.lay, PV.lays, PV.depth, PV.depths, binop, List.lookup_cons, plainArgs, const1, exn1, fuel1, isDef1, places1, consts1, exns1, bnames, callBuiltin, lenOf, small, canStore, pyEq, PV.toD, PV.toDs, PyData.eqv, PyData.eqvAll, getList, newCell, setCell, slice, bound, cut, textOk, empty_append, andor, oror, andand, orand, strOk_num, strOk_v, strOk_n, strOk_nm, strOk_fr, v_lam, v_app, v_fr, fr_lam, fr_app, v_take, v_drop, fr_take, List.getElem?_append, fieldText, relab, compOk, Vars.comp, Nm.text_beq, T.lay_pv])) (still_tup _ _) (.cons ⟨?_, ?_⟩ (.cons ⟨?_, ?_⟩ .nil))).at]
      · generalize gar _ _ _ = g1
        simp [evSs, evS, evE, evEs, evT, evA, evB, evC, evO, evI, evF, ofString_inj, ofString_beq, strOk_ofString, strOk_append, M.then, bind_at, pure_at, fail_at, lift_some_at, lift_none_at, ite_at, isGlob, varOf, Vars.of, Vars.setAll, Vars.set, constOf, item, pickAt, cmpop, eqTop, PV.lay, PV.lays, PV.depth, PV.depths, binop, List.lookup_cons, plainArgs, const1, exn1, fuel1, isDef1, places1, consts1, exns1, bnames, callBuiltin, lenOf, small, canStore, pyEq, PV.toD, PV.toDs, PyData.eqv, PyData.eqvAll, getList, newCell, setCell, slice, bound, cut, textOk, empty_append, andor, oror, andand, orand, strOk_num, strOk_v, strOk_n, strOk_nm, strOk_fr, v_lam, v_app, v_fr, fr_lam, fr_app, v_take, v_drop, fr_take, List.getElem?_append, fieldText, relab, compOk, Vars.comp, Nm.text_beq, T.lay_pv]
      · exact gives_pure _
      · exact gives_pure _
      · intro σ; simp [evSs, evS, evE, evEs, evT, evA, evB, evC, evO, evI, evF, ofString_inj, ofString_beq, strOk_ofString, strOk_append, M.then, bind_at, pure_at, fail_at, lift_some_at, lift_none_at, ite_at, isGlob, varOf, Vars.of, Vars.setAll, Vars.set, constOf, item, pickAt, cmpop, eqTop, PV.lay, PV.lays, PV.depth, PV.depths, binop, List.lookup_cons, plainArgs, const1, exn1, fuel1, isDef1, places1, consts1, exns1, bnames, callBuiltin, lenOf, small, canStore, pyEq, PV.toD, PV.toDs, PyData.eqv, PyData.eqvAll, getList, newCell, setCell, slice, bound, cut, textOk, empty_append, andor, oror, andand, orand, strOk_num, strOk_v, strOk_n, strOk_nm, strOk_fr, v_lam, v_app, v_fr, fr_lam, fr_app, v_take, v_drop, fr_take, List.getElem?_append, fieldText, relab, compOk, Vars.comp, Nm.text_beq, T.lay_pv]
      · exact gives_pure _
      · intro σ; simp [evSs, evS, evE, evEs, evT, evA, evB, evC, evO, evI, evF, ofString_inj, ofString_beq, strOk_ofString, strOk_append, M.then, bind_at, pure_at, fail_at, lift_some_at, lift_none_at, ite_at, isGlob, varOf, Vars.of, Vars.setAll, Vars.set, constOf, item, pickAt, cmpop, eqTop, PV.lay, PV.lays, PV.depth, PV.depths, binop, List.lookup_cons, plainArgs, const1, exn1, fuel1, isDef1, places1, consts1, exns1, bnames, callBuiltin, lenOf, small, canStore, pyEq, PV.toD, PV.toDs, PyData.eqv, PyData.eqvAll, getList, newCell, setCell, slice, bound, cut, textOk, empty_append, andor, oror, andand, orand, strOk_num, strOk_v, strOk_n, strOk_nm, strOk_fr, v_lam, v_app, v_fr, fr_lam, fr_app, v_take, v_drop, fr_take, List.getElem?_append, fieldText, relab, compOk, Vars.comp, Nm.text_beq, T.lay_pv]
  | .lam y b, hs => by
    refine calls_of (k := b.size) rfl fun n hn σ => ?_
    have hz : (T.lam y b).size = b.size + 1 := rfl
    have h1 := lput_spec x u b (by omega) n hn
    have hd := T.depth_pv b
    have e1 : b.pv.depth + 1 < 2000 := by omega
    obtain ⟨w, hb⟩ : ∃ w, b.pv = .tup w := by cases b <;> exact ⟨_, rfl⟩
    unfold callOf
    rw [show defAt PySem.Challenge.pw_pq0040_01 32 = Def.mk _ _ _ from rfl]
    simp [evSs, evS, evE, evEs, evT, evA, evB, evC, evO, evI, evF, ofString_inj, ofString_beq, strOk_ofString, strOk_append, M.then, bind_at, pure_at, fail_at, lift_some_at, lift_none_at, ite_at, isGlob, varOf, Vars.of, Vars.setAll, Vars.set, constOf, item, pickAt, cmpop, eqTop, PV.lay, PV.lays, PV.depth, PV.depths, binop, List.lookup_cons, plainArgs, const1, exn1, fuel1, isDef1, places1, consts1, exns1, bnames, callBuiltin, lenOf, small, canStore, pyEq, PV.toD, PV.toDs, PyData.eqv, PyData.eqvAll, getList, newCell, setCell, slice, bound, cut, textOk, empty_append, andor, oror, andand, orand, strOk_num, strOk_v, strOk_n, strOk_nm, strOk_fr, v_lam, v_app, v_fr, fr_lam, fr_app, v_take, v_drop, fr_take, List.getElem?_append, fieldText, relab, compOk, Vars.comp, Nm.text_beq, T.lay_pv, T.pv, T.put, e1]
    rw [(compM_zip [.str "lam", .str y.text, (T.put x u b).pv] ?_ (items_tup (xs := [.str "lam", .str y.text, b.pv]) (by simp [evSs, evS, evE, evEs, evT, evA, evB, evC, evO, evI, evF, ofString_inj, ofString_beq, strOk_ofString, strOk_append, M.then, bind_at, pure_at, fail_at, lift_some_at, lift_none_at, ite_at, isGlob, varOf, Vars.of, Vars.setAll, Vars.set, constOf, item, pickAt, cmpop, eqTop, PV.lay, PV.lays, PV.depth, PV.depths, binop, List.lookup_cons, plainArgs, const1, exn1, fuel1, isDef1, places1, consts1, exns1, bnames, callBuiltin, lenOf, small, canStore, pyEq, PV.toD, PV.toDs, PyData.eqv, PyData.eqvAll, getList, newCell, setCell, slice, bound, cut, textOk, empty_append, andor, oror, andand, orand, strOk_num, strOk_v, strOk_n, strOk_nm, strOk_fr, v_lam, v_app, v_fr, fr_lam, fr_app, v_take, v_drop, fr_take, List.getElem?_append, fieldText, relab, compOk, Vars.comp, Nm.text_beq, T.lay_pv])) (still_tup _ _) (.cons ⟨?_, ?_⟩ (.cons ⟨?_, ?_⟩ (.cons ⟨?_, ?_⟩ .nil)))).at]
    · generalize gar _ _ _ = g1
      simp [evSs, evS, evE, evEs, evT, evA, evB, evC, evO, evI, evF, ofString_inj, ofString_beq, strOk_ofString, strOk_append, M.then, bind_at, pure_at, fail_at, lift_some_at, lift_none_at, ite_at, isGlob, varOf, Vars.of, Vars.setAll, Vars.set, constOf, item, pickAt, cmpop, eqTop, PV.lay, PV.lays, PV.depth, PV.depths, binop, List.lookup_cons, plainArgs, const1, exn1, fuel1, isDef1, places1, consts1, exns1, bnames, callBuiltin, lenOf, small, canStore, pyEq, PV.toD, PV.toDs, PyData.eqv, PyData.eqvAll, getList, newCell, setCell, slice, bound, cut, textOk, empty_append, andor, oror, andand, orand, strOk_num, strOk_v, strOk_n, strOk_nm, strOk_fr, v_lam, v_app, v_fr, fr_lam, fr_app, v_take, v_drop, fr_take, List.getElem?_append, fieldText, relab, compOk, Vars.comp, Nm.text_beq, T.lay_pv]
    · exact gives_pure _
    · exact gives_pure _
    · intro σ; simp [evSs, evS, evE, evEs, evT, evA, evB, evC, evO, evI, evF, ofString_inj, ofString_beq, strOk_ofString, strOk_append, M.then, bind_at, pure_at, fail_at, lift_some_at, lift_none_at, ite_at, isGlob, varOf, Vars.of, Vars.setAll, Vars.set, constOf, item, pickAt, cmpop, eqTop, PV.lay, PV.lays, PV.depth, PV.depths, binop, List.lookup_cons, plainArgs, const1, exn1, fuel1, isDef1, places1, consts1, exns1, bnames, callBuiltin, lenOf, small, canStore, pyEq, PV.toD, PV.toDs, PyData.eqv, PyData.eqvAll, getList, newCell, setCell, slice, bound, cut, textOk, empty_append, andor, oror, andand, orand, strOk_num, strOk_v, strOk_n, strOk_nm, strOk_fr, v_lam, v_app, v_fr, fr_lam, fr_app, v_take, v_drop, fr_take, List.getElem?_append, fieldText, relab, compOk, Vars.comp, Nm.text_beq, T.lay_pv]
    · exact gives_pure _
    · intro σ; simp [evSs, evS, evE, evEs, evT, evA, evB, evC, evO, evI, evF, ofString_inj, ofString_beq, strOk_ofString, strOk_append, M.then, bind_at, pure_at, fail_at, lift_some_at, lift_none_at, ite_at, isGlob, varOf, Vars.of, Vars.setAll, Vars.set, constOf, item, pickAt, cmpop, eqTop, PV.lay, PV.lays, PV.depth, PV.depths, binop, List.lookup_cons, plainArgs, const1, exn1, fuel1, isDef1, places1, consts1, exns1, bnames, callBuiltin, lenOf, small, canStore, pyEq, PV.toD, PV.toDs, PyData.eqv, PyData.eqvAll, getList, newCell, setCell, slice, bound, cut, textOk, empty_append, andor, oror, andand, orand, strOk_num, strOk_v, strOk_n, strOk_nm, strOk_fr, v_lam, v_app, v_fr, fr_lam, fr_app, v_take, v_drop, fr_take, List.getElem?_append, fieldText, relab, compOk, Vars.comp, Nm.text_beq, T.lay_pv]
    · exact gives_pure _
    · intro σ
      have h2 := h1.at
      rw [hb] at h2
      simp [evSs, evS, evE, evEs, evT, evA, evB, evC, evO, evI, evF, ofString_inj, ofString_beq, strOk_ofString, strOk_append, M.then, bind_at, pure_at, fail_at, lift_some_at, lift_none_at, ite_at, isGlob, varOf, Vars.of, Vars.setAll, Vars.set, constOf, item, pickAt, cmpop, eqTop, PV.lay, PV.lays, PV.depth, PV.depths, binop, List.lookup_cons, plainArgs, const1, exn1, fuel1, isDef1, places1, consts1, exns1, bnames, callBuiltin, lenOf, small, canStore, pyEq, PV.toD, PV.toDs, PyData.eqv, PyData.eqvAll, getList, newCell, setCell, slice, bound, cut, textOk, empty_append, andor, oror, andand, orand, strOk_num, strOk_v, strOk_n, strOk_nm, strOk_fr, v_lam, v_app, v_fr, fr_lam, fr_app, v_take, v_drop, fr_take, List.getElem?_append, fieldText, relab, compOk, Vars.comp, Nm.text_beq, T.lay_pv, hb, h2]
  | .app a b, hs => by
    refine calls_of (k := a.size + b.size) rfl fun n hn σ => ?_
    have hz : (T.app a b).size = a.size + b.size + 1 := rfl
    have h1 := (lput_spec x u a (by omega) n (by omega)).at
    have h2 := (lput_spec x u b (by omega) n (by omega)).at
    have hd := T.depth_pv a
    have hd2 := T.depth_pv b
    have e1 : max a.pv.depth b.pv.depth + 1 < 2000 := by omega
    obtain ⟨w, hb⟩ : ∃ w, b.pv = .tup w := by cases b <;> exact ⟨_, rfl⟩
    obtain ⟨w1, ha⟩ : ∃ w, a.pv = .tup w := by cases a <;> exact ⟨_, rfl⟩
    unfold callOf
    rw [show defAt PySem.Challenge.pw_pq0040_01 32 = Def.mk _ _ _ from rfl]
    simp [evSs, evS, evE, evEs, evT, evA, evB, evC, evO, evI, evF, ofString_inj, ofString_beq, strOk_ofString, strOk_append, M.then, bind_at, pure_at, fail_at, lift_some_at, lift_none_at, ite_at, isGlob, varOf, Vars.of, Vars.setAll, Vars.set, constOf, item, pickAt, cmpop, eqTop, PV.lay, PV.lays, PV.depth, PV.depths, binop, List.lookup_cons, plainArgs, const1, exn1, fuel1, isDef1, places1, consts1, exns1, bnames, callBuiltin, lenOf, small, canStore, pyEq, PV.toD, PV.toDs, PyData.eqv, PyData.eqvAll, getList, newCell, setCell, slice, bound, cut, textOk, empty_append, andor, oror, andand, orand, strOk_num, strOk_v, strOk_n, strOk_nm, strOk_fr, v_lam, v_app, v_fr, fr_lam, fr_app, v_take, v_drop, fr_take, List.getElem?_append, fieldText, relab, compOk, Vars.comp, Nm.text_beq, T.lay_pv, T.pv, T.put, e1]
    rw [(compM_zip [.str "app", (T.put x u a).pv, (T.put x u b).pv] ?_ (items_tup (xs := [.str "app", a.pv, b.pv]) (by simp [evSs, evS, evE, evEs, evT, evA, evB, evC, evO, evI, evF, ofString_inj, ofString_beq, strOk_ofString, strOk_append, M.then, bind_at, pure_at, fail_at, lift_some_at, lift_none_at, ite_at, isGlob, varOf, Vars.of, Vars.setAll, Vars.set, constOf, item, pickAt, cmpop, eqTop, PV.lay, PV.lays, PV.depth, PV.depths, binop, List.lookup_cons, plainArgs, const1, exn1, fuel1, isDef1, places1, consts1, exns1, bnames, callBuiltin, lenOf, small, canStore, pyEq, PV.toD, PV.toDs, PyData.eqv, PyData.eqvAll, getList, newCell, setCell, slice, bound, cut, textOk, empty_append, andor, oror, andand, orand, strOk_num, strOk_v, strOk_n, strOk_nm, strOk_fr, v_lam, v_app, v_fr, fr_lam, fr_app, v_take, v_drop, fr_take, List.getElem?_append, fieldText, relab, compOk, Vars.comp, Nm.text_beq, T.lay_pv])) (still_tup _ _) (.cons ⟨?_, ?_⟩ (.cons ⟨?_, ?_⟩ (.cons ⟨?_, ?_⟩ .nil)))).at]
    · generalize gar _ _ _ = g1
      simp [evSs, evS, evE, evEs, evT, evA, evB, evC, evO, evI, evF, ofString_inj, ofString_beq, strOk_ofString, strOk_append, M.then, bind_at, pure_at, fail_at, lift_some_at, lift_none_at, ite_at, isGlob, varOf, Vars.of, Vars.setAll, Vars.set, constOf, item, pickAt, cmpop, eqTop, PV.lay, PV.lays, PV.depth, PV.depths, binop, List.lookup_cons, plainArgs, const1, exn1, fuel1, isDef1, places1, consts1, exns1, bnames, callBuiltin, lenOf, small, canStore, pyEq, PV.toD, PV.toDs, PyData.eqv, PyData.eqvAll, getList, newCell, setCell, slice, bound, cut, textOk, empty_append, andor, oror, andand, orand, strOk_num, strOk_v, strOk_n, strOk_nm, strOk_fr, v_lam, v_app, v_fr, fr_lam, fr_app, v_take, v_drop, fr_take, List.getElem?_append, fieldText, relab, compOk, Vars.comp, Nm.text_beq, T.lay_pv]
    · exact gives_pure _
    · exact gives_pure _
    · intro σ; simp [evSs, evS, evE, evEs, evT, evA, evB, evC, evO, evI, evF, ofString_inj, ofString_beq, strOk_ofString, strOk_append, M.then, bind_at, pure_at, fail_at, lift_some_at, lift_none_at, ite_at, isGlob, varOf, Vars.of, Vars.setAll, Vars.set, constOf, item, pickAt, cmpop, eqTop, PV.lay, PV.lays, PV.depth, PV.depths, binop, List.lookup_cons, plainArgs, const1, exn1, fuel1, isDef1, places1, consts1, exns1, bnames, callBuiltin, lenOf, small, canStore, pyEq, PV.toD, PV.toDs, PyData.eqv, PyData.eqvAll, getList, newCell, setCell, slice, bound, cut, textOk, empty_append, andor, oror, andand, orand, strOk_num, strOk_v, strOk_n, strOk_nm, strOk_fr, v_lam, v_app, v_fr, fr_lam, fr_app, v_take, v_drop, fr_take, List.getElem?_append, fieldText, relab, compOk, Vars.comp, Nm.text_beq, T.lay_pv]
    · exact gives_pure _
    · intro σ
      rw [ha] at h1
      simp [evSs, evS, evE, evEs, evT, evA, evB, evC, evO, evI, evF, ofString_inj, ofString_beq, strOk_ofString, strOk_append, M.then, bind_at, pure_at, fail_at, lift_some_at, lift_none_at, ite_at, isGlob, varOf, Vars.of, Vars.setAll, Vars.set, constOf, item, pickAt, cmpop, eqTop, PV.lay, PV.lays, PV.depth, PV.depths, binop, List.lookup_cons, plainArgs, const1, exn1, fuel1, isDef1, places1, consts1, exns1, bnames, callBuiltin, lenOf, small, canStore, pyEq, PV.toD, PV.toDs, PyData.eqv, PyData.eqvAll, getList, newCell, setCell, slice, bound, cut, textOk, empty_append, andor, oror, andand, orand, strOk_num, strOk_v, strOk_n, strOk_nm, strOk_fr, v_lam, v_app, v_fr, fr_lam, fr_app, v_take, v_drop, fr_take, List.getElem?_append, fieldText, relab, compOk, Vars.comp, Nm.text_beq, T.lay_pv, ha, h1]
    · exact gives_pure _
    · intro σ
      rw [hb] at h2
      simp [evSs, evS, evE, evEs, evT, evA, evB, evC, evO, evI, evF, ofString_inj, ofString_beq, strOk_ofString, strOk_append, M.then, bind_at, pure_at, fail_at, lift_some_at, lift_none_at, ite_at, isGlob, varOf, Vars.of, Vars.setAll, Vars.set, constOf, item, pickAt, cmpop, eqTop, PV.lay, PV.lays, PV.depth, PV.depths, binop, List.lookup_cons, plainArgs, const1, exn1, fuel1, isDef1, places1, consts1, exns1, bnames, callBuiltin, lenOf, small, canStore, pyEq, PV.toD, PV.toDs, PyData.eqv, PyData.eqvAll, getList, newCell, setCell, slice, bound, cut, textOk, empty_append, andor, oror, andand, orand, strOk_num, strOk_v, strOk_n, strOk_nm, strOk_fr, v_lam, v_app, v_fr, fr_lam, fr_app, v_take, v_drop, fr_take, List.getElem?_append, fieldText, relab, compOk, Vars.comp, Nm.text_beq, T.lay_pv, hb, h2]

theorem worked_spec (x : Nm) (c a : T) (hs : c.size ≤ 1000) : Calls "_law_worked" [(T.app (.lam x c) a).pv] (c.size + 1) (T.put x a c).pv := by
  refine calls_of rfl fun n hn σ => ?_
  have h1 := (lput_spec x a c hs n hn).at
  unfold callOf
  rw [show defAt PySem.Challenge.pw_pq0040_01 34 = Def.mk _ _ _ from rfl]
  simp [evSs, evS, evE, evEs, evT, evA, evB, evC, evO, evI, evF, ofString_inj, ofString_beq, strOk_ofString, strOk_append, M.then, bind_at, pure_at, fail_at, lift_some_at, lift_none_at, ite_at, isGlob, varOf, Vars.of, Vars.setAll, Vars.set, constOf, item, pickAt, cmpop, eqTop, PV.lay, PV.lays, PV.depth, PV.depths, binop, List.lookup_cons, plainArgs, const1, exn1, fuel1, isDef1, places1, consts1, exns1, bnames, callBuiltin, lenOf, small, canStore, pyEq, PV.toD, PV.toDs, PyData.eqv, PyData.eqvAll, getList, newCell, setCell, slice, bound, cut, textOk, empty_append, andor, oror, andand, orand, strOk_num, strOk_v, strOk_n, strOk_nm, strOk_fr, v_lam, v_app, v_fr, fr_lam, fr_app, v_take, v_drop, fr_take, List.getElem?_append, fieldText, relab, compOk, Vars.comp, Nm.text_beq, T.lay_pv, T.pv, h1]

theorem filter_all {α : Type} (l : List α) : l.filter (fun _ => true) = l := List.filter_eq_self.mpr (fun _ _ => rfl)
theorem spots_spec : ∀ t : T, t.size ≤ 1000 → CallsL "_law_spots" [t.pv] t.size (t.spots.map pathPV)
  | .nm y, hs => by
    intro n hn σ
    obtain ⟨n, rfl⟩ : ∃ m, n = m + 1 := ⟨n - 1, by have := hn; simp [evSs, evS, evE, evEs, evT, evA, evB, evC, evO, evI, evF, ofString_inj, ofString_beq, strOk_ofString, strOk_append, M.then, bind_at, pure_at, fail_at, lift_some_at, lift_none_at, ite_at, isGlob, varOf, Vars.of, Vars.setAll, Vars.set, constOf, item, pickAt, cmpop, eqTop, PV.lay, PV.lays, PV.depth, PV.depths, binop, List.lookup_cons, plainArgs, const1, exn1, fuel1, isDef1, places1, consts1, exns1, bnames, callBuiltin, lenOf, small, canStore, pyEq, PV.toD, PV.toDs, PyData.eqv, PyData.eqvAll, getList, newCell, setCell, slice, bound, cut, textOk, empty_append, andor, oror, andand, orand, strOk_num, strOk_v, strOk_n, strOk_nm, strOk_fr, v_lam, v_app, v_fr, fr_lam, fr_app, v_take, v_drop, fr_take, List.getElem?_append, fieldText, relab, compOk, Vars.comp, Nm.text_beq, T.lay_pv, T.size] at this; omega⟩
    rw [at_call _ _ _ _ (defAt PySem.Challenge.pw_pq0040_01 29) rfl]
    unfold callOf
    rw [show defAt PySem.Challenge.pw_pq0040_01 29 = Def.mk _ _ _ from rfl]
    simp [evSs, evS, evE, evEs, evT, evA, evB, evC, evO, evI, evF, ofString_inj, ofString_beq, strOk_ofString, strOk_append, M.then, bind_at, pure_at, fail_at, lift_some_at, lift_none_at, ite_at, isGlob, varOf, Vars.of, Vars.setAll, Vars.set, constOf, item, pickAt, cmpop, eqTop, PV.lay, PV.lays, PV.depth, PV.depths, binop, List.lookup_cons, plainArgs, const1, exn1, fuel1, isDef1, places1, consts1, exns1, bnames, callBuiltin, lenOf, small, canStore, pyEq, PV.toD, PV.toDs, PyData.eqv, PyData.eqvAll, getList, newCell, setCell, slice, bound, cut, textOk, empty_append, andor, oror, andand, orand, strOk_num, strOk_v, strOk_n, strOk_nm, strOk_fr, v_lam, v_app, v_fr, fr_lam, fr_app, v_take, v_drop, fr_take, List.getElem?_append, fieldText, relab, compOk, Vars.comp, Nm.text_beq, T.lay_pv, T.pv, items, List.range_succ, forGo, stillB, T.spots, pathPV]
    exact ⟨_, _, ⟨rfl, rfl⟩, by simp [evSs, evS, evE, evEs, evT, evA, evB, evC, evO, evI, evF, ofString_inj, ofString_beq, strOk_ofString, strOk_append, M.then, bind_at, pure_at, fail_at, lift_some_at, lift_none_at, ite_at, isGlob, varOf, Vars.of, Vars.setAll, Vars.set, constOf, item, pickAt, cmpop, eqTop, PV.lay, PV.lays, PV.depth, PV.depths, binop, List.lookup_cons, plainArgs, const1, exn1, fuel1, isDef1, places1, consts1, exns1, bnames, callBuiltin, lenOf, small, canStore, pyEq, PV.toD, PV.toDs, PyData.eqv, PyData.eqvAll, getList, newCell, setCell, slice, bound, cut, textOk, empty_append, andor, oror, andand, orand, strOk_num, strOk_v, strOk_n, strOk_nm, strOk_fr, v_lam, v_app, v_fr, fr_lam, fr_app, v_take, v_drop, fr_take, List.getElem?_append, fieldText, relab, compOk, Vars.comp, Nm.text_beq, T.lay_pv]⟩
  | .lam y b, hs => by
    intro n hn σ
    obtain ⟨n, rfl⟩ : ∃ m, n = m + 1 := ⟨n - 1, by have := hn; simp [evSs, evS, evE, evEs, evT, evA, evB, evC, evO, evI, evF, ofString_inj, ofString_beq, strOk_ofString, strOk_append, M.then, bind_at, pure_at, fail_at, lift_some_at, lift_none_at, ite_at, isGlob, varOf, Vars.of, Vars.setAll, Vars.set, constOf, item, pickAt, cmpop, eqTop, PV.lay, PV.lays, PV.depth, PV.depths, binop, List.lookup_cons, plainArgs, const1, exn1, fuel1, isDef1, places1, consts1, exns1, bnames, callBuiltin, lenOf, small, canStore, pyEq, PV.toD, PV.toDs, PyData.eqv, PyData.eqvAll, getList, newCell, setCell, slice, bound, cut, textOk, empty_append, andor, oror, andand, orand, strOk_num, strOk_v, strOk_n, strOk_nm, strOk_fr, v_lam, v_app, v_fr, fr_lam, fr_app, v_take, v_drop, fr_take, List.getElem?_append, fieldText, relab, compOk, Vars.comp, Nm.text_beq, T.lay_pv, T.size] at this; omega⟩
    have hz : (T.lam y b).size = b.size + 1 := rfl
    have h1 := spots_spec b (by omega) n (by omega)
    have hl := T.spots_len b
    have hdp := T.spots_depth b
    have e1 : b.spots.length ≤ 100000 := by omega
    obtain ⟨w, hb⟩ : ∃ w, b.pv = .tup w := by cases b <;> exact ⟨_, rfl⟩
    rw [hb] at h1
    rw [at_call _ _ _ _ (defAt PySem.Challenge.pw_pq0040_01 29) rfl]
    unfold callOf
    rw [show defAt PySem.Challenge.pw_pq0040_01 29 = Def.mk _ _ _ from rfl]
    simp [evSs, evS, evE, evEs, evT, evA, evB, evC, evO, evI, evF, ofString_inj, ofString_beq, strOk_ofString, strOk_append, M.then, bind_at, pure_at, fail_at, lift_some_at, lift_none_at, ite_at, isGlob, varOf, Vars.of, Vars.setAll, Vars.set, constOf, item, pickAt, cmpop, eqTop, PV.lay, PV.lays, PV.depth, PV.depths, binop, List.lookup_cons, plainArgs, const1, exn1, fuel1, isDef1, places1, consts1, exns1, bnames, callBuiltin, lenOf, small, canStore, pyEq, PV.toD, PV.toDs, PyData.eqv, PyData.eqvAll, getList, newCell, setCell, slice, bound, cut, textOk, empty_append, andor, oror, andand, orand, strOk_num, strOk_v, strOk_n, strOk_nm, strOk_fr, v_lam, v_app, v_fr, fr_lam, fr_app, v_take, v_drop, fr_take, List.getElem?_append, fieldText, relab, compOk, Vars.comp, Nm.text_beq, T.lay_pv, T.pv, items, List.range_succ, forGo, stillB, hb, knows, callMethod]
    rw [(compM_refs b.spots pathPV (fun p => pathPV (2 :: p)) (fun _ => true) ?_ e1 ?_ ?_).at]
    · generalize gar _ _ _ = g1
      simp [evSs, evS, evE, evEs, evT, evA, evB, evC, evO, evI, evF, ofString_inj, ofString_beq, strOk_ofString, strOk_append, M.then, bind_at, pure_at, fail_at, lift_some_at, lift_none_at, ite_at, isGlob, varOf, Vars.of, Vars.setAll, Vars.set, constOf, item, pickAt, cmpop, eqTop, PV.lay, PV.lays, PV.depth, PV.depths, binop, List.lookup_cons, plainArgs, const1, exn1, fuel1, isDef1, places1, consts1, exns1, bnames, callBuiltin, lenOf, small, canStore, pyEq, PV.toD, PV.toDs, PyData.eqv, PyData.eqvAll, getList, newCell, setCell, slice, bound, cut, textOk, empty_append, andor, oror, andand, orand, strOk_num, strOk_v, strOk_n, strOk_nm, strOk_fr, v_lam, v_app, v_fr, fr_lam, fr_app, v_take, v_drop, fr_take, List.getElem?_append, fieldText, relab, compOk, Vars.comp, Nm.text_beq, T.lay_pv, e1, filter_all]
      exact ⟨_, _, ⟨rfl, rfl⟩, by simp [evSs, evS, evE, evEs, evT, evA, evB, evC, evO, evI, evF, ofString_inj, ofString_beq, strOk_ofString, strOk_append, M.then, bind_at, pure_at, fail_at, lift_some_at, lift_none_at, ite_at, isGlob, varOf, Vars.of, Vars.setAll, Vars.set, constOf, item, pickAt, cmpop, eqTop, PV.lay, PV.lays, PV.depth, PV.depths, binop, List.lookup_cons, plainArgs, const1, exn1, fuel1, isDef1, places1, consts1, exns1, bnames, callBuiltin, lenOf, small, canStore, pyEq, PV.toD, PV.toDs, PyData.eqv, PyData.eqvAll, getList, newCell, setCell, slice, bound, cut, textOk, empty_append, andor, oror, andand, orand, strOk_num, strOk_v, strOk_n, strOk_nm, strOk_fr, v_lam, v_app, v_fr, fr_lam, fr_app, v_take, v_drop, fr_take, List.getElem?_append, fieldText, relab, compOk, Vars.comp, Nm.text_beq, T.lay_pv, T.spots, pathPV]⟩
    · intro σ
      obtain ⟨g, m, q1, q2⟩ := h1 σ
      exact ⟨g, m, by simp [evSs, evS, evE, evEs, evT, evA, evB, evC, evO, evI, evF, ofString_inj, ofString_beq, strOk_ofString, strOk_append, M.then, bind_at, pure_at, fail_at, lift_some_at, lift_none_at, ite_at, isGlob, varOf, Vars.of, Vars.setAll, Vars.set, constOf, item, pickAt, cmpop, eqTop, PV.lay, PV.lays, PV.depth, PV.depths, binop, List.lookup_cons, plainArgs, const1, exn1, fuel1, isDef1, places1, consts1, exns1, bnames, callBuiltin, lenOf, small, canStore, pyEq, PV.toD, PV.toDs, PyData.eqv, PyData.eqvAll, getList, newCell, setCell, slice, bound, cut, textOk, empty_append, andor, oror, andand, orand, strOk_num, strOk_v, strOk_n, strOk_nm, strOk_fr, v_lam, v_app, v_fr, fr_lam, fr_app, v_take, v_drop, fr_take, List.getElem?_append, fieldText, relab, compOk, Vars.comp, Nm.text_beq, T.lay_pv, q1], q2⟩
    · intro p hp; exact gives_pure _
    · intro p hp _ σ
      have := hdp p hp
      have e2 : p.length ≤ 100000 := by omega
      simp [evSs, evS, evE, evEs, evT, evA, evB, evC, evO, evI, evF, ofString_inj, ofString_beq, strOk_ofString, strOk_append, M.then, bind_at, pure_at, fail_at, lift_some_at, lift_none_at, ite_at, isGlob, varOf, Vars.of, Vars.setAll, Vars.set, constOf, item, pickAt, cmpop, eqTop, PV.lay, PV.lays, PV.depth, PV.depths, binop, List.lookup_cons, plainArgs, const1, exn1, fuel1, isDef1, places1, consts1, exns1, bnames, callBuiltin, lenOf, small, canStore, pyEq, PV.toD, PV.toDs, PyData.eqv, PyData.eqvAll, getList, newCell, setCell, slice, bound, cut, textOk, empty_append, andor, oror, andand, orand, strOk_num, strOk_v, strOk_n, strOk_nm, strOk_fr, v_lam, v_app, v_fr, fr_lam, fr_app, v_take, v_drop, fr_take, List.getElem?_append, fieldText, relab, compOk, Vars.comp, Nm.text_beq, T.lay_pv, pathPV, e2]
  | .app a b, hs => by
    intro n hn σ
    obtain ⟨n, rfl⟩ : ∃ m, n = m + 1 := ⟨n - 1, by have := hn; simp [evSs, evS, evE, evEs, evT, evA, evB, evC, evO, evI, evF, ofString_inj, ofString_beq, strOk_ofString, strOk_append, M.then, bind_at, pure_at, fail_at, lift_some_at, lift_none_at, ite_at, isGlob, varOf, Vars.of, Vars.setAll, Vars.set, constOf, item, pickAt, cmpop, eqTop, PV.lay, PV.lays, PV.depth, PV.depths, binop, List.lookup_cons, plainArgs, const1, exn1, fuel1, isDef1, places1, consts1, exns1, bnames, callBuiltin, lenOf, small, canStore, pyEq, PV.toD, PV.toDs, PyData.eqv, PyData.eqvAll, getList, newCell, setCell, slice, bound, cut, textOk, empty_append, andor, oror, andand, orand, strOk_num, strOk_v, strOk_n, strOk_nm, strOk_fr, v_lam, v_app, v_fr, fr_lam, fr_app, v_take, v_drop, fr_take, List.getElem?_append, fieldText, relab, compOk, Vars.comp, Nm.text_beq, T.lay_pv, T.size] at this; omega⟩
    have hz : (T.app a b).size = a.size + b.size + 1 := rfl
    have h1 := spots_spec a (by omega) n (by omega)
    have h2 := spots_spec b (by omega) n (by omega)
    have hl := T.spots_len a
    have hl2 := T.spots_len b
    have hdp := T.spots_depth a
    have hdp2 := T.spots_depth b
    have e1 : a.spots.length ≤ 100000 := by omega
    have e2 : b.spots.length ≤ 100000 := by omega
    have e3 : a.spots.length + 1 ≤ 100000 := by omega
    obtain ⟨w, hb⟩ : ∃ w, b.pv = .tup w := by cases b <;> exact ⟨_, rfl⟩
    obtain ⟨w1, ha⟩ : ∃ w, a.pv = .tup w := by cases a <;> exact ⟨_, rfl⟩
    rw [ha] at h1
    rw [hb] at h2
    rw [at_call _ _ _ _ (defAt PySem.Challenge.pw_pq0040_01 29) rfl]
    unfold callOf
    rw [show defAt PySem.Challenge.pw_pq0040_01 29 = Def.mk _ _ _ from rfl]
    simp [evSs, evS, evE, evEs, evT, evA, evB, evC, evO, evI, evF, ofString_inj, ofString_beq, strOk_ofString, strOk_append, M.then, bind_at, pure_at, fail_at, lift_some_at, lift_none_at, ite_at, isGlob, varOf, Vars.of, Vars.setAll, Vars.set, constOf, item, pickAt, cmpop, eqTop, PV.lay, PV.lays, PV.depth, PV.depths, binop, List.lookup_cons, plainArgs, const1, exn1, fuel1, isDef1, places1, consts1, exns1, bnames, callBuiltin, lenOf, small, canStore, pyEq, PV.toD, PV.toDs, PyData.eqv, PyData.eqvAll, getList, newCell, setCell, slice, bound, cut, textOk, empty_append, andor, oror, andand, orand, strOk_num, strOk_v, strOk_n, strOk_nm, strOk_fr, v_lam, v_app, v_fr, fr_lam, fr_app, v_take, v_drop, fr_take, List.getElem?_append, fieldText, relab, compOk, Vars.comp, Nm.text_beq, T.lay_pv, T.pv, items, List.range_succ, forGo, stillB, ha, hb, knows, callMethod]
    rw [(compM_refs a.spots pathPV (fun p => pathPV (1 :: p)) (fun _ => true) ?_ e1 ?_ ?_).at]
    · generalize gar _ _ _ = g1
      simp [evSs, evS, evE, evEs, evT, evA, evB, evC, evO, evI, evF, ofString_inj, ofString_beq, strOk_ofString, strOk_append, M.then, bind_at, pure_at, fail_at, lift_some_at, lift_none_at, ite_at, isGlob, varOf, Vars.of, Vars.setAll, Vars.set, constOf, item, pickAt, cmpop, eqTop, PV.lay, PV.lays, PV.depth, PV.depths, binop, List.lookup_cons, plainArgs, const1, exn1, fuel1, isDef1, places1, consts1, exns1, bnames, callBuiltin, lenOf, small, canStore, pyEq, PV.toD, PV.toDs, PyData.eqv, PyData.eqvAll, getList, newCell, setCell, slice, bound, cut, textOk, empty_append, andor, oror, andand, orand, strOk_num, strOk_v, strOk_n, strOk_nm, strOk_fr, v_lam, v_app, v_fr, fr_lam, fr_app, v_take, v_drop, fr_take, List.getElem?_append, fieldText, relab, compOk, Vars.comp, Nm.text_beq, T.lay_pv, e1, filter_all]
      rw [(compM_refs b.spots pathPV (fun p => pathPV (2 :: p)) (fun _ => true) ?_ e2 ?_ ?_).at]
      · generalize gar _ _ _ = g2
        simp [evSs, evS, evE, evEs, evT, evA, evB, evC, evO, evI, evF, ofString_inj, ofString_beq, strOk_ofString, strOk_append, M.then, bind_at, pure_at, fail_at, lift_some_at, lift_none_at, ite_at, isGlob, varOf, Vars.of, Vars.setAll, Vars.set, constOf, item, pickAt, cmpop, eqTop, PV.lay, PV.lays, PV.depth, PV.depths, binop, List.lookup_cons, plainArgs, const1, exn1, fuel1, isDef1, places1, consts1, exns1, bnames, callBuiltin, lenOf, small, canStore, pyEq, PV.toD, PV.toDs, PyData.eqv, PyData.eqvAll, getList, newCell, setCell, slice, bound, cut, textOk, empty_append, andor, oror, andand, orand, strOk_num, strOk_v, strOk_n, strOk_nm, strOk_fr, v_lam, v_app, v_fr, fr_lam, fr_app, v_take, v_drop, fr_take, List.getElem?_append, fieldText, relab, compOk, Vars.comp, Nm.text_beq, T.lay_pv, e2, e3, filter_all]
        exact ⟨_, _, ⟨rfl, rfl⟩, by simp [evSs, evS, evE, evEs, evT, evA, evB, evC, evO, evI, evF, ofString_inj, ofString_beq, strOk_ofString, strOk_append, M.then, bind_at, pure_at, fail_at, lift_some_at, lift_none_at, ite_at, isGlob, varOf, Vars.of, Vars.setAll, Vars.set, constOf, item, pickAt, cmpop, eqTop, PV.lay, PV.lays, PV.depth, PV.depths, binop, List.lookup_cons, plainArgs, const1, exn1, fuel1, isDef1, places1, consts1, exns1, bnames, callBuiltin, lenOf, small, canStore, pyEq, PV.toD, PV.toDs, PyData.eqv, PyData.eqvAll, getList, newCell, setCell, slice, bound, cut, textOk, empty_append, andor, oror, andand, orand, strOk_num, strOk_v, strOk_n, strOk_nm, strOk_fr, v_lam, v_app, v_fr, fr_lam, fr_app, v_take, v_drop, fr_take, List.getElem?_append, fieldText, relab, compOk, Vars.comp, Nm.text_beq, T.lay_pv, T.spots, pathPV, Function.comp_def]⟩
      · intro σ
        obtain ⟨g, m, q1, q2⟩ := h2 σ
        exact ⟨g, m, by simp [evSs, evS, evE, evEs, evT, evA, evB, evC, evO, evI, evF, ofString_inj, ofString_beq, strOk_ofString, strOk_append, M.then, bind_at, pure_at, fail_at, lift_some_at, lift_none_at, ite_at, isGlob, varOf, Vars.of, Vars.setAll, Vars.set, constOf, item, pickAt, cmpop, eqTop, PV.lay, PV.lays, PV.depth, PV.depths, binop, List.lookup_cons, plainArgs, const1, exn1, fuel1, isDef1, places1, consts1, exns1, bnames, callBuiltin, lenOf, small, canStore, pyEq, PV.toD, PV.toDs, PyData.eqv, PyData.eqvAll, getList, newCell, setCell, slice, bound, cut, textOk, empty_append, andor, oror, andand, orand, strOk_num, strOk_v, strOk_n, strOk_nm, strOk_fr, v_lam, v_app, v_fr, fr_lam, fr_app, v_take, v_drop, fr_take, List.getElem?_append, fieldText, relab, compOk, Vars.comp, Nm.text_beq, T.lay_pv, q1], q2⟩
      · intro p hp; exact gives_pure _
      · intro p hp _ σ
        have := hdp2 p hp
        have e2 : p.length ≤ 100000 := by omega
        simp [evSs, evS, evE, evEs, evT, evA, evB, evC, evO, evI, evF, ofString_inj, ofString_beq, strOk_ofString, strOk_append, M.then, bind_at, pure_at, fail_at, lift_some_at, lift_none_at, ite_at, isGlob, varOf, Vars.of, Vars.setAll, Vars.set, constOf, item, pickAt, cmpop, eqTop, PV.lay, PV.lays, PV.depth, PV.depths, binop, List.lookup_cons, plainArgs, const1, exn1, fuel1, isDef1, places1, consts1, exns1, bnames, callBuiltin, lenOf, small, canStore, pyEq, PV.toD, PV.toDs, PyData.eqv, PyData.eqvAll, getList, newCell, setCell, slice, bound, cut, textOk, empty_append, andor, oror, andand, orand, strOk_num, strOk_v, strOk_n, strOk_nm, strOk_fr, v_lam, v_app, v_fr, fr_lam, fr_app, v_take, v_drop, fr_take, List.getElem?_append, fieldText, relab, compOk, Vars.comp, Nm.text_beq, T.lay_pv, pathPV, e2]
    · intro σ
      obtain ⟨g, m, q1, q2⟩ := h1 σ
      exact ⟨g, m, by simp [evSs, evS, evE, evEs, evT, evA, evB, evC, evO, evI, evF, ofString_inj, ofString_beq, strOk_ofString, strOk_append, M.then, bind_at, pure_at, fail_at, lift_some_at, lift_none_at, ite_at, isGlob, varOf, Vars.of, Vars.setAll, Vars.set, constOf, item, pickAt, cmpop, eqTop, PV.lay, PV.lays, PV.depth, PV.depths, binop, List.lookup_cons, plainArgs, const1, exn1, fuel1, isDef1, places1, consts1, exns1, bnames, callBuiltin, lenOf, small, canStore, pyEq, PV.toD, PV.toDs, PyData.eqv, PyData.eqvAll, getList, newCell, setCell, slice, bound, cut, textOk, empty_append, andor, oror, andand, orand, strOk_num, strOk_v, strOk_n, strOk_nm, strOk_fr, v_lam, v_app, v_fr, fr_lam, fr_app, v_take, v_drop, fr_take, List.getElem?_append, fieldText, relab, compOk, Vars.comp, Nm.text_beq, T.lay_pv, q1], q2⟩
    · intro p hp; exact gives_pure _
    · intro p hp _ σ
      have := hdp p hp
      have e2 : p.length ≤ 100000 := by omega
      simp [evSs, evS, evE, evEs, evT, evA, evB, evC, evO, evI, evF, ofString_inj, ofString_beq, strOk_ofString, strOk_append, M.then, bind_at, pure_at, fail_at, lift_some_at, lift_none_at, ite_at, isGlob, varOf, Vars.of, Vars.setAll, Vars.set, constOf, item, pickAt, cmpop, eqTop, PV.lay, PV.lays, PV.depth, PV.depths, binop, List.lookup_cons, plainArgs, const1, exn1, fuel1, isDef1, places1, consts1, exns1, bnames, callBuiltin, lenOf, small, canStore, pyEq, PV.toD, PV.toDs, PyData.eqv, PyData.eqvAll, getList, newCell, setCell, slice, bound, cut, textOk, empty_append, andor, oror, andand, orand, strOk_num, strOk_v, strOk_n, strOk_nm, strOk_fr, v_lam, v_app, v_fr, fr_lam, fr_app, v_take, v_drop, fr_take, List.getElem?_append, fieldText, relab, compOk, Vars.comp, Nm.text_beq, T.lay_pv, pathPV, e2]
end Mine

-- P13
namespace Mine
open PySem

def T.step : T → Option T
  | .app (.lam x c) a => some (T.put x a c)
  | .app a b => match a.step with
    | some a' => some (.app a' b)
    | none => match b.step with
      | some b' => some (.app a b')
      | none => none
  | .lam x b => match b.step with
    | some b' => some (.lam x b')
    | none => none
  | .nm _ => none
def T.redexAt (t : T) (p : List Nat) : Bool := match t.part p with
  | some u => u.redex
  | none => false
def T.backs (t : T) : List (List Nat) := t.spots.filter t.redexAt
theorem T.backs_lam (x : Nm) (b : T) : (T.lam x b).backs = b.backs.map (2 :: ·) := by
  unfold T.backs
  rw [show (T.lam x b).spots = [] :: b.spots.map (2 :: ·) from rfl, List.filter_cons_of_neg (by simp [evSs, evS, evE, evEs, evT, evA, evB, evC, evO, evI, evF, ofString_inj, ofString_beq, strOk_ofString, strOk_append, M.then, bind_at, pure_at, fail_at, lift_some_at, lift_none_at, ite_at, isGlob, varOf, Vars.of, Vars.setAll, Vars.set, constOf, item, pickAt, cmpop, eqTop, PV.lay, PV.lays, PV.depth, PV.depths, binop, List.lookup_cons, plainArgs, const1, exn1, fuel1, isDef1, places1, consts1, exns1, bnames, callBuiltin, lenOf, small, canStore, pyEq, PV.toD, PV.toDs, PyData.eqv, PyData.eqvAll, getList, newCell, setCell, slice, bound, cut, textOk, empty_append, andor, oror, andand, orand, strOk_num, strOk_v, strOk_n, strOk_nm, strOk_fr, v_lam, v_app, v_fr, fr_lam, fr_app, v_take, v_drop, fr_take, List.getElem?_append, fieldText, relab, compOk, Vars.comp, Nm.text_beq, T.lay_pv, T.redexAt, T.part, T.redex]), List.filter_map]
  rfl
theorem T.backs_app (a b : T) : (T.app a b).backs = (if (T.app a b).redex then [[]] else []) ++ a.backs.map (1 :: ·) ++ b.backs.map (2 :: ·) := by
  unfold T.backs
  rw [show (T.app a b).spots = [] :: (a.spots.map (1 :: ·) ++ b.spots.map (2 :: ·)) from rfl, List.filter_cons]
  rw [List.filter_append, List.filter_map, List.filter_map]
  have e1 : ((T.app a b).redexAt ∘ fun x => 1 :: x) = a.redexAt := rfl
  have e2 : ((T.app a b).redexAt ∘ fun x => 2 :: x) = b.redexAt := rfl
  rw [e1, e2]
  have e3 : (T.app a b).redexAt [] = (T.app a b).redex := rfl
  rw [e3]
  cases (T.app a b).redex <;> simp [evSs, evS, evE, evEs, evT, evA, evB, evC, evO, evI, evF, ofString_inj, ofString_beq, strOk_ofString, strOk_append, M.then, bind_at, pure_at, fail_at, lift_some_at, lift_none_at, ite_at, isGlob, varOf, Vars.of, Vars.setAll, Vars.set, constOf, item, pickAt, cmpop, eqTop, PV.lay, PV.lays, PV.depth, PV.depths, binop, List.lookup_cons, plainArgs, const1, exn1, fuel1, isDef1, places1, consts1, exns1, bnames, callBuiltin, lenOf, small, canStore, pyEq, PV.toD, PV.toDs, PyData.eqv, PyData.eqvAll, getList, newCell, setCell, slice, bound, cut, textOk, empty_append, andor, oror, andand, orand, strOk_num, strOk_v, strOk_n, strOk_nm, strOk_fr, v_lam, v_app, v_fr, fr_lam, fr_app, v_take, v_drop, fr_take, List.getElem?_append, fieldText, relab, compOk, Vars.comp, Nm.text_beq, T.lay_pv]
theorem T.redex_iff (a b : T) : ((T.app a b).redex = true ∧ ∃ x c, a = .lam x c) ∨ ((T.app a b).redex = false ∧ (T.app a b).step = match a.step with
    | some a' => some (.app a' b)
    | none => match b.step with
      | some b' => some (.app a b')
      | none => none) := by
  cases a with
  | lam x c => exact .inl ⟨rfl, _, _, rfl⟩
  | _ => exact .inr ⟨rfl, rfl⟩
theorem T.step_backs (t : T) : match t.backs with
    | [] => t.step = none
    | p :: _ => ∃ x c a, t.part p = some (.app (.lam x c) a) ∧ t.step = some (T.repl (T.put x a c) t p) ∧ c.size ≤ t.size ∧ p.length ≤ t.size := by
  induction t with
  | nm x => rfl
  | lam x b ih =>
    rw [T.backs_lam]
    unfold T.step
    cases hb : b.backs with
    | nil => rw [hb] at ih; simp only [List.map_nil] at ih ⊢; rw [ih]
    | cons p r =>
      rw [hb] at ih
      obtain ⟨y, c, a, h1, h2, h3, h4⟩ := ih
      refine ⟨y, c, a, h1, by rw [h2]; rfl, ?_, ?_⟩
      · show _ ≤ b.size + 1
        omega
      · show p.length + 1 ≤ b.size + 1
        omega
  | app a b ih1 ih2 =>
    rw [T.backs_app]
    have hz : (T.app a b).size = a.size + b.size + 1 := rfl
    rcases T.redex_iff a b with ⟨h, x, c, rfl⟩ | ⟨h, hs⟩
    · rw [h]
      refine ⟨x, c, b, rfl, rfl, ?_, Nat.zero_le _⟩
      show _ ≤ c.size + 1 + b.size + 1
      omega
    · rw [h, hs]
      simp only [Bool.false_eq_true, ↓reduceIte, List.nil_append]
      cases ha : a.backs with
      | cons p r =>
        rw [ha] at ih1
        obtain ⟨x, c, y, h1, h2, h3, h4⟩ := ih1
        exact ⟨x, c, y, h1, by rw [h2]; rfl, by omega, by show p.length + 1 ≤ _; omega⟩
      | nil =>
        rw [ha] at ih1
        simp only at ih1
        rw [ih1]
        simp only [List.map_nil, List.nil_append]
        cases hb : b.backs with
        | nil => rw [hb] at ih2; simp only [List.map_nil] at ih2 ⊢; rw [ih2]
        | cons p r =>
          rw [hb] at ih2
          obtain ⟨x, c, y, h1, h2, h3, h4⟩ := ih2
          exact ⟨x, c, y, h1, by rw [h2]; rfl, by omega, by show p.length + 1 ≤ _; omega⟩

inductive TEnds : T → Nat → T → Prop where
  | done {t : T} : t.step = none → t.size ≤ 150 → TEnds t 0 t
  | more {t t' u : T} {n : Nat} : t.step = some t' → t.size ≤ 150 → TEnds t' n u → TEnds t (n + 1) u
theorem lays_paths (l : List (List Nat)) : PV.lays (l.map pathPV) = true := by
  induction l with
  | nil => rfl
  | cons p l ih => simp [evSs, evS, evE, evEs, evT, evA, evB, evC, evO, evI, evF, ofString_inj, ofString_beq, strOk_ofString, strOk_append, M.then, bind_at, pure_at, fail_at, lift_some_at, lift_none_at, ite_at, isGlob, varOf, Vars.of, Vars.setAll, Vars.set, constOf, item, pickAt, cmpop, eqTop, PV.lay, PV.lays, PV.depth, PV.depths, binop, List.lookup_cons, plainArgs, const1, exn1, fuel1, isDef1, places1, consts1, exns1, bnames, callBuiltin, lenOf, small, canStore, pyEq, PV.toD, PV.toDs, PyData.eqv, PyData.eqvAll, getList, newCell, setCell, slice, bound, cut, textOk, empty_append, andor, oror, andand, orand, strOk_num, strOk_v, strOk_n, strOk_nm, strOk_fr, v_lam, v_app, v_fr, fr_lam, fr_app, v_take, v_drop, fr_take, List.getElem?_append, fieldText, relab, compOk, Vars.comp, Nm.text_beq, T.lay_pv, pathPV, lays_path] at ih ⊢; exact ih
theorem depths_paths (l : List (List Nat)) : PV.depths (l.map pathPV) ≤ 1 := by
  induction l with
  | nil => simp [evSs, evS, evE, evEs, evT, evA, evB, evC, evO, evI, evF, ofString_inj, ofString_beq, strOk_ofString, strOk_append, M.then, bind_at, pure_at, fail_at, lift_some_at, lift_none_at, ite_at, isGlob, varOf, Vars.of, Vars.setAll, Vars.set, constOf, item, pickAt, cmpop, eqTop, PV.lay, PV.lays, PV.depth, PV.depths, binop, List.lookup_cons, plainArgs, const1, exn1, fuel1, isDef1, places1, consts1, exns1, bnames, callBuiltin, lenOf, small, canStore, pyEq, PV.toD, PV.toDs, PyData.eqv, PyData.eqvAll, getList, newCell, setCell, slice, bound, cut, textOk, empty_append, andor, oror, andand, orand, strOk_num, strOk_v, strOk_n, strOk_nm, strOk_fr, v_lam, v_app, v_fr, fr_lam, fr_app, v_take, v_drop, fr_take, List.getElem?_append, fieldText, relab, compOk, Vars.comp, Nm.text_beq, T.lay_pv]
  | cons p l ih => simp [evSs, evS, evE, evEs, evT, evA, evB, evC, evO, evI, evF, ofString_inj, ofString_beq, strOk_ofString, strOk_append, M.then, bind_at, pure_at, fail_at, lift_some_at, lift_none_at, ite_at, isGlob, varOf, Vars.of, Vars.setAll, Vars.set, constOf, item, pickAt, cmpop, eqTop, PV.lay, PV.lays, PV.depth, PV.depths, binop, List.lookup_cons, plainArgs, const1, exn1, fuel1, isDef1, places1, consts1, exns1, bnames, callBuiltin, lenOf, small, canStore, pyEq, PV.toD, PV.toDs, PyData.eqv, PyData.eqvAll, getList, newCell, setCell, slice, bound, cut, textOk, empty_append, andor, oror, andand, orand, strOk_num, strOk_v, strOk_n, strOk_nm, strOk_fr, v_lam, v_app, v_fr, fr_lam, fr_app, v_take, v_drop, fr_take, List.getElem?_append, fieldText, relab, compOk, Vars.comp, Nm.text_beq, T.lay_pv, pathPV, depths_path] at ih ⊢; omega

theorem end_spec (t u : T) (n : Nat) (h : TEnds t n u) (hn : n < 100000) : Calls "_law_end" [t.pv] 160 (.tup [u.pv, .int n]) := by
  refine calls_of rfl fun d hd σ => ?_
  unfold callOf
  rw [show defAt PySem.Challenge.pw_pq0040_01 36 = Def.mk _ _ _ from rfl]
  simp [evSs, evS, evE, evEs, evT, evA, evB, evC, evO, evI, evF, ofString_inj, ofString_beq, strOk_ofString, strOk_append, M.then, bind_at, pure_at, fail_at, lift_some_at, lift_none_at, ite_at, isGlob, varOf, Vars.of, Vars.setAll, Vars.set, constOf, item, pickAt, cmpop, eqTop, PV.lay, PV.lays, PV.depth, PV.depths, binop, List.lookup_cons, plainArgs, const1, exn1, fuel1, isDef1, places1, consts1, exns1, bnames, callBuiltin, lenOf, small, canStore, pyEq, PV.toD, PV.toDs, PyData.eqv, PyData.eqvAll, getList, newCell, setCell, slice, bound, cut, textOk, empty_append, andor, oror, andand, orand, strOk_num, strOk_v, strOk_n, strOk_nm, strOk_fr, v_lam, v_app, v_fr, fr_lam, fr_app, v_take, v_drop, fr_take, List.getElem?_append, fieldText, relab, compOk, Vars.comp, Nm.text_beq, T.lay_pv]
  generalize hF : whileGo _ _ _ _ _ = F
  obtain ⟨o, rfl, hq⟩ : ∃ o, F = some o ∧ (∃ g, o = .ret (.tup [u.pv, .int n]) (σ ++ g)) := by
    refine whileGo_at hF (fun m ρ σ' => ∃ (t' : T) (many : Nat), TEnds t' m u ∧ many + m = n ∧ ρ "tree" = some t'.pv ∧ ρ "many" = some (.int many) ∧ ∃ g, σ' = σ ++ g) _ (m := n) hn ?_ ?_
    · exact ⟨t, 0, h, by omega, by simp [evSs, evS, evE, evEs, evT, evA, evB, evC, evO, evI, evF, ofString_inj, ofString_beq, strOk_ofString, strOk_append, M.then, bind_at, pure_at, fail_at, lift_some_at, lift_none_at, ite_at, isGlob, varOf, Vars.of, Vars.setAll, Vars.set, constOf, item, pickAt, cmpop, eqTop, PV.lay, PV.lays, PV.depth, PV.depths, binop, List.lookup_cons, plainArgs, const1, exn1, fuel1, isDef1, places1, consts1, exns1, bnames, callBuiltin, lenOf, small, canStore, pyEq, PV.toD, PV.toDs, PyData.eqv, PyData.eqvAll, getList, newCell, setCell, slice, bound, cut, textOk, empty_append, andor, oror, andand, orand, strOk_num, strOk_v, strOk_n, strOk_nm, strOk_fr, v_lam, v_app, v_fr, fr_lam, fr_app, v_take, v_drop, fr_take, List.getElem?_append, fieldText, relab, compOk, Vars.comp, Nm.text_beq, T.lay_pv], by simp [evSs, evS, evE, evEs, evT, evA, evB, evC, evO, evI, evF, ofString_inj, ofString_beq, strOk_ofString, strOk_append, M.then, bind_at, pure_at, fail_at, lift_some_at, lift_none_at, ite_at, isGlob, varOf, Vars.of, Vars.setAll, Vars.set, constOf, item, pickAt, cmpop, eqTop, PV.lay, PV.lays, PV.depth, PV.depths, binop, List.lookup_cons, plainArgs, const1, exn1, fuel1, isDef1, places1, consts1, exns1, bnames, callBuiltin, lenOf, small, canStore, pyEq, PV.toD, PV.toDs, PyData.eqv, PyData.eqvAll, getList, newCell, setCell, slice, bound, cut, textOk, empty_append, andor, oror, andand, orand, strOk_num, strOk_v, strOk_n, strOk_nm, strOk_fr, v_lam, v_app, v_fr, fr_lam, fr_app, v_take, v_drop, fr_take, List.getElem?_append, fieldText, relab, compOk, Vars.comp, Nm.text_beq, T.lay_pv], [], by simp [evSs, evS, evE, evEs, evT, evA, evB, evC, evO, evI, evF, ofString_inj, ofString_beq, strOk_ofString, strOk_append, M.then, bind_at, pure_at, fail_at, lift_some_at, lift_none_at, ite_at, isGlob, varOf, Vars.of, Vars.setAll, Vars.set, constOf, item, pickAt, cmpop, eqTop, PV.lay, PV.lays, PV.depth, PV.depths, binop, List.lookup_cons, plainArgs, const1, exn1, fuel1, isDef1, places1, consts1, exns1, bnames, callBuiltin, lenOf, small, canStore, pyEq, PV.toD, PV.toDs, PyData.eqv, PyData.eqvAll, getList, newCell, setCell, slice, bound, cut, textOk, empty_append, andor, oror, andand, orand, strOk_num, strOk_v, strOk_n, strOk_nm, strOk_fr, v_lam, v_app, v_fr, fr_lam, fr_app, v_take, v_drop, fr_take, List.getElem?_append, fieldText, relab, compOk, Vars.comp, Nm.text_beq, T.lay_pv]⟩
    · clear hF
      rintro m ρ σ' ⟨t', many, hE, hmn, ht, hmany, g, rfl⟩
      have hsz : t'.size ≤ 150 := by cases hE <;> assumption
      have h2 := spots_spec t' (by omega) d (by omega)
      have hl := T.spots_len t'
      have hsf := T.step_backs t'
      have e1 : t'.spots.length ≤ 100000 := by omega
      have hdp := T.spots_depth t'
      refine ⟨true, σ ++ g, ?_, ?_⟩
      · simp [evSs, evS, evE, evEs, evT, evA, evB, evC, evO, evI, evF, ofString_inj, ofString_beq, strOk_ofString, strOk_append, M.then, bind_at, pure_at, fail_at, lift_some_at, lift_none_at, ite_at, isGlob, varOf, Vars.of, Vars.setAll, Vars.set, constOf, item, pickAt, cmpop, eqTop, PV.lay, PV.lays, PV.depth, PV.depths, binop, List.lookup_cons, plainArgs, const1, exn1, fuel1, isDef1, places1, consts1, exns1, bnames, callBuiltin, lenOf, small, canStore, pyEq, PV.toD, PV.toDs, PyData.eqv, PyData.eqvAll, getList, newCell, setCell, slice, bound, cut, textOk, empty_append, andor, oror, andand, orand, strOk_num, strOk_v, strOk_n, strOk_nm, strOk_fr, v_lam, v_app, v_fr, fr_lam, fr_app, v_take, v_drop, fr_take, List.getElem?_append, fieldText, relab, compOk, Vars.comp, Nm.text_beq, T.lay_pv]
      · simp [evSs, evS, evE, evEs, evT, evA, evB, evC, evO, evI, evF, ofString_inj, ofString_beq, strOk_ofString, strOk_append, M.then, bind_at, pure_at, fail_at, lift_some_at, lift_none_at, ite_at, isGlob, varOf, Vars.of, Vars.setAll, Vars.set, constOf, item, pickAt, cmpop, eqTop, PV.lay, PV.lays, PV.depth, PV.depths, binop, List.lookup_cons, plainArgs, const1, exn1, fuel1, isDef1, places1, consts1, exns1, bnames, callBuiltin, lenOf, small, canStore, pyEq, PV.toD, PV.toDs, PyData.eqv, PyData.eqvAll, getList, newCell, setCell, slice, bound, cut, textOk, empty_append, andor, oror, andand, orand, strOk_num, strOk_v, strOk_n, strOk_nm, strOk_fr, v_lam, v_app, v_fr, fr_lam, fr_app, v_take, v_drop, fr_take, List.getElem?_append, fieldText, relab, compOk, Vars.comp, Nm.text_beq, T.lay_pv, ht]
        rw [(compM_refs t'.spots pathPV pathPV t'.redexAt ?_ e1 ?_ ?_).at]
        · generalize gar _ _ _ = g1
          have q1 := lays_paths t'.backs
          have q2 : PV.depths (t'.backs.map pathPV) < 2000 := Nat.lt_of_le_of_lt (depths_paths _) (by decide)
          rw [show t'.spots.filter t'.redexAt = t'.backs from rfl]
          simp [evSs, evS, evE, evEs, evT, evA, evB, evC, evO, evI, evF, ofString_inj, ofString_beq, strOk_ofString, strOk_append, M.then, bind_at, pure_at, fail_at, lift_some_at, lift_none_at, ite_at, isGlob, varOf, Vars.of, Vars.setAll, Vars.set, constOf, item, pickAt, cmpop, eqTop, PV.lay, PV.lays, PV.depth, PV.depths, binop, List.lookup_cons, plainArgs, const1, exn1, fuel1, isDef1, places1, consts1, exns1, bnames, callBuiltin, lenOf, small, canStore, pyEq, PV.toD, PV.toDs, PyData.eqv, PyData.eqvAll, getList, newCell, setCell, slice, bound, cut, textOk, empty_append, andor, oror, andand, orand, strOk_num, strOk_v, strOk_n, strOk_nm, strOk_fr, v_lam, v_app, v_fr, fr_lam, fr_app, v_take, v_drop, fr_take, List.getElem?_append, fieldText, relab, compOk, Vars.comp, Nm.text_beq, T.lay_pv, q1, q2, eqv_nil]
          cases hb : t'.backs with
          | nil =>
            rw [hb] at hsf
            simp only at hsf
            cases hE with
            | more e _ _ => rw [hsf] at e; exact absurd e (by simp [evSs, evS, evE, evEs, evT, evA, evB, evC, evO, evI, evF, ofString_inj, ofString_beq, strOk_ofString, strOk_append, M.then, bind_at, pure_at, fail_at, lift_some_at, lift_none_at, ite_at, isGlob, varOf, Vars.of, Vars.setAll, Vars.set, constOf, item, pickAt, cmpop, eqTop, PV.lay, PV.lays, PV.depth, PV.depths, binop, List.lookup_cons, plainArgs, const1, exn1, fuel1, isDef1, places1, consts1, exns1, bnames, callBuiltin, lenOf, small, canStore, pyEq, PV.toD, PV.toDs, PyData.eqv, PyData.eqvAll, getList, newCell, setCell, slice, bound, cut, textOk, empty_append, andor, oror, andand, orand, strOk_num, strOk_v, strOk_n, strOk_nm, strOk_fr, v_lam, v_app, v_fr, fr_lam, fr_app, v_take, v_drop, fr_take, List.getElem?_append, fieldText, relab, compOk, Vars.comp, Nm.text_beq, T.lay_pv])
            | done _ _ =>
              simp [evSs, evS, evE, evEs, evT, evA, evB, evC, evO, evI, evF, ofString_inj, ofString_beq, strOk_ofString, strOk_append, M.then, bind_at, pure_at, fail_at, lift_some_at, lift_none_at, ite_at, isGlob, varOf, Vars.of, Vars.setAll, Vars.set, constOf, item, pickAt, cmpop, eqTop, PV.lay, PV.lays, PV.depth, PV.depths, binop, List.lookup_cons, plainArgs, const1, exn1, fuel1, isDef1, places1, consts1, exns1, bnames, callBuiltin, lenOf, small, canStore, pyEq, PV.toD, PV.toDs, PyData.eqv, PyData.eqvAll, getList, newCell, setCell, slice, bound, cut, textOk, empty_append, andor, oror, andand, orand, strOk_num, strOk_v, strOk_n, strOk_nm, strOk_fr, v_lam, v_app, v_fr, fr_lam, fr_app, v_take, v_drop, fr_take, List.getElem?_append, fieldText, relab, compOk, Vars.comp, Nm.text_beq, T.lay_pv, ht, hmany]
              omega
          | cons p r =>
            rw [hb] at hsf
            obtain ⟨x, c, a, p1, p2, p3, p4⟩ := hsf
            have c1 := (lpart_spec t' _ p (by omega) p1 d (by omega)).at
            have c2 := (worked_spec x c a (by omega) d (by omega)).at
            have c3 := (lwith_spec (T.put x a c) p t' _ (by omega) p1 d (by omega)).at
            cases hE with
            | done e _ => rw [p2] at e; exact absurd e (by simp [evSs, evS, evE, evEs, evT, evA, evB, evC, evO, evI, evF, ofString_inj, ofString_beq, strOk_ofString, strOk_append, M.then, bind_at, pure_at, fail_at, lift_some_at, lift_none_at, ite_at, isGlob, varOf, Vars.of, Vars.setAll, Vars.set, constOf, item, pickAt, cmpop, eqTop, PV.lay, PV.lays, PV.depth, PV.depths, binop, List.lookup_cons, plainArgs, const1, exn1, fuel1, isDef1, places1, consts1, exns1, bnames, callBuiltin, lenOf, small, canStore, pyEq, PV.toD, PV.toDs, PyData.eqv, PyData.eqvAll, getList, newCell, setCell, slice, bound, cut, textOk, empty_append, andor, oror, andand, orand, strOk_num, strOk_v, strOk_n, strOk_nm, strOk_fr, v_lam, v_app, v_fr, fr_lam, fr_app, v_take, v_drop, fr_take, List.getElem?_append, fieldText, relab, compOk, Vars.comp, Nm.text_beq, T.lay_pv])
            | more e _ hE' =>
              rename_i n'
              rw [p2] at e
              cases e
              simp [evSs, evS, evE, evEs, evT, evA, evB, evC, evO, evI, evF, ofString_inj, ofString_beq, strOk_ofString, strOk_append, M.then, bind_at, pure_at, fail_at, lift_some_at, lift_none_at, ite_at, isGlob, varOf, Vars.of, Vars.setAll, Vars.set, constOf, item, pickAt, cmpop, eqTop, PV.lay, PV.lays, PV.depth, PV.depths, binop, List.lookup_cons, plainArgs, const1, exn1, fuel1, isDef1, places1, consts1, exns1, bnames, callBuiltin, lenOf, small, canStore, pyEq, PV.toD, PV.toDs, PyData.eqv, PyData.eqvAll, getList, newCell, setCell, slice, bound, cut, textOk, empty_append, andor, oror, andand, orand, strOk_num, strOk_v, strOk_n, strOk_nm, strOk_fr, v_lam, v_app, v_fr, fr_lam, fr_app, v_take, v_drop, fr_take, List.getElem?_append, fieldText, relab, compOk, Vars.comp, Nm.text_beq, T.lay_pv, ht, hmany, targetNames, tupleOk, constantsAlone, c1, c2, c3]
              exact ⟨_, Nat.lt_succ_self _, _, hE', many + 1, by omega, rfl, by simp [evSs, evS, evE, evEs, evT, evA, evB, evC, evO, evI, evF, ofString_inj, ofString_beq, strOk_ofString, strOk_append, M.then, bind_at, pure_at, fail_at, lift_some_at, lift_none_at, ite_at, isGlob, varOf, Vars.of, Vars.setAll, Vars.set, constOf, item, pickAt, cmpop, eqTop, PV.lay, PV.lays, PV.depth, PV.depths, binop, List.lookup_cons, plainArgs, const1, exn1, fuel1, isDef1, places1, consts1, exns1, bnames, callBuiltin, lenOf, small, canStore, pyEq, PV.toD, PV.toDs, PyData.eqv, PyData.eqvAll, getList, newCell, setCell, slice, bound, cut, textOk, empty_append, andor, oror, andand, orand, strOk_num, strOk_v, strOk_n, strOk_nm, strOk_fr, v_lam, v_app, v_fr, fr_lam, fr_app, v_take, v_drop, fr_take, List.getElem?_append, fieldText, relab, compOk, Vars.comp, Nm.text_beq, T.lay_pv]⟩
        · intro σ
          obtain ⟨g, m, q1, q2⟩ := h2 σ
          exact ⟨g, m, by simp [evSs, evS, evE, evEs, evT, evA, evB, evC, evO, evI, evF, ofString_inj, ofString_beq, strOk_ofString, strOk_append, M.then, bind_at, pure_at, fail_at, lift_some_at, lift_none_at, ite_at, isGlob, varOf, Vars.of, Vars.setAll, Vars.set, constOf, item, pickAt, cmpop, eqTop, PV.lay, PV.lays, PV.depth, PV.depths, binop, List.lookup_cons, plainArgs, const1, exn1, fuel1, isDef1, places1, consts1, exns1, bnames, callBuiltin, lenOf, small, canStore, pyEq, PV.toD, PV.toDs, PyData.eqv, PyData.eqvAll, getList, newCell, setCell, slice, bound, cut, textOk, empty_append, andor, oror, andand, orand, strOk_num, strOk_v, strOk_n, strOk_nm, strOk_fr, v_lam, v_app, v_fr, fr_lam, fr_app, v_take, v_drop, fr_take, List.getElem?_append, fieldText, relab, compOk, Vars.comp, Nm.text_beq, T.lay_pv, q1], q2⟩
        · intro p hp σ
          obtain ⟨v, hv⟩ := T.spots_part t' p hp
          have hpl := hdp p hp
          have c1 := (lpart_spec t' v p (by omega) hv d (by omega)).at
          have c2 := (isapp_spec v d (by omega)).at
          simp [evSs, evS, evE, evEs, evT, evA, evB, evC, evO, evI, evF, ofString_inj, ofString_beq, strOk_ofString, strOk_append, M.then, bind_at, pure_at, fail_at, lift_some_at, lift_none_at, ite_at, isGlob, varOf, Vars.of, Vars.setAll, Vars.set, constOf, item, pickAt, cmpop, eqTop, PV.lay, PV.lays, PV.depth, PV.depths, binop, List.lookup_cons, plainArgs, const1, exn1, fuel1, isDef1, places1, consts1, exns1, bnames, callBuiltin, lenOf, small, canStore, pyEq, PV.toD, PV.toDs, PyData.eqv, PyData.eqvAll, getList, newCell, setCell, slice, bound, cut, textOk, empty_append, andor, oror, andand, orand, strOk_num, strOk_v, strOk_n, strOk_nm, strOk_fr, v_lam, v_app, v_fr, fr_lam, fr_app, v_take, v_drop, fr_take, List.getElem?_append, fieldText, relab, compOk, Vars.comp, Nm.text_beq, T.lay_pv, c1, c2, T.redexAt, hv]
        · intro p hp _ σ
          simp [evSs, evS, evE, evEs, evT, evA, evB, evC, evO, evI, evF, ofString_inj, ofString_beq, strOk_ofString, strOk_append, M.then, bind_at, pure_at, fail_at, lift_some_at, lift_none_at, ite_at, isGlob, varOf, Vars.of, Vars.setAll, Vars.set, constOf, item, pickAt, cmpop, eqTop, PV.lay, PV.lays, PV.depth, PV.depths, binop, List.lookup_cons, plainArgs, const1, exn1, fuel1, isDef1, places1, consts1, exns1, bnames, callBuiltin, lenOf, small, canStore, pyEq, PV.toD, PV.toDs, PyData.eqv, PyData.eqvAll, getList, newCell, setCell, slice, bound, cut, textOk, empty_append, andor, oror, andand, orand, strOk_num, strOk_v, strOk_n, strOk_nm, strOk_fr, v_lam, v_app, v_fr, fr_lam, fr_app, v_take, v_drop, fr_take, List.getElem?_append, fieldText, relab, compOk, Vars.comp, Nm.text_beq, T.lay_pv]
  obtain ⟨g, rfl⟩ := hq
  exact ⟨g, by simp [evSs, evS, evE, evEs, evT, evA, evB, evC, evO, evI, evF, ofString_inj, ofString_beq, strOk_ofString, strOk_append, M.then, bind_at, pure_at, fail_at, lift_some_at, lift_none_at, ite_at, isGlob, varOf, Vars.of, Vars.setAll, Vars.set, constOf, item, pickAt, cmpop, eqTop, PV.lay, PV.lays, PV.depth, PV.depths, binop, List.lookup_cons, plainArgs, const1, exn1, fuel1, isDef1, places1, consts1, exns1, bnames, callBuiltin, lenOf, small, canStore, pyEq, PV.toD, PV.toDs, PyData.eqv, PyData.eqvAll, getList, newCell, setCell, slice, bound, cut, textOk, empty_append, andor, oror, andand, orand, strOk_num, strOk_v, strOk_n, strOk_nm, strOk_fr, v_lam, v_app, v_fr, fr_lam, fr_app, v_take, v_drop, fr_take, List.getElem?_append, fieldText, relab, compOk, Vars.comp, Nm.text_beq, T.lay_pv]⟩

def core (env : List Nm) : T → B
  | .nm x => if x ∈ env then .var (env.idxOf x) else .fr (decide (x = .k))
  | .lam x b => .lam (core (x :: env) b)
  | .app a b => .app (core env a) (core env b)
/-- what no lam binds is k or m -/
def T.closed (env : List Nm) : T → Prop
  | .nm x => x ∈ env ∨ x = .k ∨ x = .m
  | .lam x b => T.closed (x :: env) b
  | .app a b => T.closed env a ∧ T.closed env b
def envPV (env : List Nm) : List PV := env.map fun x => .str x.text
theorem env_any (env : List Nm) (x : Nm) : ((envPV env).any fun y => PyData.eqv y.toD (PV.str x.text).toD) = decide (x ∈ env) := by
  induction env with
  | nil => simp [evSs, evS, evE, evEs, evT, evA, evB, evC, evO, evI, evF, ofString_inj, ofString_beq, strOk_ofString, strOk_append, M.then, bind_at, pure_at, fail_at, lift_some_at, lift_none_at, ite_at, isGlob, varOf, Vars.of, Vars.setAll, Vars.set, constOf, item, pickAt, cmpop, eqTop, PV.lay, PV.lays, PV.depth, PV.depths, binop, List.lookup_cons, plainArgs, const1, exn1, fuel1, isDef1, places1, consts1, exns1, bnames, callBuiltin, lenOf, small, canStore, pyEq, PV.toD, PV.toDs, PyData.eqv, PyData.eqvAll, getList, newCell, setCell, slice, bound, cut, textOk, empty_append, andor, oror, andand, orand, strOk_num, strOk_v, strOk_n, strOk_nm, strOk_fr, v_lam, v_app, v_fr, fr_lam, fr_app, v_take, v_drop, fr_take, List.getElem?_append, fieldText, relab, compOk, Vars.comp, Nm.text_beq, T.lay_pv, envPV]
  | cons y env ih =>
    simp only [envPV, List.map_cons, List.any_cons] at ih ⊢
    rw [ih]
    simp [evSs, evS, evE, evEs, evT, evA, evB, evC, evO, evI, evF, ofString_inj, ofString_beq, strOk_ofString, strOk_append, M.then, bind_at, pure_at, fail_at, lift_some_at, lift_none_at, ite_at, isGlob, varOf, Vars.of, Vars.setAll, Vars.set, constOf, item, pickAt, cmpop, eqTop, PV.lay, PV.lays, PV.depth, PV.depths, binop, List.lookup_cons, plainArgs, const1, exn1, fuel1, isDef1, places1, consts1, exns1, bnames, callBuiltin, lenOf, small, canStore, pyEq, PV.toD, PV.toDs, PyData.eqv, PyData.eqvAll, getList, newCell, setCell, slice, bound, cut, textOk, empty_append, andor, oror, andand, orand, strOk_num, strOk_v, strOk_n, strOk_nm, strOk_fr, v_lam, v_app, v_fr, fr_lam, fr_app, v_take, v_drop, fr_take, List.getElem?_append, fieldText, relab, compOk, Vars.comp, Nm.text_beq, T.lay_pv, Bool.decide_or]
    rw [show decide (x = y) = decide (y = x) from decide_eq_decide.mpr eq_comm]
theorem env_find (env : List Nm) (x : Nm) (h : x ∈ env) : ((envPV env).findIdx? fun y => PyData.eqv y.toD (PV.str x.text).toD) = some (env.idxOf x) := by
  induction env with
  | nil => exact absurd h (by simp [evSs, evS, evE, evEs, evT, evA, evB, evC, evO, evI, evF, ofString_inj, ofString_beq, strOk_ofString, strOk_append, M.then, bind_at, pure_at, fail_at, lift_some_at, lift_none_at, ite_at, isGlob, varOf, Vars.of, Vars.setAll, Vars.set, constOf, item, pickAt, cmpop, eqTop, PV.lay, PV.lays, PV.depth, PV.depths, binop, List.lookup_cons, plainArgs, const1, exn1, fuel1, isDef1, places1, consts1, exns1, bnames, callBuiltin, lenOf, small, canStore, pyEq, PV.toD, PV.toDs, PyData.eqv, PyData.eqvAll, getList, newCell, setCell, slice, bound, cut, textOk, empty_append, andor, oror, andand, orand, strOk_num, strOk_v, strOk_n, strOk_nm, strOk_fr, v_lam, v_app, v_fr, fr_lam, fr_app, v_take, v_drop, fr_take, List.getElem?_append, fieldText, relab, compOk, Vars.comp, Nm.text_beq, T.lay_pv])
  | cons y env ih =>
    simp only [envPV, List.map_cons, List.findIdx?_cons] at ih ⊢
    by_cases e : y = x
    · subst e; simp [evSs, evS, evE, evEs, evT, evA, evB, evC, evO, evI, evF, ofString_inj, ofString_beq, strOk_ofString, strOk_append, M.then, bind_at, pure_at, fail_at, lift_some_at, lift_none_at, ite_at, isGlob, varOf, Vars.of, Vars.setAll, Vars.set, constOf, item, pickAt, cmpop, eqTop, PV.lay, PV.lays, PV.depth, PV.depths, binop, List.lookup_cons, plainArgs, const1, exn1, fuel1, isDef1, places1, consts1, exns1, bnames, callBuiltin, lenOf, small, canStore, pyEq, PV.toD, PV.toDs, PyData.eqv, PyData.eqvAll, getList, newCell, setCell, slice, bound, cut, textOk, empty_append, andor, oror, andand, orand, strOk_num, strOk_v, strOk_n, strOk_nm, strOk_fr, v_lam, v_app, v_fr, fr_lam, fr_app, v_take, v_drop, fr_take, List.getElem?_append, fieldText, relab, compOk, Vars.comp, Nm.text_beq, T.lay_pv]
    · have := ih (by simpa [evSs, evS, evE, evEs, evT, evA, evB, evC, evO, evI, evF, ofString_inj, ofString_beq, strOk_ofString, strOk_append, M.then, bind_at, pure_at, fail_at, lift_some_at, lift_none_at, ite_at, isGlob, varOf, Vars.of, Vars.setAll, Vars.set, constOf, item, pickAt, cmpop, eqTop, PV.lay, PV.lays, PV.depth, PV.depths, binop, List.lookup_cons, plainArgs, const1, exn1, fuel1, isDef1, places1, consts1, exns1, bnames, callBuiltin, lenOf, small, canStore, pyEq, PV.toD, PV.toDs, PyData.eqv, PyData.eqvAll, getList, newCell, setCell, slice, bound, cut, textOk, empty_append, andor, oror, andand, orand, strOk_num, strOk_v, strOk_n, strOk_nm, strOk_fr, v_lam, v_app, v_fr, fr_lam, fr_app, v_take, v_drop, fr_take, List.getElem?_append, fieldText, relab, compOk, Vars.comp, Nm.text_beq, T.lay_pv, Ne.symm e] using h)
      rw [this]
      have e2 : (y == x) = false := by simpa [evSs, evS, evE, evEs, evT, evA, evB, evC, evO, evI, evF, ofString_inj, ofString_beq, strOk_ofString, strOk_append, M.then, bind_at, pure_at, fail_at, lift_some_at, lift_none_at, ite_at, isGlob, varOf, Vars.of, Vars.setAll, Vars.set, constOf, item, pickAt, cmpop, eqTop, PV.lay, PV.lays, PV.depth, PV.depths, binop, List.lookup_cons, plainArgs, const1, exn1, fuel1, isDef1, places1, consts1, exns1, bnames, callBuiltin, lenOf, small, canStore, pyEq, PV.toD, PV.toDs, PyData.eqv, PyData.eqvAll, getList, newCell, setCell, slice, bound, cut, textOk, empty_append, andor, oror, andand, orand, strOk_num, strOk_v, strOk_n, strOk_nm, strOk_fr, v_lam, v_app, v_fr, fr_lam, fr_app, v_take, v_drop, fr_take, List.getElem?_append, fieldText, relab, compOk, Vars.comp, Nm.text_beq, T.lay_pv] using e
      simp [evSs, evS, evE, evEs, evT, evA, evB, evC, evO, evI, evF, ofString_inj, ofString_beq, strOk_ofString, strOk_append, M.then, bind_at, pure_at, fail_at, lift_some_at, lift_none_at, ite_at, isGlob, varOf, Vars.of, Vars.setAll, Vars.set, constOf, item, pickAt, cmpop, eqTop, PV.lay, PV.lays, PV.depth, PV.depths, binop, List.lookup_cons, plainArgs, const1, exn1, fuel1, isDef1, places1, consts1, exns1, bnames, callBuiltin, lenOf, small, canStore, pyEq, PV.toD, PV.toDs, PyData.eqv, PyData.eqvAll, getList, newCell, setCell, slice, bound, cut, textOk, empty_append, andor, oror, andand, orand, strOk_num, strOk_v, strOk_n, strOk_nm, strOk_fr, v_lam, v_app, v_fr, fr_lam, fr_app, v_take, v_drop, fr_take, List.getElem?_append, fieldText, relab, compOk, Vars.comp, Nm.text_beq, T.lay_pv, e, List.idxOf_cons, e2]
theorem env_lays (env : List Nm) : PV.lays (envPV env) = true := by
  induction env with
  | nil => rfl
  | cons y env ih => simp only [envPV, List.map_cons] at ih ⊢; simp [evSs, evS, evE, evEs, evT, evA, evB, evC, evO, evI, evF, ofString_inj, ofString_beq, strOk_ofString, strOk_append, M.then, bind_at, pure_at, fail_at, lift_some_at, lift_none_at, ite_at, isGlob, varOf, Vars.of, Vars.setAll, Vars.set, constOf, item, pickAt, cmpop, eqTop, PV.lay, PV.lays, PV.depth, PV.depths, binop, List.lookup_cons, plainArgs, const1, exn1, fuel1, isDef1, places1, consts1, exns1, bnames, callBuiltin, lenOf, small, canStore, pyEq, PV.toD, PV.toDs, PyData.eqv, PyData.eqvAll, getList, newCell, setCell, slice, bound, cut, textOk, empty_append, andor, oror, andand, orand, strOk_num, strOk_v, strOk_n, strOk_nm, strOk_fr, v_lam, v_app, v_fr, fr_lam, fr_app, v_take, v_drop, fr_take, List.getElem?_append, fieldText, relab, compOk, Vars.comp, Nm.text_beq, T.lay_pv, ih]
theorem env_depths (env : List Nm) : PV.depths (envPV env) = 0 := by
  induction env with
  | nil => rfl
  | cons y env ih => simp only [envPV, List.map_cons] at ih ⊢; simp [evSs, evS, evE, evEs, evT, evA, evB, evC, evO, evI, evF, ofString_inj, ofString_beq, strOk_ofString, strOk_append, M.then, bind_at, pure_at, fail_at, lift_some_at, lift_none_at, ite_at, isGlob, varOf, Vars.of, Vars.setAll, Vars.set, constOf, item, pickAt, cmpop, eqTop, PV.lay, PV.lays, PV.depth, PV.depths, binop, List.lookup_cons, plainArgs, const1, exn1, fuel1, isDef1, places1, consts1, exns1, bnames, callBuiltin, lenOf, small, canStore, pyEq, PV.toD, PV.toDs, PyData.eqv, PyData.eqvAll, getList, newCell, setCell, slice, bound, cut, textOk, empty_append, andor, oror, andand, orand, strOk_num, strOk_v, strOk_n, strOk_nm, strOk_fr, v_lam, v_app, v_fr, fr_lam, fr_app, v_take, v_drop, fr_take, List.getElem?_append, fieldText, relab, compOk, Vars.comp, Nm.text_beq, T.lay_pv, ih]

theorem core_spec : ∀ (t : T) (env : List Nm), T.closed env t → env.length + t.size ≤ 1000 → ∀ n, t.size ≤ n → ∀ (σ : Store) (a : Nat), σ[a]? = some (.list (envPV env)) → ∃ g, (T1.at n).call "_law_core" [t.pv, .ref a] σ = some (.ok (core env t).pv (σ ++ g))
  | .nm x, env, hc, hs, n, hn, σ, a, ha => by
    obtain ⟨n, rfl⟩ : ∃ m, n = m + 1 := ⟨n - 1, by have := hn; simp [evSs, evS, evE, evEs, evT, evA, evB, evC, evO, evI, evF, ofString_inj, ofString_beq, strOk_ofString, strOk_append, M.then, bind_at, pure_at, fail_at, lift_some_at, lift_none_at, ite_at, isGlob, varOf, Vars.of, Vars.setAll, Vars.set, constOf, item, pickAt, cmpop, eqTop, PV.lay, PV.lays, PV.depth, PV.depths, binop, List.lookup_cons, plainArgs, const1, exn1, fuel1, isDef1, places1, consts1, exns1, bnames, callBuiltin, lenOf, small, canStore, pyEq, PV.toD, PV.toDs, PyData.eqv, PyData.eqvAll, getList, newCell, setCell, slice, bound, cut, textOk, empty_append, andor, oror, andand, orand, strOk_num, strOk_v, strOk_n, strOk_nm, strOk_fr, v_lam, v_app, v_fr, fr_lam, fr_app, v_take, v_drop, fr_take, List.getElem?_append, fieldText, relab, compOk, Vars.comp, Nm.text_beq, T.lay_pv, T.size] at this; omega⟩
    rw [at_call _ _ _ _ (defAt PySem.Challenge.pw_pq0040_01 37) rfl]
    unfold callOf
    rw [show defAt PySem.Challenge.pw_pq0040_01 37 = Def.mk _ _ _ from rfl]
    have e1 := env_any env x
    have e3 := env_lays env
    have e4 := env_depths env
    have hlen : (envPV env).length = env.length := List.length_map _
    have e5 : env.length ≤ 100000 := by omega
    simp [evSs, evS, evE, evEs, evT, evA, evB, evC, evO, evI, evF, ofString_inj, ofString_beq, strOk_ofString, strOk_append, M.then, bind_at, pure_at, fail_at, lift_some_at, lift_none_at, ite_at, isGlob, varOf, Vars.of, Vars.setAll, Vars.set, constOf, item, pickAt, cmpop, eqTop, PV.lay, PV.lays, PV.depth, PV.depths, binop, List.lookup_cons, plainArgs, const1, exn1, fuel1, isDef1, places1, consts1, exns1, bnames, callBuiltin, lenOf, small, canStore, pyEq, PV.toD, PV.toDs, PyData.eqv, PyData.eqvAll, getList, newCell, setCell, slice, bound, cut, textOk, empty_append, andor, oror, andand, orand, strOk_num, strOk_v, strOk_n, strOk_nm, strOk_fr, v_lam, v_app, v_fr, fr_lam, fr_app, v_take, v_drop, fr_take, List.getElem?_append, fieldText, relab, compOk, Vars.comp, Nm.text_beq, T.lay_pv] at e1
    by_cases hx : x ∈ env
    · have e6 := env_find env x hx
      have e7 : env.idxOf x < env.length := List.idxOf_lt_length_of_mem hx
      have e8 : env.idxOf x < 1000000000 := by omega
      simp [evSs, evS, evE, evEs, evT, evA, evB, evC, evO, evI, evF, ofString_inj, ofString_beq, strOk_ofString, strOk_append, M.then, bind_at, pure_at, fail_at, lift_some_at, lift_none_at, ite_at, isGlob, varOf, Vars.of, Vars.setAll, Vars.set, constOf, item, pickAt, cmpop, eqTop, PV.lay, PV.lays, PV.depth, PV.depths, binop, List.lookup_cons, plainArgs, const1, exn1, fuel1, isDef1, places1, consts1, exns1, bnames, callBuiltin, lenOf, small, canStore, pyEq, PV.toD, PV.toDs, PyData.eqv, PyData.eqvAll, getList, newCell, setCell, slice, bound, cut, textOk, empty_append, andor, oror, andand, orand, strOk_num, strOk_v, strOk_n, strOk_nm, strOk_fr, v_lam, v_app, v_fr, fr_lam, fr_app, v_take, v_drop, fr_take, List.getElem?_append, fieldText, relab, compOk, Vars.comp, Nm.text_beq, T.lay_pv] at e6
      have l1 : (Str.ofString "var").length ≤ 100000 := by rw [length_txt]; decide
      have l2 : (strOfInt (env.idxOf x : Int)).length ≤ 100000 := Nat.le_trans (num_len _ (by omega)) (by decide)
      simp [evSs, evS, evE, evEs, evT, evA, evB, evC, evO, evI, evF, ofString_inj, ofString_beq, strOk_ofString, strOk_append, M.then, bind_at, pure_at, fail_at, lift_some_at, lift_none_at, ite_at, isGlob, varOf, Vars.of, Vars.setAll, Vars.set, constOf, item, pickAt, cmpop, eqTop, PV.lay, PV.lays, PV.depth, PV.depths, binop, List.lookup_cons, plainArgs, const1, exn1, fuel1, isDef1, places1, consts1, exns1, bnames, callBuiltin, lenOf, small, canStore, pyEq, PV.toD, PV.toDs, PyData.eqv, PyData.eqvAll, getList, newCell, setCell, slice, bound, cut, textOk, empty_append, andor, oror, andand, orand, strOk_num, strOk_v, strOk_n, strOk_nm, strOk_fr, v_lam, v_app, v_fr, fr_lam, fr_app, v_take, v_drop, fr_take, List.getElem?_append, fieldText, relab, compOk, Vars.comp, Nm.text_beq, T.lay_pv, T.pv, ha, e1, e3, e4, hx, knows, callMethod, hlen, e5, e6, e8, core, B.pv, vtext, l1, l2]
    · have hf : x.text = frText (decide (x = .k)) := by
        rcases hc with h | h | h
        · exact absurd h hx
        · subst h; rfl
        · subst h; rfl
      simp [evSs, evS, evE, evEs, evT, evA, evB, evC, evO, evI, evF, ofString_inj, ofString_beq, strOk_ofString, strOk_append, M.then, bind_at, pure_at, fail_at, lift_some_at, lift_none_at, ite_at, isGlob, varOf, Vars.of, Vars.setAll, Vars.set, constOf, item, pickAt, cmpop, eqTop, PV.lay, PV.lays, PV.depth, PV.depths, binop, List.lookup_cons, plainArgs, const1, exn1, fuel1, isDef1, places1, consts1, exns1, bnames, callBuiltin, lenOf, small, canStore, pyEq, PV.toD, PV.toDs, PyData.eqv, PyData.eqvAll, getList, newCell, setCell, slice, bound, cut, textOk, empty_append, andor, oror, andand, orand, strOk_num, strOk_v, strOk_n, strOk_nm, strOk_fr, v_lam, v_app, v_fr, fr_lam, fr_app, v_take, v_drop, fr_take, List.getElem?_append, fieldText, relab, compOk, Vars.comp, Nm.text_beq, T.lay_pv, T.pv, ha, e1, e3, e4, hx, core, B.pv, ← hf]
  | .lam x b, env, hc, hs, n, hn, σ, a, ha => by
    obtain ⟨n, rfl⟩ : ∃ m, n = m + 1 := ⟨n - 1, by have := hn; simp [evSs, evS, evE, evEs, evT, evA, evB, evC, evO, evI, evF, ofString_inj, ofString_beq, strOk_ofString, strOk_append, M.then, bind_at, pure_at, fail_at, lift_some_at, lift_none_at, ite_at, isGlob, varOf, Vars.of, Vars.setAll, Vars.set, constOf, item, pickAt, cmpop, eqTop, PV.lay, PV.lays, PV.depth, PV.depths, binop, List.lookup_cons, plainArgs, const1, exn1, fuel1, isDef1, places1, consts1, exns1, bnames, callBuiltin, lenOf, small, canStore, pyEq, PV.toD, PV.toDs, PyData.eqv, PyData.eqvAll, getList, newCell, setCell, slice, bound, cut, textOk, empty_append, andor, oror, andand, orand, strOk_num, strOk_v, strOk_n, strOk_nm, strOk_fr, v_lam, v_app, v_fr, fr_lam, fr_app, v_take, v_drop, fr_take, List.getElem?_append, fieldText, relab, compOk, Vars.comp, Nm.text_beq, T.lay_pv, T.size] at this; omega⟩
    have hz : (T.lam x b).size = b.size + 1 := rfl
    obtain ⟨hal, hae⟩ := List.getElem?_eq_some_iff.mp ha
    have e5 : env.length ≤ 100000 := by omega
    have hlen : (envPV env).length = env.length := List.length_map _
    obtain ⟨g, hg⟩ := core_spec b (x :: env) hc (by simp [evSs, evS, evE, evEs, evT, evA, evB, evC, evO, evI, evF, ofString_inj, ofString_beq, strOk_ofString, strOk_append, M.then, bind_at, pure_at, fail_at, lift_some_at, lift_none_at, ite_at, isGlob, varOf, Vars.of, Vars.setAll, Vars.set, constOf, item, pickAt, cmpop, eqTop, PV.lay, PV.lays, PV.depth, PV.depths, binop, List.lookup_cons, plainArgs, const1, exn1, fuel1, isDef1, places1, consts1, exns1, bnames, callBuiltin, lenOf, small, canStore, pyEq, PV.toD, PV.toDs, PyData.eqv, PyData.eqvAll, getList, newCell, setCell, slice, bound, cut, textOk, empty_append, andor, oror, andand, orand, strOk_num, strOk_v, strOk_n, strOk_nm, strOk_fr, v_lam, v_app, v_fr, fr_lam, fr_app, v_take, v_drop, fr_take, List.getElem?_append, fieldText, relab, compOk, Vars.comp, Nm.text_beq, T.lay_pv]; omega) n (by omega) (σ ++ [.list [.str x.text], .list (.str x.text :: envPV env)]) (σ.length + 1) (by simp [evSs, evS, evE, evEs, evT, evA, evB, evC, evO, evI, evF, ofString_inj, ofString_beq, strOk_ofString, strOk_append, M.then, bind_at, pure_at, fail_at, lift_some_at, lift_none_at, ite_at, isGlob, varOf, Vars.of, Vars.setAll, Vars.set, constOf, item, pickAt, cmpop, eqTop, PV.lay, PV.lays, PV.depth, PV.depths, binop, List.lookup_cons, plainArgs, const1, exn1, fuel1, isDef1, places1, consts1, exns1, bnames, callBuiltin, lenOf, small, canStore, pyEq, PV.toD, PV.toDs, PyData.eqv, PyData.eqvAll, getList, newCell, setCell, slice, bound, cut, textOk, empty_append, andor, oror, andand, orand, strOk_num, strOk_v, strOk_n, strOk_nm, strOk_fr, v_lam, v_app, v_fr, fr_lam, fr_app, v_take, v_drop, fr_take, List.getElem?_append, fieldText, relab, compOk, Vars.comp, Nm.text_beq, T.lay_pv, envPV])
    rw [at_call _ _ _ _ (defAt PySem.Challenge.pw_pq0040_01 37) rfl]
    unfold callOf
    rw [show defAt PySem.Challenge.pw_pq0040_01 37 = Def.mk _ _ _ from rfl]
    simp [evSs, evS, evE, evEs, evT, evA, evB, evC, evO, evI, evF, ofString_inj, ofString_beq, strOk_ofString, strOk_append, M.then, bind_at, pure_at, fail_at, lift_some_at, lift_none_at, ite_at, isGlob, varOf, Vars.of, Vars.setAll, Vars.set, constOf, item, pickAt, cmpop, eqTop, PV.lay, PV.lays, PV.depth, PV.depths, binop, List.lookup_cons, plainArgs, const1, exn1, fuel1, isDef1, places1, consts1, exns1, bnames, callBuiltin, lenOf, small, canStore, pyEq, PV.toD, PV.toDs, PyData.eqv, PyData.eqvAll, getList, newCell, setCell, slice, bound, cut, textOk, empty_append, andor, oror, andand, orand, strOk_num, strOk_v, strOk_n, strOk_nm, strOk_fr, v_lam, v_app, v_fr, fr_lam, fr_app, v_take, v_drop, fr_take, List.getElem?_append, fieldText, relab, compOk, Vars.comp, Nm.text_beq, T.lay_pv] at hg
    simp [evSs, evS, evE, evEs, evT, evA, evB, evC, evO, evI, evF, ofString_inj, ofString_beq, strOk_ofString, strOk_append, M.then, bind_at, pure_at, fail_at, lift_some_at, lift_none_at, ite_at, isGlob, varOf, Vars.of, Vars.setAll, Vars.set, constOf, item, pickAt, cmpop, eqTop, PV.lay, PV.lays, PV.depth, PV.depths, binop, List.lookup_cons, plainArgs, const1, exn1, fuel1, isDef1, places1, consts1, exns1, bnames, callBuiltin, lenOf, small, canStore, pyEq, PV.toD, PV.toDs, PyData.eqv, PyData.eqvAll, getList, newCell, setCell, slice, bound, cut, textOk, empty_append, andor, oror, andand, orand, strOk_num, strOk_v, strOk_n, strOk_nm, strOk_fr, v_lam, v_app, v_fr, fr_lam, fr_app, v_take, v_drop, fr_take, List.getElem?_append, fieldText, relab, compOk, Vars.comp, Nm.text_beq, T.lay_pv, T.pv, ha, hal, hae, hlen, e5, core, B.pv, hg]
  | .app b c, env, hc, hs, n, hn, σ, a, ha => by
    obtain ⟨n, rfl⟩ : ∃ m, n = m + 1 := ⟨n - 1, by have := hn; simp [evSs, evS, evE, evEs, evT, evA, evB, evC, evO, evI, evF, ofString_inj, ofString_beq, strOk_ofString, strOk_append, M.then, bind_at, pure_at, fail_at, lift_some_at, lift_none_at, ite_at, isGlob, varOf, Vars.of, Vars.setAll, Vars.set, constOf, item, pickAt, cmpop, eqTop, PV.lay, PV.lays, PV.depth, PV.depths, binop, List.lookup_cons, plainArgs, const1, exn1, fuel1, isDef1, places1, consts1, exns1, bnames, callBuiltin, lenOf, small, canStore, pyEq, PV.toD, PV.toDs, PyData.eqv, PyData.eqvAll, getList, newCell, setCell, slice, bound, cut, textOk, empty_append, andor, oror, andand, orand, strOk_num, strOk_v, strOk_n, strOk_nm, strOk_fr, v_lam, v_app, v_fr, fr_lam, fr_app, v_take, v_drop, fr_take, List.getElem?_append, fieldText, relab, compOk, Vars.comp, Nm.text_beq, T.lay_pv, T.size] at this; omega⟩
    have hz : (T.app b c).size = b.size + c.size + 1 := rfl
    have hal := (List.getElem?_eq_some_iff.mp ha).1
    obtain ⟨g, hg⟩ := core_spec b env hc.1 (by omega) n (by omega) σ a ha
    obtain ⟨g2, hg2⟩ := core_spec c env hc.2 (by omega) n (by omega) (σ ++ g) a (by rw [List.getElem?_append_left hal]; exact ha)
    rw [at_call _ _ _ _ (defAt PySem.Challenge.pw_pq0040_01 37) rfl]
    unfold callOf
    rw [show defAt PySem.Challenge.pw_pq0040_01 37 = Def.mk _ _ _ from rfl]
    simp [evSs, evS, evE, evEs, evT, evA, evB, evC, evO, evI, evF, ofString_inj, ofString_beq, strOk_ofString, strOk_append, M.then, bind_at, pure_at, fail_at, lift_some_at, lift_none_at, ite_at, isGlob, varOf, Vars.of, Vars.setAll, Vars.set, constOf, item, pickAt, cmpop, eqTop, PV.lay, PV.lays, PV.depth, PV.depths, binop, List.lookup_cons, plainArgs, const1, exn1, fuel1, isDef1, places1, consts1, exns1, bnames, callBuiltin, lenOf, small, canStore, pyEq, PV.toD, PV.toDs, PyData.eqv, PyData.eqvAll, getList, newCell, setCell, slice, bound, cut, textOk, empty_append, andor, oror, andand, orand, strOk_num, strOk_v, strOk_n, strOk_nm, strOk_fr, v_lam, v_app, v_fr, fr_lam, fr_app, v_take, v_drop, fr_take, List.getElem?_append, fieldText, relab, compOk, Vars.comp, Nm.text_beq, T.lay_pv] at hg2
    simp [evSs, evS, evE, evEs, evT, evA, evB, evC, evO, evI, evF, ofString_inj, ofString_beq, strOk_ofString, strOk_append, M.then, bind_at, pure_at, fail_at, lift_some_at, lift_none_at, ite_at, isGlob, varOf, Vars.of, Vars.setAll, Vars.set, constOf, item, pickAt, cmpop, eqTop, PV.lay, PV.lays, PV.depth, PV.depths, binop, List.lookup_cons, plainArgs, const1, exn1, fuel1, isDef1, places1, consts1, exns1, bnames, callBuiltin, lenOf, small, canStore, pyEq, PV.toD, PV.toDs, PyData.eqv, PyData.eqvAll, getList, newCell, setCell, slice, bound, cut, textOk, empty_append, andor, oror, andand, orand, strOk_num, strOk_v, strOk_n, strOk_nm, strOk_fr, v_lam, v_app, v_fr, fr_lam, fr_app, v_take, v_drop, fr_take, List.getElem?_append, fieldText, relab, compOk, Vars.comp, Nm.text_beq, T.lay_pv, T.pv, core, B.pv, hg, hg2]
end Mine

-- P14
namespace Mine
open PySem

/-- the hand in the store -/
structure HandAt (σ : Store) (h c : Nat) (cells : List Int) (a b : Nat) : Prop where
  hand : σ[h]? = some (.list [.ref c, .int a, .int b])
  cell : σ[c]? = some (.list (cells.map PV.int))
  ne : h ≠ c
  few : cells.length ≤ 100
def Upd (h : Nat) (σ σ' : Store) : Prop := σ.length ≤ σ'.length ∧ ∀ i, i < σ.length → i ≠ h → σ'[i]? = σ[i]?
theorem Upd.refl (h : Nat) (σ : Store) : Upd h σ σ := ⟨Nat.le_refl _, fun _ _ _ => rfl⟩
theorem Upd.trans {h : Nat} {σ σ' σ'' : Store} (u : Upd h σ σ') (v : Upd h σ' σ'') : Upd h σ σ'' :=
  ⟨Nat.le_trans u.1 v.1, fun i hi hn => by rw [v.2 i (Nat.lt_of_lt_of_le hi u.1) hn, u.2 i hi hn]⟩
theorem Upd.app (h : Nat) (σ g : Store) : Upd h σ (σ ++ g) := ⟨by simp [evSs, evS, evE, evEs, evT, evA, evB, evC, evO, evI, evF, ofString_inj, ofString_beq, strOk_ofString, strOk_append, M.then, bind_at, pure_at, fail_at, lift_some_at, lift_none_at, ite_at, isGlob, varOf, Vars.of, Vars.setAll, Vars.set, constOf, item, pickAt, cmpop, eqTop, PV.lay, PV.lays, PV.depth, PV.depths, binop, List.lookup_cons, plainArgs, const1, exn1, fuel1, isDef1, places1, consts1, exns1, bnames, callBuiltin, lenOf, small, canStore, pyEq, PV.toD, PV.toDs, PyData.eqv, PyData.eqvAll, getList, newCell, setCell, slice, bound, cut, textOk, empty_append, andor, oror, andand, orand, strOk_num, strOk_v, strOk_n, strOk_nm, strOk_fr, v_lam, v_app, v_fr, fr_lam, fr_app, v_take, v_drop, fr_take, List.getElem?_append, fieldText, relab, compOk, Vars.comp, Nm.text_beq, T.lay_pv], fun i hi _ => List.getElem?_append_left hi⟩
theorem Upd.set (h : Nat) (σ : Store) (c : Cell) : Upd h σ (σ.set h c) := ⟨by simp [evSs, evS, evE, evEs, evT, evA, evB, evC, evO, evI, evF, ofString_inj, ofString_beq, strOk_ofString, strOk_append, M.then, bind_at, pure_at, fail_at, lift_some_at, lift_none_at, ite_at, isGlob, varOf, Vars.of, Vars.setAll, Vars.set, constOf, item, pickAt, cmpop, eqTop, PV.lay, PV.lays, PV.depth, PV.depths, binop, List.lookup_cons, plainArgs, const1, exn1, fuel1, isDef1, places1, consts1, exns1, bnames, callBuiltin, lenOf, small, canStore, pyEq, PV.toD, PV.toDs, PyData.eqv, PyData.eqvAll, getList, newCell, setCell, slice, bound, cut, textOk, empty_append, andor, oror, andand, orand, strOk_num, strOk_v, strOk_n, strOk_nm, strOk_fr, v_lam, v_app, v_fr, fr_lam, fr_app, v_take, v_drop, fr_take, List.getElem?_append, fieldText, relab, compOk, Vars.comp, Nm.text_beq, T.lay_pv], fun i _ hn => List.getElem?_set_ne (Ne.symm hn)⟩
theorem Upd.keep {h : Nat} {σ σ' : Store} (u : Upd h σ σ') {i : Nat} {x : Cell} (hx : σ[i]? = some x) (hn : i ≠ h) : σ'[i]? = some x := by
  rw [u.2 i (List.getElem?_eq_some_iff.mp hx).1 hn]; exact hx
theorem HandAt.app {σ : Store} {h c : Nat} {cells : List Int} {a b : Nat} (H : HandAt σ h c cells a b) (g : Store) : HandAt (σ ++ g) h c cells a b :=
  ⟨by rw [List.getElem?_append_left (List.getElem?_eq_some_iff.mp H.hand).1]; exact H.hand, by rw [List.getElem?_append_left (List.getElem?_eq_some_iff.mp H.cell).1]; exact H.cell, H.ne, H.few⟩
theorem HandAt.set {σ : Store} {h c : Nat} {cells : List Int} {a b : Nat} (H : HandAt σ h c cells a b) (a' b' : Nat) : HandAt (σ.set h (.list [.ref c, .int a', .int b'])) h c cells a' b' :=
  ⟨by rw [List.getElem?_set_self (List.getElem?_eq_some_iff.mp H.hand).1], by rw [List.getElem?_set_ne H.ne]; exact H.cell, H.ne, H.few⟩

theorem pick_spec {σ : Store} {h c : Nat} {cells : List Int} {a b : Nat} (H : HandAt σ h c cells a b) (wide : Nat) (hw : 1 ≤ wide) (hw2 : wide ≤ 1000) (ha : a ≤ 1000) (n : Nat) (hn : 1 ≤ n) :
    ∃ v : Nat, v < wide ∧ (T1.at n).call "_law_pick" [.ref h, .int wide] σ = some (.ok (.int v) (σ.set h (.list [.ref c, .int (a + 1 : Nat), .int b]))) := by
  obtain ⟨n, rfl⟩ : ∃ m, n = m + 1 := ⟨n - 1, by omega⟩
  have q2 := H.cell
  obtain ⟨hl, hle⟩ := List.getElem?_eq_some_iff.mp H.hand
  have hfew := H.few
  have hne := H.ne
  rw [at_call _ _ _ _ (defAt PySem.Challenge.pw_pq0040_01 26) rfl]
  unfold callOf
  rw [show defAt PySem.Challenge.pw_pq0040_01 26 = Def.mk _ _ _ from rfl]
  have e1 : cells.length ≤ 100000 := by omega
  have e2 : (0 : Int) < wide ∧ (wide : Int) < 1000000000 := by omega
  have e3 : (a : Int) < 2 ^ 62 := by omega
  have e4 : a < 4611686018427387904 := by omega
  have e6 : 0 < wide := hw
  have e7 : (7 * ((a : Int) + 1)).natAbs < 1000000000000 := by omega
  by_cases hk : a < cells.length
  · have e5 : (a : Int) + 1 ≤ cells.length := by omega
    have hv0 := Int.emod_nonneg (cells[a]) (b := (wide : Int)) (by omega)
    have hv1 := Int.emod_lt_of_pos (cells[a]) (b := (wide : Int)) (by omega)
    refine ⟨(cells[a] % (wide : Int)).toNat, by omega, ?_⟩
    simp [evSs, evS, evE, evEs, evT, evA, evB, evC, evO, evI, evF, ofString_inj, ofString_beq, strOk_ofString, strOk_append, M.then, bind_at, pure_at, fail_at, lift_some_at, lift_none_at, ite_at, isGlob, varOf, Vars.of, Vars.setAll, Vars.set, constOf, item, pickAt, cmpop, eqTop, PV.lay, PV.lays, PV.depth, PV.depths, binop, List.lookup_cons, plainArgs, const1, exn1, fuel1, isDef1, places1, consts1, exns1, bnames, callBuiltin, lenOf, small, canStore, pyEq, PV.toD, PV.toDs, PyData.eqv, PyData.eqvAll, getList, newCell, setCell, slice, bound, cut, textOk, empty_append, andor, oror, andand, orand, strOk_num, strOk_v, strOk_n, strOk_nm, strOk_fr, v_lam, v_app, v_fr, fr_lam, fr_app, v_take, v_drop, fr_take, List.getElem?_append, fieldText, relab, compOk, Vars.comp, Nm.text_beq, T.lay_pv, hl, hle, setItemOf, e1, q2, List.getElem?_set, hne, e2, e3, e4, e5, hk, e6, e7, Int.toNat_of_nonneg hv0]
  · have e5 : ¬ (a : Int) + 1 ≤ cells.length := by omega
    have hv0 := Int.emod_nonneg ((7 * ((a : Int) + 1) * ((a : Int) + 1) + 5 * ((a : Int) + 1) + 9 + cells.length) / 4) (b := (wide : Int)) (by omega)
    have hv1 := Int.emod_lt_of_pos ((7 * ((a : Int) + 1) * ((a : Int) + 1) + 5 * ((a : Int) + 1) + 9 + cells.length) / 4) (b := (wide : Int)) (by omega)
    refine ⟨((7 * ((a : Int) + 1) * ((a : Int) + 1) + 5 * ((a : Int) + 1) + 9 + cells.length) / 4 % (wide : Int)).toNat, by omega, ?_⟩
    simp [evSs, evS, evE, evEs, evT, evA, evB, evC, evO, evI, evF, ofString_inj, ofString_beq, strOk_ofString, strOk_append, M.then, bind_at, pure_at, fail_at, lift_some_at, lift_none_at, ite_at, isGlob, varOf, Vars.of, Vars.setAll, Vars.set, constOf, item, pickAt, cmpop, eqTop, PV.lay, PV.lays, PV.depth, PV.depths, binop, List.lookup_cons, plainArgs, const1, exn1, fuel1, isDef1, places1, consts1, exns1, bnames, callBuiltin, lenOf, small, canStore, pyEq, PV.toD, PV.toDs, PyData.eqv, PyData.eqvAll, getList, newCell, setCell, slice, bound, cut, textOk, empty_append, andor, oror, andand, orand, strOk_num, strOk_v, strOk_n, strOk_nm, strOk_fr, v_lam, v_app, v_fr, fr_lam, fr_app, v_take, v_drop, fr_take, List.getElem?_append, fieldText, relab, compOk, Vars.comp, Nm.text_beq, T.lay_pv, hl, hle, setItemOf, e1, q2, List.getElem?_set, hne, e2, e3, e4, e5, e6, e7, Int.toNat_of_nonneg hv0]
end Mine

-- P15
namespace Mine
open PySem

theorem name_spec {σ : Store} {h c : Nat} {cells : List Int} {a b : Nat} (H : HandAt σ h c cells a b) (hb : b ≤ 1000) (n : Nat) (hn : 1 ≤ n) :
    (T1.at n).call "_law_name" [.ref h] σ = some (.ok (.str (ntext (b + 1))) (σ.set h (.list [.ref c, .int a, .int (b + 1 : Nat)]))) := by
  obtain ⟨n, rfl⟩ : ∃ m, n = m + 1 := ⟨n - 1, by omega⟩
  obtain ⟨hl, hle⟩ := List.getElem?_eq_some_iff.mp H.hand
  have hne := H.ne
  rw [at_call _ _ _ _ (defAt PySem.Challenge.pw_pq0040_01 27) rfl]
  unfold callOf
  rw [show defAt PySem.Challenge.pw_pq0040_01 27 = Def.mk _ _ _ from rfl]
  have e1 : ((b : Int) + 1).natAbs < 1000000000 := by omega
  have l1 : (Str.ofString "n").length ≤ 100000 := by rw [length_txt]; decide
  have l2 : (strOfInt ((b : Int) + 1)).length ≤ 100000 := Nat.le_trans (num_len (b + 1) (by omega)) (by decide)
  simp [evSs, evS, evE, evEs, evT, evA, evB, evC, evO, evI, evF, ofString_inj, ofString_beq, strOk_ofString, strOk_append, M.then, bind_at, pure_at, fail_at, lift_some_at, lift_none_at, ite_at, isGlob, varOf, Vars.of, Vars.setAll, Vars.set, constOf, item, pickAt, cmpop, eqTop, PV.lay, PV.lays, PV.depth, PV.depths, binop, List.lookup_cons, plainArgs, const1, exn1, fuel1, isDef1, places1, consts1, exns1, bnames, callBuiltin, lenOf, small, canStore, pyEq, PV.toD, PV.toDs, PyData.eqv, PyData.eqvAll, getList, newCell, setCell, slice, bound, cut, textOk, empty_append, andor, oror, andand, orand, strOk_num, strOk_v, strOk_n, strOk_nm, strOk_fr, v_lam, v_app, v_fr, fr_lam, fr_app, v_take, v_drop, fr_take, List.getElem?_append, fieldText, relab, compOk, Vars.comp, Nm.text_beq, T.lay_pv, hl, hle, setItemOf, List.getElem?_set, hne, e1, l1, l2, ntext]

inductive Drawn : Nat → List Nm → Bool → Nat → T → Nat → Prop where
  | nm {f : Nat} {env : List Nm} {hd : Bool} {b : Nat} {x : Nm} : x ∈ env ∨ x = .k ∨ x = .m → Drawn f env hd b (.nm x) b
  | lam {f : Nat} {env : List Nm} {b : Nat} {t : T} {b' : Nat} : Drawn f (env ++ [.n (b + 1)]) false (b + 1) t b' → Drawn (f + 1) env false b (.lam (.n (b + 1)) t) b'
  | app {f : Nat} {env : List Nm} {hd : Bool} {b : Nat} {t u : T} {b1 b' : Nat} : Drawn f env true b t b1 → Drawn f env false b1 u b' → Drawn (f + 1) env hd b (.app t u) b'
def pk : Nat → Nat
  | 0 => 1
  | f + 1 => 1 + 2 * pk f

theorem pk_pos (f : Nat) : 1 ≤ pk f := by cases f <;> simp [evSs, evS, evE, evEs, evT, evA, evB, evC, evO, evI, evF, ofString_inj, ofString_beq, strOk_ofString, strOk_append, M.then, bind_at, pure_at, fail_at, lift_some_at, lift_none_at, ite_at, isGlob, varOf, Vars.of, Vars.setAll, Vars.set, constOf, item, pickAt, cmpop, eqTop, PV.lay, PV.lays, PV.depth, PV.depths, binop, List.lookup_cons, plainArgs, const1, exn1, fuel1, isDef1, places1, consts1, exns1, bnames, callBuiltin, lenOf, small, canStore, pyEq, PV.toD, PV.toDs, PyData.eqv, PyData.eqvAll, getList, newCell, setCell, slice, bound, cut, textOk, empty_append, andor, oror, andand, orand, strOk_num, strOk_v, strOk_n, strOk_nm, strOk_fr, v_lam, v_app, v_fr, fr_lam, fr_app, v_take, v_drop, fr_take, List.getElem?_append, fieldText, relab, compOk, Vars.comp, Nm.text_beq, T.lay_pv, pk]
theorem env_two (env : List Nm) : envPV env ++ [.str (Str.ofString "k"), .str (Str.ofString "m")] = envPV (env ++ [.k, .m]) := by
  unfold envPV; rw [List.map_append]; rfl
theorem env_one (env : List Nm) (i : Nat) : envPV env ++ [.str (ntext i)] = envPV (env ++ [.n i]) := by
  unfold envPV; rw [List.map_append]; rfl

theorem leaf_pick {env : List Nm} {σ : Store} {h c : Nat} {cells : List Int} {a b : Nat} (H : HandAt σ h c cells a b) (ha : a ≤ 1000) (he : env.length ≤ 50) (n : Nat) (hn : 1 ≤ n) :
    ∃ (x : Nm) (v : Nat), (x ∈ env ∨ x = .k ∨ x = .m) ∧ (envPV (env ++ [.k, .m]))[v]? = some (.str x.text) ∧ v < 1000 ∧
      (T1.at n).call "_law_pick" [.ref h, .int ((env.length : Int) + 2)] (σ ++ [Cell.list [.str (Str.ofString "k"), .str (Str.ofString "m")], Cell.list (envPV (env ++ [.k, .m]))]) =
        some (.ok (.int v) (σ.set h (.list [.ref c, .int (a + 1 : Nat), .int b]) ++ [Cell.list [.str (Str.ofString "k"), .str (Str.ofString "m")], Cell.list (envPV (env ++ [.k, .m]))])) := by
  obtain ⟨hl, _⟩ := List.getElem?_eq_some_iff.mp H.hand
  obtain ⟨v, hv, hp⟩ := pick_spec (H.app [Cell.list [.str (Str.ofString "k"), .str (Str.ofString "m")], Cell.list (envPV (env ++ [.k, .m]))]) (env.length + 2) (by omega) (by omega) (by omega) n (by omega)
  have hx : (envPV (env ++ [.k, .m]))[v]? = some (.str ((env ++ [Nm.k, Nm.m])[v]'(by simp [evSs, evS, evE, evEs, evT, evA, evB, evC, evO, evI, evF, ofString_inj, ofString_beq, strOk_ofString, strOk_append, M.then, bind_at, pure_at, fail_at, lift_some_at, lift_none_at, ite_at, isGlob, varOf, Vars.of, Vars.setAll, Vars.set, constOf, item, pickAt, cmpop, eqTop, PV.lay, PV.lays, PV.depth, PV.depths, binop, List.lookup_cons, plainArgs, const1, exn1, fuel1, isDef1, places1, consts1, exns1, bnames, callBuiltin, lenOf, small, canStore, pyEq, PV.toD, PV.toDs, PyData.eqv, PyData.eqvAll, getList, newCell, setCell, slice, bound, cut, textOk, empty_append, andor, oror, andand, orand, strOk_num, strOk_v, strOk_n, strOk_nm, strOk_fr, v_lam, v_app, v_fr, fr_lam, fr_app, v_take, v_drop, fr_take, List.getElem?_append, fieldText, relab, compOk, Vars.comp, Nm.text_beq, T.lay_pv]; omega)).text) := by
    unfold envPV; rw [List.getElem?_map, List.getElem?_eq_getElem (by simp [evSs, evS, evE, evEs, evT, evA, evB, evC, evO, evI, evF, ofString_inj, ofString_beq, strOk_ofString, strOk_append, M.then, bind_at, pure_at, fail_at, lift_some_at, lift_none_at, ite_at, isGlob, varOf, Vars.of, Vars.setAll, Vars.set, constOf, item, pickAt, cmpop, eqTop, PV.lay, PV.lays, PV.depth, PV.depths, binop, List.lookup_cons, plainArgs, const1, exn1, fuel1, isDef1, places1, consts1, exns1, bnames, callBuiltin, lenOf, small, canStore, pyEq, PV.toD, PV.toDs, PyData.eqv, PyData.eqvAll, getList, newCell, setCell, slice, bound, cut, textOk, empty_append, andor, oror, andand, orand, strOk_num, strOk_v, strOk_n, strOk_nm, strOk_fr, v_lam, v_app, v_fr, fr_lam, fr_app, v_take, v_drop, fr_take, List.getElem?_append, fieldText, relab, compOk, Vars.comp, Nm.text_beq, T.lay_pv]; omega)]; rfl
  have hmem : (env ++ [Nm.k, Nm.m])[v]'(by simp [evSs, evS, evE, evEs, evT, evA, evB, evC, evO, evI, evF, ofString_inj, ofString_beq, strOk_ofString, strOk_append, M.then, bind_at, pure_at, fail_at, lift_some_at, lift_none_at, ite_at, isGlob, varOf, Vars.of, Vars.setAll, Vars.set, constOf, item, pickAt, cmpop, eqTop, PV.lay, PV.lays, PV.depth, PV.depths, binop, List.lookup_cons, plainArgs, const1, exn1, fuel1, isDef1, places1, consts1, exns1, bnames, callBuiltin, lenOf, small, canStore, pyEq, PV.toD, PV.toDs, PyData.eqv, PyData.eqvAll, getList, newCell, setCell, slice, bound, cut, textOk, empty_append, andor, oror, andand, orand, strOk_num, strOk_v, strOk_n, strOk_nm, strOk_fr, v_lam, v_app, v_fr, fr_lam, fr_app, v_take, v_drop, fr_take, List.getElem?_append, fieldText, relab, compOk, Vars.comp, Nm.text_beq, T.lay_pv]; omega) ∈ env ++ [Nm.k, Nm.m] := List.getElem_mem _
  generalize (env ++ [Nm.k, Nm.m])[v]'(by simp [evSs, evS, evE, evEs, evT, evA, evB, evC, evO, evI, evF, ofString_inj, ofString_beq, strOk_ofString, strOk_append, M.then, bind_at, pure_at, fail_at, lift_some_at, lift_none_at, ite_at, isGlob, varOf, Vars.of, Vars.setAll, Vars.set, constOf, item, pickAt, cmpop, eqTop, PV.lay, PV.lays, PV.depth, PV.depths, binop, List.lookup_cons, plainArgs, const1, exn1, fuel1, isDef1, places1, consts1, exns1, bnames, callBuiltin, lenOf, small, canStore, pyEq, PV.toD, PV.toDs, PyData.eqv, PyData.eqvAll, getList, newCell, setCell, slice, bound, cut, textOk, empty_append, andor, oror, andand, orand, strOk_num, strOk_v, strOk_n, strOk_nm, strOk_fr, v_lam, v_app, v_fr, fr_lam, fr_app, v_take, v_drop, fr_take, List.getElem?_append, fieldText, relab, compOk, Vars.comp, Nm.text_beq, T.lay_pv]; omega) = x at hx hmem
  have hmem : x ∈ env ∨ x = .k ∨ x = .m := by simpa [evSs, evS, evE, evEs, evT, evA, evB, evC, evO, evI, evF, ofString_inj, ofString_beq, strOk_ofString, strOk_append, M.then, bind_at, pure_at, fail_at, lift_some_at, lift_none_at, ite_at, isGlob, varOf, Vars.of, Vars.setAll, Vars.set, constOf, item, pickAt, cmpop, eqTop, PV.lay, PV.lays, PV.depth, PV.depths, binop, List.lookup_cons, plainArgs, const1, exn1, fuel1, isDef1, places1, consts1, exns1, bnames, callBuiltin, lenOf, small, canStore, pyEq, PV.toD, PV.toDs, PyData.eqv, PyData.eqvAll, getList, newCell, setCell, slice, bound, cut, textOk, empty_append, andor, oror, andand, orand, strOk_num, strOk_v, strOk_n, strOk_nm, strOk_fr, v_lam, v_app, v_fr, fr_lam, fr_app, v_take, v_drop, fr_take, List.getElem?_append, fieldText, relab, compOk, Vars.comp, Nm.text_beq, T.lay_pv] using hmem
  refine ⟨_, v, hmem, hx, by omega, ?_⟩
  rw [List.set_append_left _ _ hl] at hp
  exact hp

theorem tree_spec : ∀ (f : Nat) (env : List Nm) (hd : Bool) {σ : Store} {h c : Nat} {cells : List Int} {a b r : Nat}, HandAt σ h c cells a b → σ[r]? = some (.list (envPV env)) → r ≠ h → a + pk f ≤ 1000 → b + pk f ≤ 1000 → env.length + f ≤ 50 → ∀ n, f + 2 ≤ n →
    ∃ σ' t a' b', (T1.at n).call "_law_tree" [.ref h, .ref r, .int f, .bool hd] σ = some (.ok (T.pv t) σ') ∧ HandAt σ' h c cells a' b' ∧ Upd h σ σ' ∧ a' ≤ a + pk f ∧ b' ≤ b + pk f ∧ Drawn f env hd b t b'
  | 0, env, hd, σ, h, c, cells, a, b, r, H, hr, hrh, ha, hb, he, n, hn => by
    obtain ⟨n, rfl⟩ : ∃ m, n = m + 1 := ⟨n - 1, by omega⟩
    have hpk : pk 0 = 1 := rfl
    obtain ⟨hrl, hrle⟩ := List.getElem?_eq_some_iff.mp hr
    have hlen : (envPV env).length = env.length := List.length_map _
    have hlen2 : (envPV (env ++ [.k, .m])).length = env.length + 2 := by unfold envPV; simp [evSs, evS, evE, evEs, evT, evA, evB, evC, evO, evI, evF, ofString_inj, ofString_beq, strOk_ofString, strOk_append, M.then, bind_at, pure_at, fail_at, lift_some_at, lift_none_at, ite_at, isGlob, varOf, Vars.of, Vars.setAll, Vars.set, constOf, item, pickAt, cmpop, eqTop, PV.lay, PV.lays, PV.depth, PV.depths, binop, List.lookup_cons, plainArgs, const1, exn1, fuel1, isDef1, places1, consts1, exns1, bnames, callBuiltin, lenOf, small, canStore, pyEq, PV.toD, PV.toDs, PyData.eqv, PyData.eqvAll, getList, newCell, setCell, slice, bound, cut, textOk, empty_append, andor, oror, andand, orand, strOk_num, strOk_v, strOk_n, strOk_nm, strOk_fr, v_lam, v_app, v_fr, fr_lam, fr_app, v_take, v_drop, fr_take, List.getElem?_append, fieldText, relab, compOk, Vars.comp, Nm.text_beq, T.lay_pv]
    have e1 : env.length ≤ 100000 := by omega
    have e2 : env.length + 2 ≤ 100000 := by omega
    obtain ⟨x, v, hmem, hx, hv, hp⟩ := leaf_pick (env := env) H (by omega) (by omega) n (by omega)
    rw [at_call _ _ _ _ (defAt PySem.Challenge.pw_pq0040_01 28) rfl]
    unfold callOf
    rw [show defAt PySem.Challenge.pw_pq0040_01 28 = Def.mk _ _ _ from rfl]
    refine ⟨_, .nm x, a + 1, b, ?_, (H.set (a + 1) b).app [Cell.list [.str (Str.ofString "k"), .str (Str.ofString "m")], Cell.list (envPV (env ++ [.k, .m]))], (Upd.set h _ _).trans (Upd.app h _ _), by omega, by omega, .nm hmem⟩
    have e3 : v < 4611686018427387904 := by omega
    simp [evSs, evS, evE, evEs, evT, evA, evB, evC, evO, evI, evF, ofString_inj, ofString_beq, strOk_ofString, strOk_append, M.then, bind_at, pure_at, fail_at, lift_some_at, lift_none_at, ite_at, isGlob, varOf, Vars.of, Vars.setAll, Vars.set, constOf, item, pickAt, cmpop, eqTop, PV.lay, PV.lays, PV.depth, PV.depths, binop, List.lookup_cons, plainArgs, const1, exn1, fuel1, isDef1, places1, consts1, exns1, bnames, callBuiltin, lenOf, small, canStore, pyEq, PV.toD, PV.toDs, PyData.eqv, PyData.eqvAll, getList, newCell, setCell, slice, bound, cut, textOk, empty_append, andor, oror, andand, orand, strOk_num, strOk_v, strOk_n, strOk_nm, strOk_fr, v_lam, v_app, v_fr, fr_lam, fr_app, v_take, v_drop, fr_take, List.getElem?_append, fieldText, relab, compOk, Vars.comp, Nm.text_beq, T.lay_pv] at hp
    simp [evSs, evS, evE, evEs, evT, evA, evB, evC, evO, evI, evF, ofString_inj, ofString_beq, strOk_ofString, strOk_append, M.then, bind_at, pure_at, fail_at, lift_some_at, lift_none_at, ite_at, isGlob, varOf, Vars.of, Vars.setAll, Vars.set, constOf, item, pickAt, cmpop, eqTop, PV.lay, PV.lays, PV.depth, PV.depths, binop, List.lookup_cons, plainArgs, const1, exn1, fuel1, isDef1, places1, consts1, exns1, bnames, callBuiltin, lenOf, small, canStore, pyEq, PV.toD, PV.toDs, PyData.eqv, PyData.eqvAll, getList, newCell, setCell, slice, bound, cut, textOk, empty_append, andor, oror, andand, orand, strOk_num, strOk_v, strOk_n, strOk_nm, strOk_fr, v_lam, v_app, v_fr, fr_lam, fr_app, v_take, v_drop, fr_take, List.getElem?_append, fieldText, relab, compOk, Vars.comp, Nm.text_beq, T.lay_pv, hrl, hrle, hlen, e1, env_two, hlen2, e2, hp, e3, hx, T.pv]
  | f + 1, env, hd, σ, h, c, cells, a, b, r, H, hr, hrh, ha, hb, he, n, hn => by
    obtain ⟨n, rfl⟩ : ∃ m, n = m + 1 := ⟨n - 1, by omega⟩
    have hpk : pk (f + 1) = 1 + 2 * pk f := rfl
    obtain ⟨w, hw, hp0⟩ := pick_spec H 4 (by omega) (by omega) (by omega) n (by omega)
    have H1 := H.set (a + 1) b
    have U1 := Upd.set h σ (.list [.ref c, .int (a + 1 : Nat), .int b])
    have hr1 := U1.keep hr hrh
    generalize σ.set h (.list [.ref c, .int (a + 1 : Nat), .int b]) = σ1 at *
    obtain ⟨hrl, hrle⟩ := List.getElem?_eq_some_iff.mp hr1
    have hlen : (envPV env).length = env.length := List.length_map _
    have hlen2 : (envPV (env ++ [.k, .m])).length = env.length + 2 := by unfold envPV; simp [evSs, evS, evE, evEs, evT, evA, evB, evC, evO, evI, evF, ofString_inj, ofString_beq, strOk_ofString, strOk_append, M.then, bind_at, pure_at, fail_at, lift_some_at, lift_none_at, ite_at, isGlob, varOf, Vars.of, Vars.setAll, Vars.set, constOf, item, pickAt, cmpop, eqTop, PV.lay, PV.lays, PV.depth, PV.depths, binop, List.lookup_cons, plainArgs, const1, exn1, fuel1, isDef1, places1, consts1, exns1, bnames, callBuiltin, lenOf, small, canStore, pyEq, PV.toD, PV.toDs, PyData.eqv, PyData.eqvAll, getList, newCell, setCell, slice, bound, cut, textOk, empty_append, andor, oror, andand, orand, strOk_num, strOk_v, strOk_n, strOk_nm, strOk_fr, v_lam, v_app, v_fr, fr_lam, fr_app, v_take, v_drop, fr_take, List.getElem?_append, fieldText, relab, compOk, Vars.comp, Nm.text_beq, T.lay_pv]
    have e1 : env.length ≤ 100000 := by omega
    have e2 : env.length + 2 ≤ 100000 := by omega
    have e4 : (0 : Int) < (f : Int) + 1 := by omega
    rw [at_call _ _ _ _ (defAt PySem.Challenge.pw_pq0040_01 28) rfl]
    unfold callOf
    rw [show defAt PySem.Challenge.pw_pq0040_01 28 = Def.mk _ _ _ from rfl]
    simp [evSs, evS, evE, evEs, evT, evA, evB, evC, evO, evI, evF, ofString_inj, ofString_beq, strOk_ofString, strOk_append, M.then, bind_at, pure_at, fail_at, lift_some_at, lift_none_at, ite_at, isGlob, varOf, Vars.of, Vars.setAll, Vars.set, constOf, item, pickAt, cmpop, eqTop, PV.lay, PV.lays, PV.depth, PV.depths, binop, List.lookup_cons, plainArgs, const1, exn1, fuel1, isDef1, places1, consts1, exns1, bnames, callBuiltin, lenOf, small, canStore, pyEq, PV.toD, PV.toDs, PyData.eqv, PyData.eqvAll, getList, newCell, setCell, slice, bound, cut, textOk, empty_append, andor, oror, andand, orand, strOk_num, strOk_v, strOk_n, strOk_nm, strOk_fr, v_lam, v_app, v_fr, fr_lam, fr_app, v_take, v_drop, fr_take, List.getElem?_append, fieldText, relab, compOk, Vars.comp, Nm.text_beq, T.lay_pv] at hp0
    by_cases h3 : w = 3
    · subst h3
      obtain ⟨x, v, hmem, hx, hv, hp⟩ := leaf_pick (env := env) H1 (by omega) (by omega) n (by omega)
      refine ⟨_, .nm x, a + 1 + 1, b, ?_, (H1.set (a + 1 + 1) b).app [Cell.list [.str (Str.ofString "k"), .str (Str.ofString "m")], Cell.list (envPV (env ++ [.k, .m]))], U1.trans ((Upd.set h _ _).trans (Upd.app h _ _)), by have := pk_pos f; omega, by omega, .nm hmem⟩
      have e3 : v < 4611686018427387904 := by omega
      simp [evSs, evS, evE, evEs, evT, evA, evB, evC, evO, evI, evF, ofString_inj, ofString_beq, strOk_ofString, strOk_append, M.then, bind_at, pure_at, fail_at, lift_some_at, lift_none_at, ite_at, isGlob, varOf, Vars.of, Vars.setAll, Vars.set, constOf, item, pickAt, cmpop, eqTop, PV.lay, PV.lays, PV.depth, PV.depths, binop, List.lookup_cons, plainArgs, const1, exn1, fuel1, isDef1, places1, consts1, exns1, bnames, callBuiltin, lenOf, small, canStore, pyEq, PV.toD, PV.toDs, PyData.eqv, PyData.eqvAll, getList, newCell, setCell, slice, bound, cut, textOk, empty_append, andor, oror, andand, orand, strOk_num, strOk_v, strOk_n, strOk_nm, strOk_fr, v_lam, v_app, v_fr, fr_lam, fr_app, v_take, v_drop, fr_take, List.getElem?_append, fieldText, relab, compOk, Vars.comp, Nm.text_beq, T.lay_pv] at hp
      simp [evSs, evS, evE, evEs, evT, evA, evB, evC, evO, evI, evF, ofString_inj, ofString_beq, strOk_ofString, strOk_append, M.then, bind_at, pure_at, fail_at, lift_some_at, lift_none_at, ite_at, isGlob, varOf, Vars.of, Vars.setAll, Vars.set, constOf, item, pickAt, cmpop, eqTop, PV.lay, PV.lays, PV.depth, PV.depths, binop, List.lookup_cons, plainArgs, const1, exn1, fuel1, isDef1, places1, consts1, exns1, bnames, callBuiltin, lenOf, small, canStore, pyEq, PV.toD, PV.toDs, PyData.eqv, PyData.eqvAll, getList, newCell, setCell, slice, bound, cut, textOk, empty_append, andor, oror, andand, orand, strOk_num, strOk_v, strOk_n, strOk_nm, strOk_fr, v_lam, v_app, v_fr, fr_lam, fr_app, v_take, v_drop, fr_take, List.getElem?_append, fieldText, relab, compOk, Vars.comp, Nm.text_beq, T.lay_pv, hrl, hrle, hlen, e1, env_two, hlen2, e2, hp, e3, hx, T.pv, e4, hp0]
    · by_cases h0 : w = 0 ∧ hd = false
      · obtain ⟨rfl, rfl⟩ := h0
        have hnm := name_spec H1 (by omega) n (by omega)
        have H2 := H1.set (a + 1) (b + 1)
        have U2 := Upd.set h σ1 (.list [.ref c, .int (a + 1 : Nat), .int (b + 1 : Nat)])
        have hr2 := U2.keep hr1 hrh
        generalize σ1.set h (.list [.ref c, .int (a + 1 : Nat), .int (b + 1 : Nat)]) = σ2 at *
        obtain ⟨hrl2, hrle2⟩ := List.getElem?_eq_some_iff.mp hr2
        obtain ⟨hl2, _⟩ := List.getElem?_eq_some_iff.mp H2.hand
        obtain ⟨σ', t, a', b', q1, q2, q3, q4, q5, q6⟩ := tree_spec f (env ++ [.n (b + 1)]) false (r := σ2.length + 1) (H2.app [Cell.list [.str (ntext (b + 1))], Cell.list (envPV (env ++ [.n (b + 1)]))]) (by simp [evSs, evS, evE, evEs, evT, evA, evB, evC, evO, evI, evF, ofString_inj, ofString_beq, strOk_ofString, strOk_append, M.then, bind_at, pure_at, fail_at, lift_some_at, lift_none_at, ite_at, isGlob, varOf, Vars.of, Vars.setAll, Vars.set, constOf, item, pickAt, cmpop, eqTop, PV.lay, PV.lays, PV.depth, PV.depths, binop, List.lookup_cons, plainArgs, const1, exn1, fuel1, isDef1, places1, consts1, exns1, bnames, callBuiltin, lenOf, small, canStore, pyEq, PV.toD, PV.toDs, PyData.eqv, PyData.eqvAll, getList, newCell, setCell, slice, bound, cut, textOk, empty_append, andor, oror, andand, orand, strOk_num, strOk_v, strOk_n, strOk_nm, strOk_fr, v_lam, v_app, v_fr, fr_lam, fr_app, v_take, v_drop, fr_take, List.getElem?_append, fieldText, relab, compOk, Vars.comp, Nm.text_beq, T.lay_pv]) (by omega) (by omega) (by omega) (by simp [evSs, evS, evE, evEs, evT, evA, evB, evC, evO, evI, evF, ofString_inj, ofString_beq, strOk_ofString, strOk_append, M.then, bind_at, pure_at, fail_at, lift_some_at, lift_none_at, ite_at, isGlob, varOf, Vars.of, Vars.setAll, Vars.set, constOf, item, pickAt, cmpop, eqTop, PV.lay, PV.lays, PV.depth, PV.depths, binop, List.lookup_cons, plainArgs, const1, exn1, fuel1, isDef1, places1, consts1, exns1, bnames, callBuiltin, lenOf, small, canStore, pyEq, PV.toD, PV.toDs, PyData.eqv, PyData.eqvAll, getList, newCell, setCell, slice, bound, cut, textOk, empty_append, andor, oror, andand, orand, strOk_num, strOk_v, strOk_n, strOk_nm, strOk_fr, v_lam, v_app, v_fr, fr_lam, fr_app, v_take, v_drop, fr_take, List.getElem?_append, fieldText, relab, compOk, Vars.comp, Nm.text_beq, T.lay_pv]; omega) n (by omega)
        refine ⟨σ', .lam (.n (b + 1)) t, a', b', ?_, q2, U1.trans (U2.trans ((Upd.app h _ _).trans q3)), by omega, by omega, .lam q6⟩
        try simp [evSs, evS, evE, evEs, evT, evA, evB, evC, evO, evI, evF, ofString_inj, ofString_beq, strOk_ofString, strOk_append, M.then, bind_at, pure_at, fail_at, lift_some_at, lift_none_at, ite_at, isGlob, varOf, Vars.of, Vars.setAll, Vars.set, constOf, item, pickAt, cmpop, eqTop, PV.lay, PV.lays, PV.depth, PV.depths, binop, List.lookup_cons, plainArgs, const1, exn1, fuel1, isDef1, places1, consts1, exns1, bnames, callBuiltin, lenOf, small, canStore, pyEq, PV.toD, PV.toDs, PyData.eqv, PyData.eqvAll, getList, newCell, setCell, slice, bound, cut, textOk, empty_append, andor, oror, andand, orand, strOk_num, strOk_v, strOk_n, strOk_nm, strOk_fr, v_lam, v_app, v_fr, fr_lam, fr_app, v_take, v_drop, fr_take, List.getElem?_append, fieldText, relab, compOk, Vars.comp, Nm.text_beq, T.lay_pv] at q1
        try simp [evSs, evS, evE, evEs, evT, evA, evB, evC, evO, evI, evF, ofString_inj, ofString_beq, strOk_ofString, strOk_append, M.then, bind_at, pure_at, fail_at, lift_some_at, lift_none_at, ite_at, isGlob, varOf, Vars.of, Vars.setAll, Vars.set, constOf, item, pickAt, cmpop, eqTop, PV.lay, PV.lays, PV.depth, PV.depths, binop, List.lookup_cons, plainArgs, const1, exn1, fuel1, isDef1, places1, consts1, exns1, bnames, callBuiltin, lenOf, small, canStore, pyEq, PV.toD, PV.toDs, PyData.eqv, PyData.eqvAll, getList, newCell, setCell, slice, bound, cut, textOk, empty_append, andor, oror, andand, orand, strOk_num, strOk_v, strOk_n, strOk_nm, strOk_fr, v_lam, v_app, v_fr, fr_lam, fr_app, v_take, v_drop, fr_take, List.getElem?_append, fieldText, relab, compOk, Vars.comp, Nm.text_beq, T.lay_pv] at hnm
        simp [evSs, evS, evE, evEs, evT, evA, evB, evC, evO, evI, evF, ofString_inj, ofString_beq, strOk_ofString, strOk_append, M.then, bind_at, pure_at, fail_at, lift_some_at, lift_none_at, ite_at, isGlob, varOf, Vars.of, Vars.setAll, Vars.set, constOf, item, pickAt, cmpop, eqTop, PV.lay, PV.lays, PV.depth, PV.depths, binop, List.lookup_cons, plainArgs, const1, exn1, fuel1, isDef1, places1, consts1, exns1, bnames, callBuiltin, lenOf, small, canStore, pyEq, PV.toD, PV.toDs, PyData.eqv, PyData.eqvAll, getList, newCell, setCell, slice, bound, cut, textOk, empty_append, andor, oror, andand, orand, strOk_num, strOk_v, strOk_n, strOk_nm, strOk_fr, v_lam, v_app, v_fr, fr_lam, fr_app, v_take, v_drop, fr_take, List.getElem?_append, fieldText, relab, compOk, Vars.comp, Nm.text_beq, T.lay_pv, hp0, e4, hnm, hrl2, hrle2, hlen, e1, env_one, q1, T.pv, Nm.text]
      · have hw3 : w < 3 := by omega
        obtain ⟨σ', t, a', b', q1, q2, q3, q4, q5, q6⟩ := tree_spec f env true H1 hr1 hrh (by omega) (by omega) (by omega) n (by omega)
        obtain ⟨σ'', u, a'', b'', p1, p2, p3, p4, p5, p6⟩ := tree_spec f env false q2 (q3.keep hr1 hrh) hrh (by omega) (by omega) (by omega) n (by omega)
        refine ⟨σ'', .app t u, a'', b'', ?_, p2, U1.trans (q3.trans p3), by omega, by omega, .app q6 p6⟩
        try simp [evSs, evS, evE, evEs, evT, evA, evB, evC, evO, evI, evF, ofString_inj, ofString_beq, strOk_ofString, strOk_append, M.then, bind_at, pure_at, fail_at, lift_some_at, lift_none_at, ite_at, isGlob, varOf, Vars.of, Vars.setAll, Vars.set, constOf, item, pickAt, cmpop, eqTop, PV.lay, PV.lays, PV.depth, PV.depths, binop, List.lookup_cons, plainArgs, const1, exn1, fuel1, isDef1, places1, consts1, exns1, bnames, callBuiltin, lenOf, small, canStore, pyEq, PV.toD, PV.toDs, PyData.eqv, PyData.eqvAll, getList, newCell, setCell, slice, bound, cut, textOk, empty_append, andor, oror, andand, orand, strOk_num, strOk_v, strOk_n, strOk_nm, strOk_fr, v_lam, v_app, v_fr, fr_lam, fr_app, v_take, v_drop, fr_take, List.getElem?_append, fieldText, relab, compOk, Vars.comp, Nm.text_beq, T.lay_pv] at q1
        try simp [evSs, evS, evE, evEs, evT, evA, evB, evC, evO, evI, evF, ofString_inj, ofString_beq, strOk_ofString, strOk_append, M.then, bind_at, pure_at, fail_at, lift_some_at, lift_none_at, ite_at, isGlob, varOf, Vars.of, Vars.setAll, Vars.set, constOf, item, pickAt, cmpop, eqTop, PV.lay, PV.lays, PV.depth, PV.depths, binop, List.lookup_cons, plainArgs, const1, exn1, fuel1, isDef1, places1, consts1, exns1, bnames, callBuiltin, lenOf, small, canStore, pyEq, PV.toD, PV.toDs, PyData.eqv, PyData.eqvAll, getList, newCell, setCell, slice, bound, cut, textOk, empty_append, andor, oror, andand, orand, strOk_num, strOk_v, strOk_n, strOk_nm, strOk_fr, v_lam, v_app, v_fr, fr_lam, fr_app, v_take, v_drop, fr_take, List.getElem?_append, fieldText, relab, compOk, Vars.comp, Nm.text_beq, T.lay_pv] at p1
        have e5 : w = 0 → hd = true := fun h => by cases hd; exact absurd ⟨h, rfl⟩ h0; rfl
        by_cases hw0 : w = 0
        · have e6 := e5 hw0
          subst hw0 e6
          simp [evSs, evS, evE, evEs, evT, evA, evB, evC, evO, evI, evF, ofString_inj, ofString_beq, strOk_ofString, strOk_append, M.then, bind_at, pure_at, fail_at, lift_some_at, lift_none_at, ite_at, isGlob, varOf, Vars.of, Vars.setAll, Vars.set, constOf, item, pickAt, cmpop, eqTop, PV.lay, PV.lays, PV.depth, PV.depths, binop, List.lookup_cons, plainArgs, const1, exn1, fuel1, isDef1, places1, consts1, exns1, bnames, callBuiltin, lenOf, small, canStore, pyEq, PV.toD, PV.toDs, PyData.eqv, PyData.eqvAll, getList, newCell, setCell, slice, bound, cut, textOk, empty_append, andor, oror, andand, orand, strOk_num, strOk_v, strOk_n, strOk_nm, strOk_fr, v_lam, v_app, v_fr, fr_lam, fr_app, v_take, v_drop, fr_take, List.getElem?_append, fieldText, relab, compOk, Vars.comp, Nm.text_beq, T.lay_pv, hp0, e4, q1, p1, T.pv]
        · have e7 : (w : Int) < 3 := by omega
          simp [evSs, evS, evE, evEs, evT, evA, evB, evC, evO, evI, evF, ofString_inj, ofString_beq, strOk_ofString, strOk_append, M.then, bind_at, pure_at, fail_at, lift_some_at, lift_none_at, ite_at, isGlob, varOf, Vars.of, Vars.setAll, Vars.set, constOf, item, pickAt, cmpop, eqTop, PV.lay, PV.lays, PV.depth, PV.depths, binop, List.lookup_cons, plainArgs, const1, exn1, fuel1, isDef1, places1, consts1, exns1, bnames, callBuiltin, lenOf, small, canStore, pyEq, PV.toD, PV.toDs, PyData.eqv, PyData.eqvAll, getList, newCell, setCell, slice, bound, cut, textOk, empty_append, andor, oror, andand, orand, strOk_num, strOk_v, strOk_n, strOk_nm, strOk_fr, v_lam, v_app, v_fr, fr_lam, fr_app, v_take, v_drop, fr_take, List.getElem?_append, fieldText, relab, compOk, Vars.comp, Nm.text_beq, T.lay_pv, hp0, e4, q1, p1, T.pv, hw0, hw3, e7]
end Mine

-- P16
namespace Mine
open PySem

inductive MadeT (i : Nat) : T → T → Prop where
  | wrap {u : T} : MadeT i u (.app (.lam (.n i) (.nm (.n i))) u)
  | drop {u : T} : MadeT i u (.app (.lam (.n i) u) (.nm .m))
  | arg {u v : T} : MadeT i (.app u v) (.app (.lam (.n i) (.app u (.nm (.n i)))) v)
inductive Turn (b : Nat) : T → T → Nat → Prop where
  | work {t : T} {p : List Nat} {x : Nm} {c a : T} : t.part p = some (.app (.lam x c) a) → Turn b t (T.repl (T.put x a c) t p) b
  | made {t u v : T} {p : List Nat} : t.part p = some u → MadeT (b + 1) u v → Turn b t (T.repl v t p) (b + 1)
theorem n_text (i : Nat) : (Nm.n i).text = ntext i := rfl
theorem m_text : Nm.m.text = Str.ofString "m" := rfl
theorem T.size_pos (t : T) : 1 ≤ t.size := by cases t <;> simp [evSs, evS, evE, evEs, evT, evA, evB, evC, evO, evI, evF, ofString_inj, ofString_beq, strOk_ofString, strOk_append, M.then, bind_at, pure_at, fail_at, lift_some_at, lift_none_at, ite_at, isGlob, varOf, Vars.of, Vars.setAll, Vars.set, constOf, item, pickAt, cmpop, eqTop, PV.lay, PV.lays, PV.depth, PV.depths, binop, List.lookup_cons, plainArgs, const1, exn1, fuel1, isDef1, places1, consts1, exns1, bnames, callBuiltin, lenOf, small, canStore, pyEq, PV.toD, PV.toDs, PyData.eqv, PyData.eqvAll, getList, newCell, setCell, slice, bound, cut, textOk, empty_append, andor, oror, andand, orand, strOk_num, strOk_v, strOk_n, strOk_nm, strOk_fr, v_lam, v_app, v_fr, fr_lam, fr_app, v_take, v_drop, fr_take, List.getElem?_append, fieldText, relab, compOk, Vars.comp, Nm.text_beq, T.lay_pv, T.size]
theorem T.redex_some {t : T} (h : t.redex = true) : ∃ x c a, t = .app (.lam x c) a := by
  cases t with
  | app u a =>
    cases u with
    | lam x c => exact ⟨x, c, a, rfl⟩
    | nm x => exact absurd h (by simp [evSs, evS, evE, evEs, evT, evA, evB, evC, evO, evI, evF, ofString_inj, ofString_beq, strOk_ofString, strOk_append, M.then, bind_at, pure_at, fail_at, lift_some_at, lift_none_at, ite_at, isGlob, varOf, Vars.of, Vars.setAll, Vars.set, constOf, item, pickAt, cmpop, eqTop, PV.lay, PV.lays, PV.depth, PV.depths, binop, List.lookup_cons, plainArgs, const1, exn1, fuel1, isDef1, places1, consts1, exns1, bnames, callBuiltin, lenOf, small, canStore, pyEq, PV.toD, PV.toDs, PyData.eqv, PyData.eqvAll, getList, newCell, setCell, slice, bound, cut, textOk, empty_append, andor, oror, andand, orand, strOk_num, strOk_v, strOk_n, strOk_nm, strOk_fr, v_lam, v_app, v_fr, fr_lam, fr_app, v_take, v_drop, fr_take, List.getElem?_append, fieldText, relab, compOk, Vars.comp, Nm.text_beq, T.lay_pv, T.redex])
    | app v w => exact absurd h (by simp [evSs, evS, evE, evEs, evT, evA, evB, evC, evO, evI, evF, ofString_inj, ofString_beq, strOk_ofString, strOk_append, M.then, bind_at, pure_at, fail_at, lift_some_at, lift_none_at, ite_at, isGlob, varOf, Vars.of, Vars.setAll, Vars.set, constOf, item, pickAt, cmpop, eqTop, PV.lay, PV.lays, PV.depth, PV.depths, binop, List.lookup_cons, plainArgs, const1, exn1, fuel1, isDef1, places1, consts1, exns1, bnames, callBuiltin, lenOf, small, canStore, pyEq, PV.toD, PV.toDs, PyData.eqv, PyData.eqvAll, getList, newCell, setCell, slice, bound, cut, textOk, empty_append, andor, oror, andand, orand, strOk_num, strOk_v, strOk_n, strOk_nm, strOk_fr, v_lam, v_app, v_fr, fr_lam, fr_app, v_take, v_drop, fr_take, List.getElem?_append, fieldText, relab, compOk, Vars.comp, Nm.text_beq, T.lay_pv, T.redex])
  | nm x => exact absurd h (by simp [evSs, evS, evE, evEs, evT, evA, evB, evC, evO, evI, evF, ofString_inj, ofString_beq, strOk_ofString, strOk_append, M.then, bind_at, pure_at, fail_at, lift_some_at, lift_none_at, ite_at, isGlob, varOf, Vars.of, Vars.setAll, Vars.set, constOf, item, pickAt, cmpop, eqTop, PV.lay, PV.lays, PV.depth, PV.depths, binop, List.lookup_cons, plainArgs, const1, exn1, fuel1, isDef1, places1, consts1, exns1, bnames, callBuiltin, lenOf, small, canStore, pyEq, PV.toD, PV.toDs, PyData.eqv, PyData.eqvAll, getList, newCell, setCell, slice, bound, cut, textOk, empty_append, andor, oror, andand, orand, strOk_num, strOk_v, strOk_n, strOk_nm, strOk_fr, v_lam, v_app, v_fr, fr_lam, fr_app, v_take, v_drop, fr_take, List.getElem?_append, fieldText, relab, compOk, Vars.comp, Nm.text_beq, T.lay_pv, T.redex])
  | lam x c => exact absurd h (by simp [evSs, evS, evE, evEs, evT, evA, evB, evC, evO, evI, evF, ofString_inj, ofString_beq, strOk_ofString, strOk_append, M.then, bind_at, pure_at, fail_at, lift_some_at, lift_none_at, ite_at, isGlob, varOf, Vars.of, Vars.setAll, Vars.set, constOf, item, pickAt, cmpop, eqTop, PV.lay, PV.lays, PV.depth, PV.depths, binop, List.lookup_cons, plainArgs, const1, exn1, fuel1, isDef1, places1, consts1, exns1, bnames, callBuiltin, lenOf, small, canStore, pyEq, PV.toD, PV.toDs, PyData.eqv, PyData.eqvAll, getList, newCell, setCell, slice, bound, cut, textOk, empty_append, andor, oror, andand, orand, strOk_num, strOk_v, strOk_n, strOk_nm, strOk_fr, v_lam, v_app, v_fr, fr_lam, fr_app, v_take, v_drop, fr_take, List.getElem?_append, fieldText, relab, compOk, Vars.comp, Nm.text_beq, T.lay_pv, T.redex])
theorem T.part_size : ∀ (p : List Nat) (t u : T), t.part p = some u → u.size ≤ t.size
  | [], t, u, h => by cases h; exact Nat.le_refl _
  | i :: p, t, u, h => by
    unfold T.part at h
    cases hk : t.kid i with
    | none => rw [hk] at h; exact absurd h (by simp [evSs, evS, evE, evEs, evT, evA, evB, evC, evO, evI, evF, ofString_inj, ofString_beq, strOk_ofString, strOk_append, M.then, bind_at, pure_at, fail_at, lift_some_at, lift_none_at, ite_at, isGlob, varOf, Vars.of, Vars.setAll, Vars.set, constOf, item, pickAt, cmpop, eqTop, PV.lay, PV.lays, PV.depth, PV.depths, binop, List.lookup_cons, plainArgs, const1, exn1, fuel1, isDef1, places1, consts1, exns1, bnames, callBuiltin, lenOf, small, canStore, pyEq, PV.toD, PV.toDs, PyData.eqv, PyData.eqvAll, getList, newCell, setCell, slice, bound, cut, textOk, empty_append, andor, oror, andand, orand, strOk_num, strOk_v, strOk_n, strOk_nm, strOk_fr, v_lam, v_app, v_fr, fr_lam, fr_app, v_take, v_drop, fr_take, List.getElem?_append, fieldText, relab, compOk, Vars.comp, Nm.text_beq, T.lay_pv])
    | some k =>
      rw [hk] at h
      have := T.part_size p k u h
      match t, i, hk with
      | .lam x b, 2, hk => rw [← (Option.some.inj hk : b = k)] at this; show _ ≤ b.size + 1; omega
      | .app a b, 1, hk => rw [← (Option.some.inj hk : a = k)] at this; show _ ≤ a.size + b.size + 1; omega
      | .app a b, 2, hk => rw [← (Option.some.inj hk : b = k)] at this; show _ ≤ a.size + b.size + 1; omega

theorem turned_spec (t : T) (hs : t.size ≤ 100) {σ : Store} {h c : Nat} {cells : List Int} {a b : Nat} (H : HandAt σ h c cells a b) (ha : a + 2 ≤ 1000) (hb : b + 1 ≤ 1000) (n : Nat) (hn : 150 ≤ n) :
    ∃ σ' t' a' b', (T1.at n).call "_law_turned" [.ref h, t.pv] σ = some (.ok (T.pv t') σ') ∧ HandAt σ' h c cells a' b' ∧ Upd h σ σ' ∧ a' ≤ a + 2 ∧ b' ≤ b + 1 ∧ Turn b t t' b' := by
  obtain ⟨n, rfl⟩ : ∃ m, n = m + 1 := ⟨n - 1, by omega⟩
  obtain ⟨g, m, hsp, hm⟩ := spots_spec t (by omega) n (by omega) σ
  have hmh : m ≠ h := by
    rintro rfl
    rw [(H.app g).hand] at hm
    have hm := Option.some.inj hm
    injection hm with hm
    cases hsp2 : t.spots with
    | nil => have := T.spots_len t; have := T.size_pos t; rw [hsp2] at *; simp [evSs, evS, evE, evEs, evT, evA, evB, evC, evO, evI, evF, ofString_inj, ofString_beq, strOk_ofString, strOk_append, M.then, bind_at, pure_at, fail_at, lift_some_at, lift_none_at, ite_at, isGlob, varOf, Vars.of, Vars.setAll, Vars.set, constOf, item, pickAt, cmpop, eqTop, PV.lay, PV.lays, PV.depth, PV.depths, binop, List.lookup_cons, plainArgs, const1, exn1, fuel1, isDef1, places1, consts1, exns1, bnames, callBuiltin, lenOf, small, canStore, pyEq, PV.toD, PV.toDs, PyData.eqv, PyData.eqvAll, getList, newCell, setCell, slice, bound, cut, textOk, empty_append, andor, oror, andand, orand, strOk_num, strOk_v, strOk_n, strOk_nm, strOk_fr, v_lam, v_app, v_fr, fr_lam, fr_app, v_take, v_drop, fr_take, List.getElem?_append, fieldText, relab, compOk, Vars.comp, Nm.text_beq, T.lay_pv] at *; omega
    | cons p r => rw [hsp2] at hm; simp [evSs, evS, evE, evEs, evT, evA, evB, evC, evO, evI, evF, ofString_inj, ofString_beq, strOk_ofString, strOk_append, M.then, bind_at, pure_at, fail_at, lift_some_at, lift_none_at, ite_at, isGlob, varOf, Vars.of, Vars.setAll, Vars.set, constOf, item, pickAt, cmpop, eqTop, PV.lay, PV.lays, PV.depth, PV.depths, binop, List.lookup_cons, plainArgs, const1, exn1, fuel1, isDef1, places1, consts1, exns1, bnames, callBuiltin, lenOf, small, canStore, pyEq, PV.toD, PV.toDs, PyData.eqv, PyData.eqvAll, getList, newCell, setCell, slice, bound, cut, textOk, empty_append, andor, oror, andand, orand, strOk_num, strOk_v, strOk_n, strOk_nm, strOk_fr, v_lam, v_app, v_fr, fr_lam, fr_app, v_take, v_drop, fr_take, List.getElem?_append, fieldText, relab, compOk, Vars.comp, Nm.text_beq, T.lay_pv, pathPV] at hm
  obtain ⟨w, hw, hp0⟩ := pick_spec (H.app g) 4 (by omega) (by omega) (by omega) n (by omega)
  have H1 := (H.app g).set (a + 1) b
  have U1 := (Upd.app h σ g).trans (Upd.set h (σ ++ g) (.list [.ref c, .int (a + 1 : Nat), .int b]))
  have hm1 := (Upd.set h (σ ++ g) (.list [.ref c, .int (a + 1 : Nat), .int b])).keep hm hmh
  generalize (σ ++ g).set h (.list [.ref c, .int (a + 1 : Nat), .int b]) = σ1 at *
  have hl := T.spots_len t
  have hdp := T.spots_depth t
  have e1 : t.spots.length ≤ 100000 := by omega
  have e0 : t.spots.length ≤ 1000 := by omega
  rw [at_call _ _ _ _ (defAt PySem.Challenge.pw_pq0040_01 35) rfl]
  generalize hE : callOf _ _ _ _ = F
  unfold callOf at hE
  rw [show defAt PySem.Challenge.pw_pq0040_01 35 = Def.mk _ _ _ from rfl] at hE
  simp [evSs, evS, evE, evEs, evT, evA, evB, evC, evO, evI, evF, ofString_inj, ofString_beq, strOk_ofString, strOk_append, M.then, bind_at, pure_at, fail_at, lift_some_at, lift_none_at, ite_at, isGlob, varOf, Vars.of, Vars.setAll, Vars.set, constOf, item, pickAt, cmpop, eqTop, PV.lay, PV.lays, PV.depth, PV.depths, binop, List.lookup_cons, plainArgs, const1, exn1, fuel1, isDef1, places1, consts1, exns1, bnames, callBuiltin, lenOf, small, canStore, pyEq, PV.toD, PV.toDs, PyData.eqv, PyData.eqvAll, getList, newCell, setCell, slice, bound, cut, textOk, empty_append, andor, oror, andand, orand, strOk_num, strOk_v, strOk_n, strOk_nm, strOk_fr, v_lam, v_app, v_fr, fr_lam, fr_app, v_take, v_drop, fr_take, List.getElem?_append, fieldText, relab, compOk, Vars.comp, Nm.text_beq, T.lay_pv] at hp0
  simp [evSs, evS, evE, evEs, evT, evA, evB, evC, evO, evI, evF, ofString_inj, ofString_beq, strOk_ofString, strOk_append, M.then, bind_at, pure_at, fail_at, lift_some_at, lift_none_at, ite_at, isGlob, varOf, Vars.of, Vars.setAll, Vars.set, constOf, item, pickAt, cmpop, eqTop, PV.lay, PV.lays, PV.depth, PV.depths, binop, List.lookup_cons, plainArgs, const1, exn1, fuel1, isDef1, places1, consts1, exns1, bnames, callBuiltin, lenOf, small, canStore, pyEq, PV.toD, PV.toDs, PyData.eqv, PyData.eqvAll, getList, newCell, setCell, slice, bound, cut, textOk, empty_append, andor, oror, andand, orand, strOk_num, strOk_v, strOk_n, strOk_nm, strOk_fr, v_lam, v_app, v_fr, fr_lam, fr_app, v_take, v_drop, fr_take, List.getElem?_append, fieldText, relab, compOk, Vars.comp, Nm.text_beq, T.lay_pv, targetNames, tupleOk, constantsAlone, hsp, hp0] at hE
  rw [gar_at (compM_refs_at σ1 t.spots pathPV pathPV t.redexAt ?_ e1 ?_ ?_)] at hE
  · generalize gar _ _ _ = g1 at hE
    rw [show t.spots.filter t.redexAt = t.backs from rfl] at hE
    simp [evSs, evS, evE, evEs, evT, evA, evB, evC, evO, evI, evF, ofString_inj, ofString_beq, strOk_ofString, strOk_append, M.then, bind_at, pure_at, fail_at, lift_some_at, lift_none_at, ite_at, isGlob, varOf, Vars.of, Vars.setAll, Vars.set, constOf, item, pickAt, cmpop, eqTop, PV.lay, PV.lays, PV.depth, PV.depths, binop, List.lookup_cons, plainArgs, const1, exn1, fuel1, isDef1, places1, consts1, exns1, bnames, callBuiltin, lenOf, small, canStore, pyEq, PV.toD, PV.toDs, PyData.eqv, PyData.eqvAll, getList, newCell, setCell, slice, bound, cut, textOk, empty_append, andor, oror, andand, orand, strOk_num, strOk_v, strOk_n, strOk_nm, strOk_fr, v_lam, v_app, v_fr, fr_lam, fr_app, v_take, v_drop, fr_take, List.getElem?_append, fieldText, relab, compOk, Vars.comp, Nm.text_beq, T.lay_pv, lays_paths, Nat.lt_of_le_of_lt (depths_paths t.backs) (show 1 < 2000 by decide), eqv_nil] at hE
    obtain ⟨hl1, _⟩ := List.getElem?_eq_some_iff.mp H1.hand
    obtain ⟨hlm, hlme⟩ := List.getElem?_eq_some_iff.mp hm1
    by_cases hA : w = 3 ∧ t.backs ≠ []
    · obtain ⟨rfl, hbk⟩ := hA
      have hbl : t.backs.length ≤ t.spots.length := List.length_filter_le _ _
      have hb1 : 1 ≤ t.backs.length := List.length_pos_iff.mpr hbk
      obtain ⟨v, hv, hp1⟩ := pick_spec (H1.app (g1 ++ [Cell.list (t.backs.map pathPV), Cell.list []])) t.backs.length hb1 (by omega) (by omega) n (by omega)
      rw [List.set_append_left _ _ hl1] at hp1
      have hx : t.backs[v]? = some (t.backs[v]'hv) := List.getElem?_eq_getElem hv
      have hmem : t.backs[v]'hv ∈ t.backs := List.getElem_mem _
      generalize t.backs[v]'hv = p at hx hmem
      have hmem := List.mem_filter.mp hmem
      obtain ⟨u, hu⟩ := T.spots_part t p hmem.1
      have hred : u.redex = true := by have := hmem.2; unfold T.redexAt at this; rw [hu] at this; exact this
      obtain ⟨x, c2, y, rfl⟩ := T.redex_some hred
      have hpl := hdp p hmem.1
      have hus := T.part_size p t _ hu
      have hus2 : (T.app (.lam x c2) y).size = c2.size + 1 + y.size + 1 := rfl
      have c1 := (lpart_spec t _ p (by omega) hu n (by omega)).at
      have c3 := (worked_spec x c2 y (by omega) n (by omega)).at
      have c4 := (lwith_spec (T.put x y c2) p t _ (by omega) hu n (by omega)).at
      have e5 : t.backs.length ≤ 100000 := by omega
      have e6 : v < 4611686018427387904 := by omega
      have e7 : t.backs.isEmpty = false := by simpa [evSs, evS, evE, evEs, evT, evA, evB, evC, evO, evI, evF, ofString_inj, ofString_beq, strOk_ofString, strOk_append, M.then, bind_at, pure_at, fail_at, lift_some_at, lift_none_at, ite_at, isGlob, varOf, Vars.of, Vars.setAll, Vars.set, constOf, item, pickAt, cmpop, eqTop, PV.lay, PV.lays, PV.depth, PV.depths, binop, List.lookup_cons, plainArgs, const1, exn1, fuel1, isDef1, places1, consts1, exns1, bnames, callBuiltin, lenOf, small, canStore, pyEq, PV.toD, PV.toDs, PyData.eqv, PyData.eqvAll, getList, newCell, setCell, slice, bound, cut, textOk, empty_append, andor, oror, andand, orand, strOk_num, strOk_v, strOk_n, strOk_nm, strOk_fr, v_lam, v_app, v_fr, fr_lam, fr_app, v_take, v_drop, fr_take, List.getElem?_append, fieldText, relab, compOk, Vars.comp, Nm.text_beq, T.lay_pv] using hbk
      try simp [evSs, evS, evE, evEs, evT, evA, evB, evC, evO, evI, evF, ofString_inj, ofString_beq, strOk_ofString, strOk_append, M.then, bind_at, pure_at, fail_at, lift_some_at, lift_none_at, ite_at, isGlob, varOf, Vars.of, Vars.setAll, Vars.set, constOf, item, pickAt, cmpop, eqTop, PV.lay, PV.lays, PV.depth, PV.depths, binop, List.lookup_cons, plainArgs, const1, exn1, fuel1, isDef1, places1, consts1, exns1, bnames, callBuiltin, lenOf, small, canStore, pyEq, PV.toD, PV.toDs, PyData.eqv, PyData.eqvAll, getList, newCell, setCell, slice, bound, cut, textOk, empty_append, andor, oror, andand, orand, strOk_num, strOk_v, strOk_n, strOk_nm, strOk_fr, v_lam, v_app, v_fr, fr_lam, fr_app, v_take, v_drop, fr_take, List.getElem?_append, fieldText, relab, compOk, Vars.comp, Nm.text_beq, T.lay_pv] at hp1
      simp [evSs, evS, evE, evEs, evT, evA, evB, evC, evO, evI, evF, ofString_inj, ofString_beq, strOk_ofString, strOk_append, M.then, bind_at, pure_at, fail_at, lift_some_at, lift_none_at, ite_at, isGlob, varOf, Vars.of, Vars.setAll, Vars.set, constOf, item, pickAt, cmpop, eqTop, PV.lay, PV.lays, PV.depth, PV.depths, binop, List.lookup_cons, plainArgs, const1, exn1, fuel1, isDef1, places1, consts1, exns1, bnames, callBuiltin, lenOf, small, canStore, pyEq, PV.toD, PV.toDs, PyData.eqv, PyData.eqvAll, getList, newCell, setCell, slice, bound, cut, textOk, empty_append, andor, oror, andand, orand, strOk_num, strOk_v, strOk_n, strOk_nm, strOk_fr, v_lam, v_app, v_fr, fr_lam, fr_app, v_take, v_drop, fr_take, List.getElem?_append, fieldText, relab, compOk, Vars.comp, Nm.text_beq, T.lay_pv, hbk, e5, hp1, e6, hx, c1, c3, c4] at hE
      subst hE
      exact ⟨_, _, a + 1 + 1, b, rfl, ((H1.set (a + 1 + 1) b).app _), U1.trans ((Upd.set h _ _).trans (Upd.app h _ _)), by omega, by omega, .work hu⟩
    · obtain ⟨G, hG⟩ : ∃ G, (if (w : Int) = 3 then (if t.backs = [] then some (R.ok (!t.backs.isEmpty) (σ1 ++ (g1 ++ [Cell.list (t.backs.map pathPV), Cell.list []]))) else some (R.ok true (σ1 ++ (g1 ++ [Cell.list (t.backs.map pathPV), Cell.list []])))) else some (R.ok ((w : Int) == 3) (σ1 ++ (g1 ++ [Cell.list (t.backs.map pathPV)])))) = some (R.ok false (σ1 ++ G)) := by
        by_cases h3 : w = 3
        · subst h3
          have hbk : t.backs = [] := Classical.byContradiction fun h => hA ⟨rfl, h⟩
          exact ⟨g1 ++ [Cell.list (t.backs.map pathPV), Cell.list []], by simp [evSs, evS, evE, evEs, evT, evA, evB, evC, evO, evI, evF, ofString_inj, ofString_beq, strOk_ofString, strOk_append, M.then, bind_at, pure_at, fail_at, lift_some_at, lift_none_at, ite_at, isGlob, varOf, Vars.of, Vars.setAll, Vars.set, constOf, item, pickAt, cmpop, eqTop, PV.lay, PV.lays, PV.depth, PV.depths, binop, List.lookup_cons, plainArgs, const1, exn1, fuel1, isDef1, places1, consts1, exns1, bnames, callBuiltin, lenOf, small, canStore, pyEq, PV.toD, PV.toDs, PyData.eqv, PyData.eqvAll, getList, newCell, setCell, slice, bound, cut, textOk, empty_append, andor, oror, andand, orand, strOk_num, strOk_v, strOk_n, strOk_nm, strOk_fr, v_lam, v_app, v_fr, fr_lam, fr_app, v_take, v_drop, fr_take, List.getElem?_append, fieldText, relab, compOk, Vars.comp, Nm.text_beq, T.lay_pv, hbk]⟩
        · have e : ¬ (w : Int) = 3 := by omega
          have e2 : ((w : Int) == 3) = false := by simpa [evSs, evS, evE, evEs, evT, evA, evB, evC, evO, evI, evF, ofString_inj, ofString_beq, strOk_ofString, strOk_append, M.then, bind_at, pure_at, fail_at, lift_some_at, lift_none_at, ite_at, isGlob, varOf, Vars.of, Vars.setAll, Vars.set, constOf, item, pickAt, cmpop, eqTop, PV.lay, PV.lays, PV.depth, PV.depths, binop, List.lookup_cons, plainArgs, const1, exn1, fuel1, isDef1, places1, consts1, exns1, bnames, callBuiltin, lenOf, small, canStore, pyEq, PV.toD, PV.toDs, PyData.eqv, PyData.eqvAll, getList, newCell, setCell, slice, bound, cut, textOk, empty_append, andor, oror, andand, orand, strOk_num, strOk_v, strOk_n, strOk_nm, strOk_fr, v_lam, v_app, v_fr, fr_lam, fr_app, v_take, v_drop, fr_take, List.getElem?_append, fieldText, relab, compOk, Vars.comp, Nm.text_beq, T.lay_pv] using e
          exact ⟨_, by rw [if_neg e, e2]⟩
      rw [hG] at hE
      obtain ⟨v, hv, hp1⟩ := pick_spec (H1.app G) t.spots.length (by have := T.size_pos t; omega) (by omega) (by omega) n (by omega)
      rw [List.set_append_left _ _ hl1] at hp1
      have H2 := (H1.set (a + 1 + 1) b).app G
      have U2 := (Upd.set h σ1 (.list [.ref c, .int (a + 1 + 1 : Nat), .int b])).trans (Upd.app h _ G)
      have hnm := name_spec H2 (by omega) n (by omega)
      have hm2 := U2.keep hm1 hmh
      have H3 := H2.set (a + 1 + 1) (b + 1)
      have U3 := Upd.set h (σ1.set h (.list [.ref c, .int (a + 1 + 1 : Nat), .int b]) ++ G) (.list [.ref c, .int (a + 1 + 1 : Nat), .int (b + 1 : Nat)])
      generalize (σ1.set h (.list [.ref c, .int (a + 1 + 1 : Nat), .int b]) ++ G).set h (.list [.ref c, .int (a + 1 + 1 : Nat), .int (b + 1 : Nat)]) = σ5 at *
      generalize σ1.set h (.list [.ref c, .int (a + 1 + 1 : Nat), .int b]) ++ G = σ4 at *
      have hx : t.spots[v]? = some (t.spots[v]'hv) := List.getElem?_eq_getElem hv
      have hmem : t.spots[v]'hv ∈ t.spots := List.getElem_mem _
      generalize t.spots[v]'hv = p at hx hmem
      obtain ⟨u, hu⟩ := T.spots_part t p hmem
      have hpl := hdp p hmem
      have c1 := (lpart_spec t _ p (by omega) hu n (by omega)).at
      have e6 : v < 4611686018427387904 := by omega
      try simp [evSs, evS, evE, evEs, evT, evA, evB, evC, evO, evI, evF, ofString_inj, ofString_beq, strOk_ofString, strOk_append, M.then, bind_at, pure_at, fail_at, lift_some_at, lift_none_at, ite_at, isGlob, varOf, Vars.of, Vars.setAll, Vars.set, constOf, item, pickAt, cmpop, eqTop, PV.lay, PV.lays, PV.depth, PV.depths, binop, List.lookup_cons, plainArgs, const1, exn1, fuel1, isDef1, places1, consts1, exns1, bnames, callBuiltin, lenOf, small, canStore, pyEq, PV.toD, PV.toDs, PyData.eqv, PyData.eqvAll, getList, newCell, setCell, slice, bound, cut, textOk, empty_append, andor, oror, andand, orand, strOk_num, strOk_v, strOk_n, strOk_nm, strOk_fr, v_lam, v_app, v_fr, fr_lam, fr_app, v_take, v_drop, fr_take, List.getElem?_append, fieldText, relab, compOk, Vars.comp, Nm.text_beq, T.lay_pv] at hp1
      try simp [evSs, evS, evE, evEs, evT, evA, evB, evC, evO, evI, evF, ofString_inj, ofString_beq, strOk_ofString, strOk_append, M.then, bind_at, pure_at, fail_at, lift_some_at, lift_none_at, ite_at, isGlob, varOf, Vars.of, Vars.setAll, Vars.set, constOf, item, pickAt, cmpop, eqTop, PV.lay, PV.lays, PV.depth, PV.depths, binop, List.lookup_cons, plainArgs, const1, exn1, fuel1, isDef1, places1, consts1, exns1, bnames, callBuiltin, lenOf, small, canStore, pyEq, PV.toD, PV.toDs, PyData.eqv, PyData.eqvAll, getList, newCell, setCell, slice, bound, cut, textOk, empty_append, andor, oror, andand, orand, strOk_num, strOk_v, strOk_n, strOk_nm, strOk_fr, v_lam, v_app, v_fr, fr_lam, fr_app, v_take, v_drop, fr_take, List.getElem?_append, fieldText, relab, compOk, Vars.comp, Nm.text_beq, T.lay_pv] at hnm
      simp [evSs, evS, evE, evEs, evT, evA, evB, evC, evO, evI, evF, ofString_inj, ofString_beq, strOk_ofString, strOk_append, M.then, bind_at, pure_at, fail_at, lift_some_at, lift_none_at, ite_at, isGlob, varOf, Vars.of, Vars.setAll, Vars.set, constOf, item, pickAt, cmpop, eqTop, PV.lay, PV.lays, PV.depth, PV.depths, binop, List.lookup_cons, plainArgs, const1, exn1, fuel1, isDef1, places1, consts1, exns1, bnames, callBuiltin, lenOf, small, canStore, pyEq, PV.toD, PV.toDs, PyData.eqv, PyData.eqvAll, getList, newCell, setCell, slice, bound, cut, textOk, empty_append, andor, oror, andand, orand, strOk_num, strOk_v, strOk_n, strOk_nm, strOk_fr, v_lam, v_app, v_fr, fr_lam, fr_app, v_take, v_drop, fr_take, List.getElem?_append, fieldText, relab, compOk, Vars.comp, Nm.text_beq, T.lay_pv, hlm, hlme, e1, hp1, hm2, e6, hx, hnm, c1] at hE
      have fin : ∀ v g, MadeT (b + 1) u v → F = some (.ok (T.repl v t p).pv (σ5 ++ g)) →
          ∃ σ' t' a' b', F = some (.ok (T.pv t') σ') ∧ HandAt σ' h c cells a' b' ∧ Upd h σ σ' ∧ a' ≤ a + 2 ∧ b' ≤ b + 1 ∧ Turn b t t' b' :=
        fun v g hv hF => ⟨_, _, a + 1 + 1, b + 1, hF, H3.app g, U1.trans (U2.trans (U3.trans (Upd.app h _ _))), by omega, by omega, .made hu hv⟩
      have cw := fun v => (lwith_spec v p t u (by omega) hu n (by omega)).at
      have k0 := cw (.app (.lam (.n (b + 1)) u) (.nm .m))
      have k1 := cw (.app (.lam (.n (b + 1)) (.nm (.n (b + 1)))) u)
      by_cases hw0 : w = 0
      · simp [evSs, evS, evE, evEs, evT, evA, evB, evC, evO, evI, evF, ofString_inj, ofString_beq, strOk_ofString, strOk_append, M.then, bind_at, pure_at, fail_at, lift_some_at, lift_none_at, ite_at, isGlob, varOf, Vars.of, Vars.setAll, Vars.set, constOf, item, pickAt, cmpop, eqTop, PV.lay, PV.lays, PV.depth, PV.depths, binop, List.lookup_cons, plainArgs, const1, exn1, fuel1, isDef1, places1, consts1, exns1, bnames, callBuiltin, lenOf, small, canStore, pyEq, PV.toD, PV.toDs, PyData.eqv, PyData.eqvAll, getList, newCell, setCell, slice, bound, cut, textOk, empty_append, andor, oror, andand, orand, strOk_num, strOk_v, strOk_n, strOk_nm, strOk_fr, v_lam, v_app, v_fr, fr_lam, fr_app, v_take, v_drop, fr_take, List.getElem?_append, fieldText, relab, compOk, Vars.comp, Nm.text_beq, T.lay_pv, T.pv, n_text, m_text] at k0
        simp [evSs, evS, evE, evEs, evT, evA, evB, evC, evO, evI, evF, ofString_inj, ofString_beq, strOk_ofString, strOk_append, M.then, bind_at, pure_at, fail_at, lift_some_at, lift_none_at, ite_at, isGlob, varOf, Vars.of, Vars.setAll, Vars.set, constOf, item, pickAt, cmpop, eqTop, PV.lay, PV.lays, PV.depth, PV.depths, binop, List.lookup_cons, plainArgs, const1, exn1, fuel1, isDef1, places1, consts1, exns1, bnames, callBuiltin, lenOf, small, canStore, pyEq, PV.toD, PV.toDs, PyData.eqv, PyData.eqvAll, getList, newCell, setCell, slice, bound, cut, textOk, empty_append, andor, oror, andand, orand, strOk_num, strOk_v, strOk_n, strOk_nm, strOk_fr, v_lam, v_app, v_fr, fr_lam, fr_app, v_take, v_drop, fr_take, List.getElem?_append, fieldText, relab, compOk, Vars.comp, Nm.text_beq, T.lay_pv, hw0, k0] at hE
        exact fin _ _ .drop hE.symm
      · by_cases hw1 : w = 1
        · subst hw1
          cases u with
          | nm x =>
            simp [evSs, evS, evE, evEs, evT, evA, evB, evC, evO, evI, evF, ofString_inj, ofString_beq, strOk_ofString, strOk_append, M.then, bind_at, pure_at, fail_at, lift_some_at, lift_none_at, ite_at, isGlob, varOf, Vars.of, Vars.setAll, Vars.set, constOf, item, pickAt, cmpop, eqTop, PV.lay, PV.lays, PV.depth, PV.depths, binop, List.lookup_cons, plainArgs, const1, exn1, fuel1, isDef1, places1, consts1, exns1, bnames, callBuiltin, lenOf, small, canStore, pyEq, PV.toD, PV.toDs, PyData.eqv, PyData.eqvAll, getList, newCell, setCell, slice, bound, cut, textOk, empty_append, andor, oror, andand, orand, strOk_num, strOk_v, strOk_n, strOk_nm, strOk_fr, v_lam, v_app, v_fr, fr_lam, fr_app, v_take, v_drop, fr_take, List.getElem?_append, fieldText, relab, compOk, Vars.comp, Nm.text_beq, T.lay_pv, T.pv, n_text, m_text] at k1
            simp [evSs, evS, evE, evEs, evT, evA, evB, evC, evO, evI, evF, ofString_inj, ofString_beq, strOk_ofString, strOk_append, M.then, bind_at, pure_at, fail_at, lift_some_at, lift_none_at, ite_at, isGlob, varOf, Vars.of, Vars.setAll, Vars.set, constOf, item, pickAt, cmpop, eqTop, PV.lay, PV.lays, PV.depth, PV.depths, binop, List.lookup_cons, plainArgs, const1, exn1, fuel1, isDef1, places1, consts1, exns1, bnames, callBuiltin, lenOf, small, canStore, pyEq, PV.toD, PV.toDs, PyData.eqv, PyData.eqvAll, getList, newCell, setCell, slice, bound, cut, textOk, empty_append, andor, oror, andand, orand, strOk_num, strOk_v, strOk_n, strOk_nm, strOk_fr, v_lam, v_app, v_fr, fr_lam, fr_app, v_take, v_drop, fr_take, List.getElem?_append, fieldText, relab, compOk, Vars.comp, Nm.text_beq, T.lay_pv, T.pv, k1] at hE
            exact fin _ _ .wrap hE.symm
          | lam x u1 =>
            simp [evSs, evS, evE, evEs, evT, evA, evB, evC, evO, evI, evF, ofString_inj, ofString_beq, strOk_ofString, strOk_append, M.then, bind_at, pure_at, fail_at, lift_some_at, lift_none_at, ite_at, isGlob, varOf, Vars.of, Vars.setAll, Vars.set, constOf, item, pickAt, cmpop, eqTop, PV.lay, PV.lays, PV.depth, PV.depths, binop, List.lookup_cons, plainArgs, const1, exn1, fuel1, isDef1, places1, consts1, exns1, bnames, callBuiltin, lenOf, small, canStore, pyEq, PV.toD, PV.toDs, PyData.eqv, PyData.eqvAll, getList, newCell, setCell, slice, bound, cut, textOk, empty_append, andor, oror, andand, orand, strOk_num, strOk_v, strOk_n, strOk_nm, strOk_fr, v_lam, v_app, v_fr, fr_lam, fr_app, v_take, v_drop, fr_take, List.getElem?_append, fieldText, relab, compOk, Vars.comp, Nm.text_beq, T.lay_pv, T.pv, n_text, m_text] at k1
            simp [evSs, evS, evE, evEs, evT, evA, evB, evC, evO, evI, evF, ofString_inj, ofString_beq, strOk_ofString, strOk_append, M.then, bind_at, pure_at, fail_at, lift_some_at, lift_none_at, ite_at, isGlob, varOf, Vars.of, Vars.setAll, Vars.set, constOf, item, pickAt, cmpop, eqTop, PV.lay, PV.lays, PV.depth, PV.depths, binop, List.lookup_cons, plainArgs, const1, exn1, fuel1, isDef1, places1, consts1, exns1, bnames, callBuiltin, lenOf, small, canStore, pyEq, PV.toD, PV.toDs, PyData.eqv, PyData.eqvAll, getList, newCell, setCell, slice, bound, cut, textOk, empty_append, andor, oror, andand, orand, strOk_num, strOk_v, strOk_n, strOk_nm, strOk_fr, v_lam, v_app, v_fr, fr_lam, fr_app, v_take, v_drop, fr_take, List.getElem?_append, fieldText, relab, compOk, Vars.comp, Nm.text_beq, T.lay_pv, T.pv, k1] at hE
            exact fin _ _ .wrap hE.symm
          | app u1 u2 =>
            have k2 := cw (.app (.lam (.n (b + 1)) (.app u1 (.nm (.n (b + 1))))) u2)
            simp [evSs, evS, evE, evEs, evT, evA, evB, evC, evO, evI, evF, ofString_inj, ofString_beq, strOk_ofString, strOk_append, M.then, bind_at, pure_at, fail_at, lift_some_at, lift_none_at, ite_at, isGlob, varOf, Vars.of, Vars.setAll, Vars.set, constOf, item, pickAt, cmpop, eqTop, PV.lay, PV.lays, PV.depth, PV.depths, binop, List.lookup_cons, plainArgs, const1, exn1, fuel1, isDef1, places1, consts1, exns1, bnames, callBuiltin, lenOf, small, canStore, pyEq, PV.toD, PV.toDs, PyData.eqv, PyData.eqvAll, getList, newCell, setCell, slice, bound, cut, textOk, empty_append, andor, oror, andand, orand, strOk_num, strOk_v, strOk_n, strOk_nm, strOk_fr, v_lam, v_app, v_fr, fr_lam, fr_app, v_take, v_drop, fr_take, List.getElem?_append, fieldText, relab, compOk, Vars.comp, Nm.text_beq, T.lay_pv, T.pv, n_text, m_text] at k2
            simp [evSs, evS, evE, evEs, evT, evA, evB, evC, evO, evI, evF, ofString_inj, ofString_beq, strOk_ofString, strOk_append, M.then, bind_at, pure_at, fail_at, lift_some_at, lift_none_at, ite_at, isGlob, varOf, Vars.of, Vars.setAll, Vars.set, constOf, item, pickAt, cmpop, eqTop, PV.lay, PV.lays, PV.depth, PV.depths, binop, List.lookup_cons, plainArgs, const1, exn1, fuel1, isDef1, places1, consts1, exns1, bnames, callBuiltin, lenOf, small, canStore, pyEq, PV.toD, PV.toDs, PyData.eqv, PyData.eqvAll, getList, newCell, setCell, slice, bound, cut, textOk, empty_append, andor, oror, andand, orand, strOk_num, strOk_v, strOk_n, strOk_nm, strOk_fr, v_lam, v_app, v_fr, fr_lam, fr_app, v_take, v_drop, fr_take, List.getElem?_append, fieldText, relab, compOk, Vars.comp, Nm.text_beq, T.lay_pv, T.pv, k2] at hE
            exact fin _ _ .arg hE.symm
        · have e8 : ¬ (w : Int) = 1 := by omega
          have e9 : ((w : Int) == 1) = false := by simpa [evSs, evS, evE, evEs, evT, evA, evB, evC, evO, evI, evF, ofString_inj, ofString_beq, strOk_ofString, strOk_append, M.then, bind_at, pure_at, fail_at, lift_some_at, lift_none_at, ite_at, isGlob, varOf, Vars.of, Vars.setAll, Vars.set, constOf, item, pickAt, cmpop, eqTop, PV.lay, PV.lays, PV.depth, PV.depths, binop, List.lookup_cons, plainArgs, const1, exn1, fuel1, isDef1, places1, consts1, exns1, bnames, callBuiltin, lenOf, small, canStore, pyEq, PV.toD, PV.toDs, PyData.eqv, PyData.eqvAll, getList, newCell, setCell, slice, bound, cut, textOk, empty_append, andor, oror, andand, orand, strOk_num, strOk_v, strOk_n, strOk_nm, strOk_fr, v_lam, v_app, v_fr, fr_lam, fr_app, v_take, v_drop, fr_take, List.getElem?_append, fieldText, relab, compOk, Vars.comp, Nm.text_beq, T.lay_pv] using e8
          simp [evSs, evS, evE, evEs, evT, evA, evB, evC, evO, evI, evF, ofString_inj, ofString_beq, strOk_ofString, strOk_append, M.then, bind_at, pure_at, fail_at, lift_some_at, lift_none_at, ite_at, isGlob, varOf, Vars.of, Vars.setAll, Vars.set, constOf, item, pickAt, cmpop, eqTop, PV.lay, PV.lays, PV.depth, PV.depths, binop, List.lookup_cons, plainArgs, const1, exn1, fuel1, isDef1, places1, consts1, exns1, bnames, callBuiltin, lenOf, small, canStore, pyEq, PV.toD, PV.toDs, PyData.eqv, PyData.eqvAll, getList, newCell, setCell, slice, bound, cut, textOk, empty_append, andor, oror, andand, orand, strOk_num, strOk_v, strOk_n, strOk_nm, strOk_fr, v_lam, v_app, v_fr, fr_lam, fr_app, v_take, v_drop, fr_take, List.getElem?_append, fieldText, relab, compOk, Vars.comp, Nm.text_beq, T.lay_pv, T.pv, n_text, m_text] at k1
          simp [evSs, evS, evE, evEs, evT, evA, evB, evC, evO, evI, evF, ofString_inj, ofString_beq, strOk_ofString, strOk_append, M.then, bind_at, pure_at, fail_at, lift_some_at, lift_none_at, ite_at, isGlob, varOf, Vars.of, Vars.setAll, Vars.set, constOf, item, pickAt, cmpop, eqTop, PV.lay, PV.lays, PV.depth, PV.depths, binop, List.lookup_cons, plainArgs, const1, exn1, fuel1, isDef1, places1, consts1, exns1, bnames, callBuiltin, lenOf, small, canStore, pyEq, PV.toD, PV.toDs, PyData.eqv, PyData.eqvAll, getList, newCell, setCell, slice, bound, cut, textOk, empty_append, andor, oror, andand, orand, strOk_num, strOk_v, strOk_n, strOk_nm, strOk_fr, v_lam, v_app, v_fr, fr_lam, fr_app, v_take, v_drop, fr_take, List.getElem?_append, fieldText, relab, compOk, Vars.comp, Nm.text_beq, T.lay_pv, hw0, hw1, e8, e9, k1] at hE
          exact fin _ _ .wrap hE.symm
  · exact ⟨[], m, by simp [evSs, evS, evE, evEs, evT, evA, evB, evC, evO, evI, evF, ofString_inj, ofString_beq, strOk_ofString, strOk_append, M.then, bind_at, pure_at, fail_at, lift_some_at, lift_none_at, ite_at, isGlob, varOf, Vars.of, Vars.setAll, Vars.set, constOf, item, pickAt, cmpop, eqTop, PV.lay, PV.lays, PV.depth, PV.depths, binop, List.lookup_cons, plainArgs, const1, exn1, fuel1, isDef1, places1, consts1, exns1, bnames, callBuiltin, lenOf, small, canStore, pyEq, PV.toD, PV.toDs, PyData.eqv, PyData.eqvAll, getList, newCell, setCell, slice, bound, cut, textOk, empty_append, andor, oror, andand, orand, strOk_num, strOk_v, strOk_n, strOk_nm, strOk_fr, v_lam, v_app, v_fr, fr_lam, fr_app, v_take, v_drop, fr_take, List.getElem?_append, fieldText, relab, compOk, Vars.comp, Nm.text_beq, T.lay_pv], by simpa [evSs, evS, evE, evEs, evT, evA, evB, evC, evO, evI, evF, ofString_inj, ofString_beq, strOk_ofString, strOk_append, M.then, bind_at, pure_at, fail_at, lift_some_at, lift_none_at, ite_at, isGlob, varOf, Vars.of, Vars.setAll, Vars.set, constOf, item, pickAt, cmpop, eqTop, PV.lay, PV.lays, PV.depth, PV.depths, binop, List.lookup_cons, plainArgs, const1, exn1, fuel1, isDef1, places1, consts1, exns1, bnames, callBuiltin, lenOf, small, canStore, pyEq, PV.toD, PV.toDs, PyData.eqv, PyData.eqvAll, getList, newCell, setCell, slice, bound, cut, textOk, empty_append, andor, oror, andand, orand, strOk_num, strOk_v, strOk_n, strOk_nm, strOk_fr, v_lam, v_app, v_fr, fr_lam, fr_app, v_take, v_drop, fr_take, List.getElem?_append, fieldText, relab, compOk, Vars.comp, Nm.text_beq, T.lay_pv] using hm1⟩
  · intro p hp σ
    obtain ⟨v, hv⟩ := T.spots_part t p hp
    have hpl := hdp p hp
    have c1 := (lpart_spec t v p (by omega) hv n (by omega)).at
    have c2 := (isapp_spec v n (by omega)).at
    simp [evSs, evS, evE, evEs, evT, evA, evB, evC, evO, evI, evF, ofString_inj, ofString_beq, strOk_ofString, strOk_append, M.then, bind_at, pure_at, fail_at, lift_some_at, lift_none_at, ite_at, isGlob, varOf, Vars.of, Vars.setAll, Vars.set, constOf, item, pickAt, cmpop, eqTop, PV.lay, PV.lays, PV.depth, PV.depths, binop, List.lookup_cons, plainArgs, const1, exn1, fuel1, isDef1, places1, consts1, exns1, bnames, callBuiltin, lenOf, small, canStore, pyEq, PV.toD, PV.toDs, PyData.eqv, PyData.eqvAll, getList, newCell, setCell, slice, bound, cut, textOk, empty_append, andor, oror, andand, orand, strOk_num, strOk_v, strOk_n, strOk_nm, strOk_fr, v_lam, v_app, v_fr, fr_lam, fr_app, v_take, v_drop, fr_take, List.getElem?_append, fieldText, relab, compOk, Vars.comp, Nm.text_beq, T.lay_pv, c1, c2, T.redexAt, hv]
  · intro p hp _ σ
    simp [evSs, evS, evE, evEs, evT, evA, evB, evC, evO, evI, evF, ofString_inj, ofString_beq, strOk_ofString, strOk_append, M.then, bind_at, pure_at, fail_at, lift_some_at, lift_none_at, ite_at, isGlob, varOf, Vars.of, Vars.setAll, Vars.set, constOf, item, pickAt, cmpop, eqTop, PV.lay, PV.lays, PV.depth, PV.depths, binop, List.lookup_cons, plainArgs, const1, exn1, fuel1, isDef1, places1, consts1, exns1, bnames, callBuiltin, lenOf, small, canStore, pyEq, PV.toD, PV.toDs, PyData.eqv, PyData.eqvAll, getList, newCell, setCell, slice, bound, cut, textOk, empty_append, andor, oror, andand, orand, strOk_num, strOk_v, strOk_n, strOk_nm, strOk_fr, v_lam, v_app, v_fr, fr_lam, fr_app, v_take, v_drop, fr_take, List.getElem?_append, fieldText, relab, compOk, Vars.comp, Nm.text_beq, T.lay_pv]
end Mine

-- P17
namespace Mine
open PySem

inductive Ty where
  | D | P
  | arr (a b : Ty)
def T.occ (x : Nm) : T → Nat
  | .nm y => if y = x then 1 else 0
  | .lam _ b => T.occ x b
  | .app a b => T.occ x a + T.occ x b
def T.bnd (x : Nm) : T → Nat
  | .nm _ => 0
  | .lam y b => (if y = x then 1 else 0) + T.bnd x b
  | .app a b => T.bnd x a + T.bnd x b
def HasTy (G : Nm → Ty) : T → Ty → Prop
  | .nm x, τ => G x = τ
  | .lam x b, τ => (∃ τ', HasTy G b τ' ∧ T.occ x b ≤ 1 ∧ τ = .arr (G x) τ') ∨ (G x = .D ∧ HasTy G b .D ∧ (τ = .D ∧ T.occ x b ≤ 1 ∨ τ = .P))
  | .app a b, τ => (∃ σ, HasTy G a (.arr σ τ) ∧ HasTy G b σ) ∨ (τ = .D ∧ HasTy G a .D ∧ HasTy G b .D)
def T.ok : List Nm → T → Prop
  | env, .nm x => x ∈ env ∨ x = .k ∨ x = .m
  | env, .lam x b => x ∉ env ∧ (∃ i, x = .n i) ∧ T.ok (x :: env) b
  | env, .app a b => T.ok env a ∧ T.ok env b ∧ ∀ x, T.bnd x a = 0 ∨ T.bnd x b = 0

theorem T.ok_closed : ∀ (t : T) (env : List Nm), T.ok env t → T.closed env t
  | .nm _, _, h => h
  | .lam x b, env, h => T.ok_closed b (x :: env) h.2.2
  | .app a b, env, h => ⟨T.ok_closed a env h.1, T.ok_closed b env h.2.1⟩
theorem T.ok_bnd (y : Nm) : ∀ (t : T) (env : List Nm), T.ok env t → 1 ≤ T.bnd y t → y ∉ env ∧ ∃ i, y = .n i
  | .nm _, _, _, h2 => absurd h2 (by simp [T.bnd])
  | .lam x b, env, h, h2 => by
    by_cases hx : x = y
    · subst hx; exact ⟨h.1, h.2.1⟩
    · have := T.ok_bnd y b (x :: env) h.2.2 (by simpa [T.bnd, hx] using h2)
      exact ⟨fun hm => this.1 (List.mem_cons_of_mem _ hm), this.2⟩
  | .app a b, env, h, h2 => by
    have : 1 ≤ T.bnd y a ∨ 1 ≤ T.bnd y b := by simp only [T.bnd] at h2; omega
    rcases this with q | q
    · exact T.ok_bnd y a env h.1 q
    · exact T.ok_bnd y b env h.2.1 q
theorem T.ok_occ (y : Nm) : ∀ (t : T) (env : List Nm), T.ok env t → 1 ≤ T.occ y t → y ∈ env ∨ 1 ≤ T.bnd y t ∨ y = .k ∨ y = .m
  | .nm x, env, h, h2 => by
    by_cases hx : x = y
    · subst hx; rcases h with h | h
      · exact .inl h
      · exact .inr (.inr h)
    · exact absurd h2 (by simp [T.occ, hx])
  | .lam x b, env, h, h2 => by
    rcases T.ok_occ y b (x :: env) h.2.2 h2 with q | q | q
    · rcases List.mem_cons.mp q with rfl | q
      · exact .inr (.inl (by simp [T.bnd]))
      · exact .inl q
    · exact .inr (.inl (by simp only [T.bnd]; omega))
    · exact .inr (.inr q)
  | .app a b, env, h, h2 => by
    have : 1 ≤ T.occ y a ∨ 1 ≤ T.occ y b := by simp only [T.occ] at h2; omega
    rcases this with q | q
    · rcases T.ok_occ y a env h.1 q with r | r | r
      · exact .inl r
      · exact .inr (.inl (by simp only [T.bnd]; omega))
      · exact .inr (.inr r)
    · rcases T.ok_occ y b env h.2.1 q with r | r | r
      · exact .inl r
      · exact .inr (.inl (by simp only [T.bnd]; omega))
      · exact .inr (.inr r)
theorem T.ok_weaken : ∀ (t : T) (env env' : List Nm), T.ok env t → (∀ z ∈ env, z ∈ env') → (∀ z ∈ env', T.bnd z t = 0) → T.ok env' t
  | .nm x, env, env', h, h1, _ => h.imp (h1 x) id
  | .lam x b, env, env', h, h1, h2 => by
    refine ⟨fun hx => ?_, h.2.1, T.ok_weaken b (x :: env) (x :: env') h.2.2 ?_ ?_⟩
    · have := h2 x hx; simp [T.bnd] at this
    · intro z hz
      rcases List.mem_cons.mp hz with rfl | hz
      · exact List.mem_cons_self ..
      · exact List.mem_cons_of_mem _ (h1 z hz)
    · intro z hz
      rcases List.mem_cons.mp hz with rfl | hz
      · refine Nat.eq_zero_of_not_pos fun hp => ?_
        exact (T.ok_bnd z b (z :: env) h.2.2 hp).1 (List.mem_cons_self ..)
      · have := h2 z hz; simp only [T.bnd] at this; omega
  | .app a b, env, env', h, h1, h2 =>
    ⟨T.ok_weaken a env env' h.1 h1 fun z hz => by have := h2 z hz; simp only [T.bnd] at this; omega, T.ok_weaken b env env' h.2.1 h1 fun z hz => by have := h2 z hz; simp only [T.bnd] at this; omega, h.2.2⟩

theorem T.put_size (x : Nm) (u : T) : ∀ c : T, (T.put x u c).size + T.occ x c = c.size + T.occ x c * u.size
  | .nm y => by
    by_cases h : y = x
    · simp [T.put, T.occ, T.size, h]; omega
    · simp [T.put, T.occ, T.size, h]
  | .lam y b => by have := T.put_size x u b; simp only [T.put, T.occ, T.size]; omega
  | .app a b => by have := T.put_size x u a; have := T.put_size x u b; simp only [T.put, T.occ, T.size, Nat.add_mul]; omega
theorem T.put_bnd (x y : Nm) (u : T) : ∀ c : T, T.bnd y (T.put x u c) = T.bnd y c + T.occ x c * T.bnd y u
  | .nm z => by
    by_cases h : z = x
    · simp [T.put, T.occ, T.bnd, h]
    · simp [T.put, T.occ, T.bnd, h]
  | .lam z b => by have := T.put_bnd x y u b; simp only [T.put, T.occ, T.bnd]; omega
  | .app a b => by have := T.put_bnd x y u a; have := T.put_bnd x y u b; simp only [T.put, T.occ, T.bnd, Nat.add_mul]; omega
theorem T.put_occ (x y : Nm) (u : T) (hxy : y ≠ x) : ∀ c : T, T.occ y (T.put x u c) = T.occ y c + T.occ x c * T.occ y u
  | .nm z => by
    by_cases h : z = x
    · simp [T.put, T.occ, h, Ne.symm hxy]
    · simp [T.put, T.occ, h]
  | .lam z b => by have := T.put_occ x y u hxy b; simp only [T.put, T.occ]; omega
  | .app a b => by have := T.put_occ x y u hxy a; have := T.put_occ x y u hxy b; simp only [T.put, T.occ, Nat.add_mul]; omega
theorem T.put_occ_self (x : Nm) (u : T) (hu : T.occ x u = 0) : ∀ c : T, T.occ x (T.put x u c) = 0
  | .nm z => by
    by_cases h : z = x
    · simp [T.put, h, hu]
    · simp [T.put, T.occ, h]
  | .lam z b => T.put_occ_self x u hu b
  | .app a b => by have := T.put_occ_self x u hu a; have := T.put_occ_self x u hu b; simp only [T.put, T.occ]; omega

/-- a typed part put in -/
theorem HasTy.put {G : Nm → Ty} {x : Nm} {u : T} (hu : HasTy G u (G x)) : ∀ (c : T) (τ : Ty), HasTy G c τ → (∀ y, 1 ≤ T.bnd y c → y ≠ x ∧ T.occ y u = 0) → HasTy G (T.put x u c) τ
  | .nm z, τ, h, _ => by
    by_cases hz : z = x
    · subst hz
      have h : G z = τ := h
      simp only [T.put, if_true]; rw [← h]; exact hu
    · simp only [T.put, if_neg hz]; exact h
  | .lam z b, τ, h, hb => by
    have hz := hb z (by simp [T.bnd])
    have ho : T.occ z (T.put x u b) = T.occ z b := by rw [T.put_occ x z u hz.1, hz.2, Nat.mul_zero, Nat.add_zero]
    have ih := fun σ hσ => HasTy.put hu b σ hσ fun y hy => hb y (by simp only [T.bnd]; omega)
    rcases h with ⟨σ, h1, h2, h3⟩ | ⟨h1, h2, h3⟩
    · exact .inl ⟨σ, ih σ h1, by rw [ho]; exact h2, h3⟩
    · exact .inr ⟨h1, ih .D h2, by rw [ho]; exact h3⟩
  | .app a b, τ, h, hb => by
    have iha := fun σ hσ => HasTy.put hu a σ hσ fun y hy => hb y (by simp only [T.bnd]; omega)
    have ihb := fun σ hσ => HasTy.put hu b σ hσ fun y hy => hb y (by simp only [T.bnd]; omega)
    rcases h with ⟨σ, h1, h2⟩ | ⟨h1, h2, h3⟩
    · exact .inl ⟨σ, iha _ h1, ihb _ h2⟩
    · exact .inr ⟨h1, iha _ h2, ihb _ h3⟩
theorem T.ok_put {x : Nm} {u : T} : ∀ (c : T) (env env' : List Nm), T.ok env c → (∀ z ∈ env, z = x ∨ z ∈ env') → (∀ z ∈ env', z ∈ env) → T.ok env' u → (∀ y, T.bnd y c = 0 ∨ T.bnd y u = 0) → T.occ x c ≤ 1 → T.ok env' (T.put x u c)
  | .nm z, env, env', h, h1, _, hu, _, _ => by
    by_cases hz : z = x
    · simp only [T.put, if_pos hz]; exact hu
    · simp only [T.put, if_neg hz]
      rcases h with h | h
      · rcases h1 z h with h | h
        · exact absurd h hz
        · exact .inl h
      · exact .inr h
  | .lam z b, env, env', h, h1, h2, hu, hd, ho => by
    have hbz : T.bnd z u = 0 := by
      rcases hd z with q | q
      · exact absurd q (by simp [T.bnd])
      · exact q
    refine ⟨fun hz => h.1 (h2 z hz), h.2.1, T.ok_put b (z :: env) (z :: env') h.2.2 ?_ ?_ (T.ok_weaken u env' (z :: env') hu (fun y hy => List.mem_cons_of_mem _ hy) ?_) ?_ ho⟩
    · intro y hy
      rcases List.mem_cons.mp hy with rfl | hy
      · exact .inr (List.mem_cons_self ..)
      · exact (h1 y hy).imp id (List.mem_cons_of_mem _)
    · intro y hy
      rcases List.mem_cons.mp hy with rfl | hy
      · exact List.mem_cons_self ..
      · exact List.mem_cons_of_mem _ (h2 y hy)
    · intro y hy
      rcases List.mem_cons.mp hy with rfl | hy
      · exact hbz
      · exact Nat.eq_zero_of_not_pos fun hp => (T.ok_bnd y u env' hu hp).1 hy
    · intro y
      rcases hd y with q | q
      · exact .inl (by simp only [T.bnd] at q; omega)
      · exact .inr q
  | .app a b, env, env', h, h1, h2, hu, hd, ho => by
    have ho : T.occ x a + T.occ x b ≤ 1 := ho
    refine ⟨T.ok_put a env env' h.1 h1 h2 hu (fun y => (hd y).imp (fun q => by simp only [T.bnd] at q; omega) id) (by omega), T.ok_put b env env' h.2.1 h1 h2 hu (fun y => (hd y).imp (fun q => by simp only [T.bnd] at q; omega) id) (by omega), fun y => ?_⟩
    rw [T.put_bnd, T.put_bnd]
    rcases hd y with q | q
    · have q : T.bnd y a + T.bnd y b = 0 := q
      have : T.occ x a = 0 ∨ T.occ x b = 0 := by omega
      rcases this with e | e
      · left; rw [e]; omega
      · right; rw [e]; omega
    · rw [q]
      rcases h.2.2 y with e | e
      · left; rw [e]; simp
      · right; rw [e]; simp
end Mine

-- P18
namespace Mine
open PySem

theorem HasTy.congr {G G' : Nm → Ty} {fr : Nm} (hG : ∀ y, y ≠ fr → G' y = G y) : ∀ (t : T) (τ : Ty), T.occ fr t = 0 → T.bnd fr t = 0 → HasTy G t τ → HasTy G' t τ
  | .nm x, τ, h1, _, h => by
    have hx : x ≠ fr := fun e => by simp [T.occ, e] at h1
    show G' x = τ
    rw [hG x hx]; exact h
  | .lam x b, τ, h1, h2, h => by
    have hx : x ≠ fr := fun e => by simp [T.bnd, e] at h2
    have ih := fun σ hσ => HasTy.congr hG b σ h1 (by simp only [T.bnd] at h2; omega) hσ
    rcases h with ⟨σ, q1, q2, q3⟩ | ⟨q1, q2, q3⟩
    · exact .inl ⟨σ, ih σ q1, q2, by rw [hG x hx]; exact q3⟩
    · exact .inr ⟨by rw [hG x hx]; exact q1, ih _ q2, q3⟩
  | .app a b, τ, h1, h2, h => by
    simp only [T.occ] at h1
    simp only [T.bnd] at h2
    have iha := fun σ hσ => HasTy.congr hG a σ (by omega) (by omega) hσ
    have ihb := fun σ hσ => HasTy.congr hG b σ (by omega) (by omega) hσ
    rcases h with ⟨σ, q1, q2⟩ | ⟨q1, q2, q3⟩
    · exact .inl ⟨σ, iha _ q1, ihb _ q2⟩
    · exact .inr ⟨q1, iha _ q2, ihb _ q3⟩

/-- what a change of a part keeps -/
def Local (fr : Nm) (e d : Nat) (u v : T) : Prop := ∀ (env : List Nm) (G : Nm → Ty) (τ : Ty), fr ∉ env → T.ok env u → T.bnd fr u = 0 → T.occ fr u = 0 → G .k = .D → G .m = .D → HasTy G u τ →
  T.ok env v ∧ (∀ y, T.bnd y v ≤ T.bnd y u + (if y = fr then e else 0)) ∧ (∀ i, Nm.n i ≠ fr → T.occ (.n i) v ≤ T.occ (.n i) u) ∧ (∃ G', (∀ y, y ≠ fr → G' y = G y) ∧ HasTy G' v τ) ∧ v.size + d ≤ u.size + 3

theorem Local.repl {fr : Nm} {e d : Nat} {u v : T} (L : Local fr e d u v) : ∀ (p : List Nat) (t : T), t.part p = some u → Local fr e d t (T.repl v t p)
  | [], t, h => by cases h; rw [show T.repl v u [] = v by simp [T.repl]]; exact L
  | i :: p, t, h => by
    unfold T.part at h
    cases hk : t.kid i with
    | none => rw [hk] at h; exact absurd h (by simp)
    | some k =>
      rw [hk] at h
      have ih := Local.repl L p k h
      intro env G τ h1 h2 h3 h4 h5 h6 h7
      match t, i, hk with
      | .lam x b, 2, hk =>
        obtain rfl : b = k := Option.some.inj hk
        have hx : x ≠ fr := fun e => by simp [T.bnd, e] at h3
        have hb : T.bnd fr b = 0 := by simp only [T.bnd] at h3; omega
        have hfr : fr ∉ x :: env := fun hm => (List.mem_cons.mp hm).elim (fun e => hx e.symm) h1
        obtain ⟨j, rfl⟩ := h2.2.1
        have main : ∀ σ, HasTy G b σ → _ := fun σ hσ => ih (.n j :: env) G σ hfr h2.2.2 hb h4 h5 h6 hσ
        have wrap : ∀ σ, HasTy G b σ → T.ok env (.lam (.n j) (T.repl v b p)) ∧ (∀ y, T.bnd y (.lam (.n j) (T.repl v b p)) ≤ T.bnd y (.lam (.n j) b) + (if y = fr then e else 0)) ∧ (∀ i, Nm.n i ≠ fr → T.occ (.n i) (.lam (.n j) (T.repl v b p)) ≤ T.occ (.n i) (.lam (.n j) b)) ∧ (T.lam (.n j) (T.repl v b p)).size + d ≤ (T.lam (.n j) b).size + 3 := by
          intro σ hσ
          obtain ⟨q1, q2, q3, _, q5⟩ := main σ hσ
          refine ⟨⟨h2.1, h2.2.1, q1⟩, fun y => ?_, q3, ?_⟩
          · have := q2 y; simp only [T.bnd]; omega
          · simp only [T.size]; omega
        rcases h7 with ⟨σ, q1, q2, q3⟩ | ⟨q1, q2, q3⟩
        · obtain ⟨w1, w2, w3, w4⟩ := wrap σ q1
          obtain ⟨_, _, r3, ⟨G', r4, r5⟩, _⟩ := main σ q1
          exact ⟨w1, w2, w3, ⟨G', r4, .inl ⟨σ, r5, Nat.le_trans (r3 j hx) q2, by rw [r4 _ hx]; exact q3⟩⟩, w4⟩
        · obtain ⟨w1, w2, w3, w4⟩ := wrap .D q2
          obtain ⟨_, _, r3, ⟨G', r4, r5⟩, _⟩ := main .D q2
          exact ⟨w1, w2, w3, ⟨G', r4, .inr ⟨by rw [r4 _ hx]; exact q1, r5, q3.imp (fun q => ⟨q.1, Nat.le_trans (r3 j hx) q.2⟩) id⟩⟩, w4⟩
      | .app a b, 1, hk =>
        obtain rfl : a = k := Option.some.inj hk
        simp only [T.bnd] at h3
        simp only [T.occ] at h4
        have main : ∀ σ, HasTy G a σ → _ := fun σ hσ => ih env G σ h1 h2.1 (by omega) (by omega) h5 h6 hσ
        have wrap : ∀ σ, HasTy G a σ → T.ok env (.app (T.repl v a p) b) ∧ (∀ y, T.bnd y (.app (T.repl v a p) b) ≤ T.bnd y (.app a b) + (if y = fr then e else 0)) ∧ (∀ i, Nm.n i ≠ fr → T.occ (.n i) (.app (T.repl v a p) b) ≤ T.occ (.n i) (.app a b)) ∧ (T.app (T.repl v a p) b).size + d ≤ (T.app a b).size + 3 := by
          intro σ hσ
          obtain ⟨q1, q2, q3, _, q5⟩ := main σ hσ
          refine ⟨⟨q1, h2.2.1, fun y => ?_⟩, fun y => ?_, fun i hi => ?_, ?_⟩
          · have r := q2 y
            by_cases hy : y = fr
            · subst hy; right; omega
            · rw [if_neg hy] at r
              rcases h2.2.2 y with z | z
              · left; omega
              · exact .inr z
          · have := q2 y; simp only [T.bnd]; omega
          · have := q3 i hi; simp only [T.occ]; omega
          · simp only [T.size]; omega
        rcases h7 with ⟨σ, q1, q2⟩ | ⟨q1, q2, q3⟩
        · obtain ⟨w1, w2, w3, w4⟩ := wrap _ q1
          obtain ⟨_, _, _, ⟨G', r4, r5⟩, _⟩ := main _ q1
          exact ⟨w1, w2, w3, ⟨G', r4, .inl ⟨σ, r5, HasTy.congr r4 b σ (by omega) (by omega) q2⟩⟩, w4⟩
        · obtain ⟨w1, w2, w3, w4⟩ := wrap _ q2
          obtain ⟨_, _, _, ⟨G', r4, r5⟩, _⟩ := main _ q2
          exact ⟨w1, w2, w3, ⟨G', r4, .inr ⟨q1, r5, HasTy.congr r4 b _ (by omega) (by omega) q3⟩⟩, w4⟩
      | .app a b, 2, hk =>
        obtain rfl : b = k := Option.some.inj hk
        simp only [T.bnd] at h3
        simp only [T.occ] at h4
        have main : ∀ σ, HasTy G b σ → _ := fun σ hσ => ih env G σ h1 h2.2.1 (by omega) (by omega) h5 h6 hσ
        have wrap : ∀ σ, HasTy G b σ → T.ok env (.app a (T.repl v b p)) ∧ (∀ y, T.bnd y (.app a (T.repl v b p)) ≤ T.bnd y (.app a b) + (if y = fr then e else 0)) ∧ (∀ i, Nm.n i ≠ fr → T.occ (.n i) (.app a (T.repl v b p)) ≤ T.occ (.n i) (.app a b)) ∧ (T.app a (T.repl v b p)).size + d ≤ (T.app a b).size + 3 := by
          intro σ hσ
          obtain ⟨q1, q2, q3, _, q5⟩ := main σ hσ
          refine ⟨⟨h2.1, q1, fun y => ?_⟩, fun y => ?_, fun i hi => ?_, ?_⟩
          · have r := q2 y
            by_cases hy : y = fr
            · subst hy; left; omega
            · rw [if_neg hy] at r
              rcases h2.2.2 y with z | z
              · exact .inl z
              · right; omega
          · have := q2 y; simp only [T.bnd]; omega
          · have := q3 i hi; simp only [T.occ]; omega
          · simp only [T.size]; omega
        rcases h7 with ⟨σ, q1, q2⟩ | ⟨q1, q2, q3⟩
        · obtain ⟨w1, w2, w3, w4⟩ := wrap _ q2
          obtain ⟨_, _, _, ⟨G', r4, r5⟩, _⟩ := main _ q2
          exact ⟨w1, w2, w3, ⟨G', r4, .inl ⟨σ, HasTy.congr r4 a _ (by omega) (by omega) q1, r5⟩⟩, w4⟩
        · obtain ⟨w1, w2, w3, w4⟩ := wrap _ q3
          obtain ⟨_, _, _, ⟨G', r4, r5⟩, _⟩ := main _ q3
          exact ⟨w1, w2, w3, ⟨G', r4, .inr ⟨q1, HasTy.congr r4 a _ (by omega) (by omega) q2, r5⟩⟩, w4⟩

/-- what is bound in the lam's body stands nowhere in what is put in -/
theorem redex_apart {env : List Nm} {x : Nm} {c a : T} (h : T.ok env (.app (.lam x c) a)) : (∀ y, 1 ≤ T.bnd y c → y ≠ x ∧ T.occ y a = 0) ∧ T.occ x a = 0 := by
  have ha : ∀ y, 1 ≤ T.bnd y (.lam x c) → y ∉ env → (∃ i, y = .n i) → T.occ y a = 0 := by
    rintro y hy he ⟨i, rfl⟩
    refine Nat.eq_zero_of_not_pos fun hp => ?_
    rcases T.ok_occ _ a env h.2.1 hp with q | q | q | q
    · exact he q
    · rcases h.2.2 (.n i) with r | r <;> omega
    · exact absurd q (by simp)
    · exact absurd q (by simp)
  refine ⟨fun y hy => ?_, ha x (by simp [T.bnd]) h.1.1 h.1.2.1⟩
  obtain ⟨q1, q2⟩ := T.ok_bnd y c (x :: env) h.1.2.2 hy
  exact ⟨fun e => q1 (by rw [e]; exact List.mem_cons_self ..), ha y (by simp only [T.bnd]; omega) (fun he => q1 (List.mem_cons_of_mem _ he)) q2⟩
theorem redex_ty {G : Nm → Ty} {x : Nm} {c a : T} {τ : Ty} (h : HasTy G (.app (.lam x c) a) τ) : T.occ x c ≤ 1 ∧ HasTy G c τ ∧ HasTy G a (G x) := by
  rcases h with ⟨σ, h1, h2⟩ | ⟨rfl, h2, h3⟩
  · rcases h1 with ⟨σ', q1, q2, q3⟩ | ⟨_, _, q3⟩
    · cases q3; exact ⟨q2, q1, h2⟩
    · rcases q3 with q3 | q3
      · exact absurd q3.1 (by simp)
      · exact absurd q3 (by simp)
  · rcases h2 with ⟨σ', q1, q2, q3⟩ | ⟨q1, q2, q3⟩
    · exact absurd q3 (by simp)
    · rcases q3 with q3 | q3
      · exact ⟨q3.2, q2, by rw [q1]; exact h3⟩
      · exact absurd q3 (by simp)
theorem Local.work (fr : Nm) (x : Nm) (c a : T) : Local fr 0 4 (.app (.lam x c) a) (T.put x a c) := by
  intro env G τ h1 h2 h3 h4 h5 h6 h7
  obtain ⟨q1, q2, q3⟩ := redex_ty h7
  obtain ⟨r1, r2⟩ := redex_apart h2
  have hs := T.put_size x a c
  have hz : (T.app (.lam x c) a).size = c.size + 1 + a.size + 1 := rfl
  have hap := T.size_pos a
  have ho : T.occ x c = 0 ∨ T.occ x c = 1 := by omega
  refine ⟨T.ok_put c (x :: env) env h2.1.2.2 (fun z hz => (List.mem_cons.mp hz)) (fun z hz => List.mem_cons_of_mem _ hz) h2.2.1 (fun y => ?_) q1, fun y => ?_, fun i hi => ?_, ⟨G, fun _ _ => rfl, HasTy.put q3 c τ q2 r1⟩, ?_⟩
  · rcases h2.2.2 y with q | q
    · left; simp only [T.bnd] at q; omega
    · exact .inr q
  · rw [T.put_bnd]
    simp only [T.bnd]
    rcases ho with o | o <;> rw [o] <;> omega
  · by_cases hx : Nm.n i = x
    · subst hx; rw [T.put_occ_self _ _ r2]; exact Nat.zero_le _
    · rw [T.put_occ x _ a hx]
      simp only [T.occ]
      rcases ho with o | o <;> rw [o] <;> omega
  · rw [hz]
    rcases ho with o | o <;> rw [o] at hs <;> omega
theorem Local.made (i : Nat) {u v : T} (hm : MadeT i u v) : Local (.n i) 1 0 u v := by
  intro env G τ h1 h2 h3 h4 h5 h6 h7
  have upd : ∀ σ : Ty, ∃ G' : Nm → Ty, (∀ y, y ≠ .n i → G' y = G y) ∧ G' (.n i) = σ := fun σ => ⟨fun y => if y = .n i then σ else G y, fun y hy => if_neg hy, if_pos rfl⟩
  have wk : ∀ w : T, T.ok env w → T.bnd (.n i) w = 0 → T.ok (.n i :: env) w := fun w hw hb => T.ok_weaken w env _ hw (fun z hz => List.mem_cons_of_mem _ hz) (fun z hz => by
    rcases List.mem_cons.mp hz with rfl | hz
    · exact hb
    · exact Nat.eq_zero_of_not_pos fun hp => (T.ok_bnd z w env hw hp).1 hz)
  cases hm with
  | wrap =>
    obtain ⟨G', g1, g2⟩ := upd τ
    refine ⟨⟨⟨h1, ⟨i, rfl⟩, .inl (List.mem_cons_self ..)⟩, h2, fun y => ?_⟩, fun y => ?_, fun j hj => ?_, ⟨G', g1, .inl ⟨τ, .inl ⟨τ, g2, by simp [T.occ], by rw [g2]⟩, HasTy.congr g1 u τ h4 h3 h7⟩⟩, ?_⟩
    · by_cases hy : y = .n i
      · subst hy; exact .inr h3
      · left; simp [T.bnd, Ne.symm hy]
    · by_cases hy : y = .n i
      · subst hy; simp [T.bnd]; omega
      · simp [T.bnd, hy, Ne.symm hy]
    · simp [T.occ, Ne.symm hj]
    · simp only [T.size]; omega
  | drop =>
    obtain ⟨G', g1, g2⟩ := upd .D
    refine ⟨⟨⟨h1, ⟨i, rfl⟩, wk u h2 h3⟩, .inr (.inr rfl), fun y => .inr rfl⟩, fun y => ?_, fun j hj => ?_, ⟨G', g1, .inl ⟨.D, .inl ⟨τ, HasTy.congr g1 u τ h4 h3 h7, by omega, by rw [g2]⟩, ?_⟩⟩, ?_⟩
    · by_cases hy : y = .n i
      · subst hy; simp [T.bnd]; omega
      · simp [T.bnd, hy, Ne.symm hy]
    · simp [T.occ]
    · show G' .m = .D
      rw [g1 _ (by simp)]; exact h6
    · simp only [T.size]; omega
  | arg =>
    rename_i p q
    simp only [T.bnd] at h3
    simp only [T.occ] at h4
    have shape : T.ok env (.app (.lam (.n i) (.app p (.nm (.n i)))) q) ∧ (∀ y, T.bnd y (.app (.lam (.n i) (.app p (.nm (.n i)))) q) ≤ T.bnd y (.app p q) + (if y = .n i then 1 else 0)) ∧ (∀ j, Nm.n j ≠ .n i → T.occ (.n j) (.app (.lam (.n i) (.app p (.nm (.n i)))) q) ≤ T.occ (.n j) (.app p q)) := by
      refine ⟨⟨⟨h1, ⟨i, rfl⟩, wk p h2.1 (by omega), .inl (List.mem_cons_self ..), fun y => .inr rfl⟩, h2.2.1, fun y => ?_⟩, fun y => ?_, fun j hj => ?_⟩
      · by_cases hy : y = .n i
        · subst hy; right; omega
        · rcases h2.2.2 y with z | z
          · left; simp [T.bnd, Ne.symm hy, z]
          · exact .inr z
      · by_cases hy : y = .n i
        · subst hy; simp [T.bnd]; omega
        · simp [T.bnd, hy, Ne.symm hy]
      · simp [T.occ, Ne.symm hj]
    have ho : T.occ (.n i) (T.app p (.nm (.n i))) ≤ 1 := by simp [T.occ]; omega
    have hsz : (T.app (.lam (.n i) (.app p (.nm (.n i)))) q).size + 0 ≤ (T.app p q).size + 3 := by simp only [T.size]; omega
    rcases h7 with ⟨σ, q1, q2⟩ | ⟨rfl, q2, q3⟩
    · obtain ⟨G', g1, g2⟩ := upd σ
      exact ⟨shape.1, shape.2.1, shape.2.2, ⟨G', g1, .inl ⟨σ, .inl ⟨τ, .inl ⟨σ, HasTy.congr g1 p _ (by omega) (by omega) q1, g2⟩, ho, by rw [g2]⟩, HasTy.congr g1 q _ (by omega) (by omega) q2⟩⟩, hsz⟩
    · obtain ⟨G', g1, g2⟩ := upd .D
      exact ⟨shape.1, shape.2.1, shape.2.2, ⟨G', g1, .inl ⟨.D, .inl ⟨.D, .inr ⟨rfl, HasTy.congr g1 p _ (by omega) (by omega) q2, g2⟩, ho, by rw [g2]⟩, HasTy.congr g1 q _ (by omega) (by omega) q3⟩⟩, hsz⟩

/-- a tree of the row, names up to b -/
def Inv1 (b : Nat) (t : T) : Prop := T.ok [] t ∧ (∀ i, b < i → T.bnd (.n i) t = 0) ∧ ∃ G τ, G Nm.k = Ty.D ∧ G Nm.m = Ty.D ∧ HasTy G t τ
theorem Inv1.occ {b : Nat} {t : T} (h : Inv1 b t) (i : Nat) (hi : b < i) : T.occ (.n i) t = 0 := by
  refine Nat.eq_zero_of_not_pos fun hp => ?_
  rcases T.ok_occ _ t [] h.1 hp with q | q | q | q
  · exact absurd q (by simp)
  · have := h.2.1 i hi; omega
  · exact absurd q (by simp)
  · exact absurd q (by simp)
theorem Inv1.local {b : Nat} {t : T} (h : Inv1 b t) {e d : Nat} {v : T} (L : Local (.n (b + 1)) e d t v) : Inv1 (b + e) v ∧ v.size + d ≤ t.size + 3 := by
  obtain ⟨h1, h2, G, τ, h3, h4, h5⟩ := h
  obtain ⟨q1, q2, _, ⟨G', q3, q4⟩, q5⟩ := L [] G τ (by simp) h1 (h2 _ (by omega)) (Inv1.occ ⟨h1, h2, G, τ, h3, h4, h5⟩ _ (by omega)) h3 h4 h5
  refine ⟨⟨q1, fun i hi => ?_, G', τ, by rw [q3 _ (by simp)]; exact h3, by rw [q3 _ (by simp)]; exact h4, q4⟩, q5⟩
  have := q2 (.n i)
  have := h2 i (by omega)
  by_cases hi2 : Nm.n i = .n (b + 1)
  · rw [if_pos hi2] at *
    have hi3 : i = b + 1 := by simpa using hi2
    omega
  · rw [if_neg hi2] at *; omega
theorem Inv1.mono {b b' : Nat} {t : T} (h : Inv1 b t) (hb : b ≤ b') : Inv1 b' t := ⟨h.1, fun i hi => h.2.1 i (by omega), h.2.2⟩
theorem turn_inv {b b' : Nat} {t t' : T} (h : Inv1 b t) (ht : Turn b t t' b') : Inv1 b' t' ∧ t'.size ≤ t.size + 3 ∧ b ≤ b' := by
  cases ht with
  | work hp =>
    obtain ⟨q1, q2⟩ := h.local (Local.repl (Local.work (.n (b + 1)) _ _ _) _ _ hp)
    exact ⟨q1, by omega, Nat.le_refl _⟩
  | made hp hm =>
    obtain ⟨q1, q2⟩ := h.local (Local.repl (Local.made (b + 1) hm) _ _ hp)
    exact ⟨q1, by omega, Nat.le_succ _⟩
theorem step_inv {b : Nat} {t t' : T} (h : Inv1 b t) (hs : t.step = some t') : Inv1 b t' ∧ t'.size < t.size := by
  have hb := T.step_backs t
  cases hk : t.backs with
  | nil => rw [hk] at hb; simp only at hb; rw [hb] at hs; exact absurd hs (by simp)
  | cons p r =>
    rw [hk] at hb
    obtain ⟨x, c, a, h1, h2, _⟩ := hb
    rw [h2] at hs
    cases hs
    obtain ⟨q1, q2⟩ := h.local (Local.repl (Local.work (.n (b + 1)) x c a) p t h1)
    exact ⟨q1, by omega⟩
end Mine

-- P19
namespace Mine
open PySem

theorem core_size : ∀ (t : T) (env : List Nm), (core env t).size = t.size
  | .nm x, env => by unfold core; split <;> rfl
  | .lam x b, env => by show (core _ b).size + 1 = _; rw [core_size b]; rfl
  | .app a b, env => by show (core _ a).size + (core _ b).size + 1 = _; rw [core_size a, core_size b]; rfl
theorem core_vars : ∀ (t : T) (env : List Nm) (N : Nat), env.length + t.size ≤ N → (core env t).vars N
  | .nm x, env, N, h => by
    unfold core
    split
    · rename_i hx
      have := List.idxOf_lt_length_of_mem hx
      show _ < _
      omega
    · trivial
  | .lam x b, env, N, h => by
    have h : env.length + (b.size + 1) ≤ N := h
    exact core_vars b (x :: env) N (by simp; omega)
  | .app a b, env, N, h => by
    have h : env.length + (a.size + b.size + 1) ≤ N := h
    exact ⟨core_vars a env N (by omega), core_vars b env N (by omega)⟩
theorem idx_append (z : Nm) (a b : List Nm) : (a ++ b).idxOf z = if z ∈ a then a.idxOf z else b.idxOf z + a.length := List.idxOf_append

theorem core_sh (y : Nm) (env : List Nm) : ∀ (u : T) (Ξ : List Nm), T.occ y u = 0 → (core (Ξ ++ env) u).sh Ξ.length = core (Ξ ++ y :: env) u
  | .nm z, Ξ, h => by
    have hz : z ≠ y := fun e => by simp [T.occ, e] at h
    unfold core
    by_cases h1 : z ∈ Ξ
    · have := List.idxOf_lt_length_of_mem h1
      simp [h1, idx_append, B.sh]
      omega
    · by_cases h2 : z ∈ env
      · have hz2 : (y == z) = false := by simpa using Ne.symm hz
        simp [h1, h2, hz, idx_append, B.sh, List.idxOf_cons, hz2]
        omega
      · simp [h1, h2, hz, B.sh]
  | .lam x b, Ξ, h => by
    have := core_sh y env b (x :: Ξ) h
    show B.lam ((core (x :: (Ξ ++ env)) b).sh (Ξ.length + 1)) = .lam (core (x :: (Ξ ++ y :: env)) b)
    rw [← List.cons_append, ← List.cons_append, ← this]; rfl
  | .app a b, Ξ, h => by
    simp only [T.occ] at h
    show B.app ((core (Ξ ++ env) a).sh _) ((core (Ξ ++ env) b).sh _) = .app (core _ a) (core _ b)
    rw [core_sh y env a Ξ (by omega), core_sh y env b Ξ (by omega)]
theorem core_put (x : Nm) (u : T) (env : List Nm) : ∀ (c : T) (Δ : List Nm), x ∉ Δ → (∀ y, 1 ≤ T.bnd y c → y ≠ x ∧ T.occ y u = 0) → (core (Δ ++ x :: env) c).put Δ.length (core (Δ ++ env) u) = core (Δ ++ env) (T.put x u c)
  | .nm z, Δ, hx, _ => by
    by_cases hz : z = x
    · subst hz
      simp only [T.put, if_true]
      unfold core
      simp [hx, idx_append, B.put]
    · simp only [T.put, if_neg hz]
      unfold core
      have hz2 : (x == z) = false := by simpa using Ne.symm hz
      by_cases h1 : z ∈ Δ
      · have h3 := List.idxOf_lt_length_of_mem h1
        have h4 : ¬ Δ.idxOf z = Δ.length := by omega
        have h5 : ¬ Δ.length < Δ.idxOf z := by omega
        simp [h1, idx_append, B.put, h4, h5]
      · by_cases h2 : z ∈ env
        · have h4 : ¬ env.idxOf z + 1 + Δ.length = Δ.length := by omega
          have h5 : Δ.length < env.idxOf z + 1 + Δ.length := by omega
          have h6 : env.idxOf z + 1 + Δ.length - 1 = env.idxOf z + Δ.length := by omega
          simp [h1, h2, hz, idx_append, B.put, List.idxOf_cons, hz2, h4, h5, h6]
        · simp [h1, h2, hz, B.put]
  | .lam y b, Δ, hx, hb => by
    have hy := hb y (by simp [T.bnd])
    have ih := core_put x u env b (y :: Δ) (by simp [Ne.symm hy.1, hx]) (fun w hw => hb w (by simp only [T.bnd]; omega))
    have hs := core_sh y (Δ ++ env) u [] hy.2
    show B.lam ((core (y :: (Δ ++ x :: env)) b).put (Δ.length + 1) ((core (Δ ++ env) u).sh 0)) = .lam (core (y :: (Δ ++ env)) (T.put x u b))
    have hs : (core (Δ ++ env) u).sh 0 = core (y :: (Δ ++ env)) u := hs
    rw [hs]
    exact congrArg B.lam ih
  | .app a b, Δ, hx, hb => by
    show B.app ((core _ a).put _ _) ((core _ b).put _ _) = .app (core _ (T.put x u a)) (core _ (T.put x u b))
    rw [core_put x u env a Δ hx (fun w hw => hb w (by simp only [T.bnd]; omega)), core_put x u env b Δ hx (fun w hw => hb w (by simp only [T.bnd]; omega))]

theorem core_step : ∀ (t : T) (env : List Nm), T.ok env t → (core env t).step = (t.step).map (core env)
  | .nm x, env, _ => by unfold core; split <;> rfl
  | .lam x b, env, h => by
    have ih := core_step b (x :: env) h.2.2
    show (match (core (x :: env) b).step with | some b' => some (B.lam b') | none => none) = _
    rw [ih]
    show _ = (match b.step with | some b' => some (T.lam x b') | none => none).map (core env)
    cases b.step <;> rfl
  | .app (.lam x c) a, env, h => by
    show some ((core (x :: env) c).put 0 (core env a)) = some (core env (T.put x a c))
    exact congrArg some (core_put x a env c [] (by simp) (redex_apart h).1)
  | .app (.nm x) b, env, h => by
    have ihb := core_step b env h.2.1
    have e : (B.app (core env (.nm x)) (core env b)).step = match (core env b).step with | some b' => some (B.app (core env (.nm x)) b') | none => none := by
      unfold core; split <;> rfl
    show (B.app (core env (.nm x)) (core env b)).step = _
    rw [e, ihb]
    show _ = (match b.step with | some b' => some (T.app (.nm x) b') | none => none).map _
    cases b.step <;> rfl
  | .app (.app a1 a2) b, env, h => by
    have iha := core_step (.app a1 a2) env h.1
    have ihb := core_step b env h.2.1
    have e : (B.app (core env (.app a1 a2)) (core env b)).step = match (core env (.app a1 a2)).step with
      | some a' => some (B.app a' (core env b))
      | none => match (core env b).step with | some b' => some (B.app (core env (.app a1 a2)) b') | none => none := rfl
    show (B.app (core env (.app a1 a2)) (core env b)).step = _
    rw [e, iha, ihb]
    have e2 : (T.app (.app a1 a2) b).step = match (T.app a1 a2).step with
      | some a' => some (.app a' b)
      | none => match b.step with | some b' => some (.app (.app a1 a2) b') | none => none := rfl
    rw [e2]
    cases (T.app a1 a2).step with
    | some a' => rfl
    | none => cases b.step <;> rfl

/-- the end of both ways -/
theorem ends_of {b : Nat} : ∀ (k : Nat) (t : T), t.size ≤ k → t.size ≤ 150 → Inv1 b t → ∃ n u, TEnds t n u ∧ Ends (core [] t) n (core [] u) ∧ n ≤ k ∧ Inv1 b u ∧ u.size ≤ 150
  | 0, t, hk, _, _ => by have := T.size_pos t; omega
  | k + 1, t, hk, hs, h => by
    have hc := core_step t [] h.1
    have hsz : (core [] t).size ≤ 150 := by rw [core_size]; exact hs
    have hv : (core [] t).vars (10 ^ 6) := core_vars t [] _ (by simp; omega)
    cases hst : t.step with
    | none =>
      rw [hst] at hc
      exact ⟨0, t, .done hst hs, .done hc hsz hv, Nat.zero_le _, h, hs⟩
    | some t' =>
      rw [hst] at hc
      obtain ⟨i1, i2⟩ := step_inv h hst
      obtain ⟨n, u, q1, q2, q3, q4, q5⟩ := ends_of k t' (by omega) (by omega) i1
      exact ⟨n + 1, u, .more hst hs q1, .more hc hsz hv q2, by omega, q4, q5⟩

/-- what is drawn -/
theorem drawn_ok {f : Nat} {env : List Nm} {hd : Bool} {b : Nat} {t : T} {b' : Nat} (h : Drawn f env hd b t b') : (∀ i, Nm.n i ∈ env → i ≤ b) → T.ok env t ∧ b ≤ b' ∧ (∀ y, 1 ≤ T.bnd y t → ∃ i, y = .n i ∧ b < i ∧ i ≤ b') ∧ t.size ≤ 2 ^ (f + 1) - 1 := by
  induction h with
  | nm hx =>
    intro he
    rename_i f env hd b x
    refine ⟨hx, Nat.le_refl _, fun y hy => absurd hy (by simp [T.bnd]), ?_⟩
    have : 2 ^ (f + 1) ≥ 2 := by rw [Nat.pow_succ]; have := Nat.one_le_two_pow (n := f); omega
    simp only [T.size]; omega
  | lam h ih =>
    intro he
    rename_i f env b t b'
    obtain ⟨q1, q2, q3, q4⟩ := ih (fun i hi => by
      rcases List.mem_append.mp hi with h | h
      · have := he i h; omega
      · have : i = b + 1 := by simpa using h
        omega)
    refine ⟨⟨fun hm => by have := he _ hm; omega, ⟨_, rfl⟩, T.ok_weaken t _ _ q1 (fun z hz => ?_) fun z hz => ?_⟩, by omega, fun y hy => ?_, ?_⟩
    · rcases List.mem_append.mp hz with h | h
      · exact List.mem_cons_of_mem _ h
      · have : z = .n (b + 1) := by simpa using h
        rw [this]; exact List.mem_cons_self ..
    · refine Nat.eq_zero_of_not_pos fun hp => ?_
      obtain ⟨i, rfl, h1, h2⟩ := q3 z hp
      rcases List.mem_cons.mp hz with e | e
      · have : i = b + 1 := by simpa using e
        omega
      · have := he i e; omega
    · by_cases hy2 : Nm.n (b + 1) = y
      · exact ⟨b + 1, hy2.symm, by omega, by omega⟩
      · obtain ⟨i, h1, h2, h3⟩ := q3 y (by simpa [T.bnd, hy2] using hy)
        exact ⟨i, h1, by omega, h3⟩
    · have e : 2 ^ (f + 1 + 1) = 2 ^ (f + 1) * 2 := Nat.pow_succ ..
      have : 2 ^ (f + 1) ≥ 1 := Nat.one_le_two_pow
      simp only [T.size]; omega
  | app h1 h2 ih1 ih2 =>
    intro he
    rename_i f env hd b t u b1 b'
    obtain ⟨q1, q2, q3, q4⟩ := ih1 he
    obtain ⟨p1, p2, p3, p4⟩ := ih2 (fun i hi => by have := he i hi; omega)
    refine ⟨⟨q1, p1, fun y => ?_⟩, by omega, fun y hy => ?_, ?_⟩
    · by_cases hy : T.bnd y t = 0
      · exact .inl hy
      · right
        obtain ⟨i, rfl, r1, r2⟩ := q3 y (by omega)
        refine Nat.eq_zero_of_not_pos fun hp => ?_
        obtain ⟨j, e, s1, s2⟩ := p3 _ hp
        have : i = j := by simpa using e
        omega
    · simp only [T.bnd] at hy
      by_cases h : 1 ≤ T.bnd y t
      · obtain ⟨i, r0, r1, r2⟩ := q3 y h; exact ⟨i, r0, r1, by omega⟩
      · obtain ⟨i, r0, r1, r2⟩ := p3 y (by omega); exact ⟨i, r0, by omega, r2⟩
    · have e : 2 ^ (f + 1 + 1) = 2 ^ (f + 1) * 2 := Nat.pow_succ ..
      have : 2 ^ (f + 1) ≥ 1 := Nat.one_le_two_pow
      simp only [T.size]; omega
theorem drawn0 {env : List Nm} {hd : Bool} {b : Nat} {t : T} {b' : Nat} (h : Drawn 0 env hd b t b') : ∃ x, t = .nm x := by
  cases h; exact ⟨_, rfl⟩
theorem drawn1 {env : List Nm} {hd : Bool} {b : Nat} {t : T} {b' : Nat} (h : Drawn 1 env hd b t b') : HasTy (fun _ => .D) t .D := by
  cases h with
  | nm _ => rfl
  | lam h =>
    obtain ⟨x, rfl⟩ := drawn0 h
    exact .inr ⟨rfl, rfl, .inl ⟨rfl, by unfold T.occ; split <;> omega⟩⟩
  | app h1 h2 =>
    obtain ⟨x, rfl⟩ := drawn0 h1
    obtain ⟨y, rfl⟩ := drawn0 h2
    exact .inr ⟨rfl, rfl, rfl⟩
theorem drawn_inv {f : Nat} {b : Nat} {t : T} {b' : Nat} (hf : f = 1 ∨ f = 2) (h : Drawn f [] false b t b') : Inv1 b' t ∧ t.size ≤ 7 := by
  obtain ⟨q1, q2, q3, q4⟩ := drawn_ok h (by simp)
  have hty : ∃ τ, HasTy (fun _ => Ty.D) t τ := by
    rcases hf with rfl | rfl
    · exact ⟨_, drawn1 h⟩
    · cases h with
      | nm _ => exact ⟨.D, rfl⟩
      | lam h => exact ⟨.P, .inr ⟨rfl, drawn1 h, .inr rfl⟩⟩
      | app h1 h2 => exact ⟨.D, .inr ⟨rfl, drawn1 h1, drawn1 h2⟩⟩
  obtain ⟨τ, hτ⟩ := hty
  refine ⟨⟨q1, fun i hi => Nat.eq_zero_of_not_pos fun hp => ?_, fun _ => .D, τ, rfl, rfl, hτ⟩, ?_⟩
  · obtain ⟨j, e, h1, h2⟩ := q3 _ hp
    have : i = j := by simpa using e
    omega
  · rcases hf with rfl | rfl
    · exact Nat.le_trans q4 (by decide)
    · exact Nat.le_trans q4 (by decide)
end Mine

-- P20
namespace Mine
open PySem

theorem str_comm (a b : Str) : (a == b) = (b == a) := by rw [Bool.eq_iff_iff, beq_iff_eq, beq_iff_eq]; exact eq_comm
theorem B.eqv_comm : ∀ (t u : B), PyData.eqv t.pv.toD u.pv.toD = PyData.eqv u.pv.toD t.pv.toD
  | .var i, u => by cases u <;> simp only [B.pv, PV.toD, PV.toDs, PyData.eqv, PyData.eqvAll, Bool.and_true, Bool.and_false] <;> exact str_comm _ _
  | .fr i, u => by cases u <;> simp only [B.pv, PV.toD, PV.toDs, PyData.eqv, PyData.eqvAll, Bool.and_true, Bool.and_false] <;> exact str_comm _ _
  | .lam b, u => by cases u <;> simp only [B.pv, PV.toD, PV.toDs, PyData.eqv, PyData.eqvAll, Bool.and_true, Bool.and_false] <;> rw [B.eqv_comm b]
  | .app a b, u => by cases u <;> simp only [B.pv, PV.toD, PV.toDs, PyData.eqv, PyData.eqvAll, Bool.and_true, Bool.and_false] <;> rw [B.eqv_comm a, B.eqv_comm b]

structure Ent where
  t : T
  n : Nat
  u : T
def Ent.good (b : Nat) (e : Ent) : Prop := TEnds e.t e.n e.u ∧ Ends (core [] e.t) e.n (core [] e.u) ∧ e.n ≤ 150 ∧ Inv1 b e.t ∧ Inv1 b e.u ∧ e.t.size ≤ 150 ∧ e.u.size ≤ 150
theorem ents {b : Nat} : ∀ (row : List T), (∀ t ∈ row, Inv1 b t ∧ t.size ≤ 150) → ∃ es : List Ent, es.map Ent.t = row ∧ ∀ e ∈ es, e.good b
  | [], _ => ⟨[], rfl, by simp [evSs, evS, evE, evEs, evT, evA, evB, evC, evO, evI, evF, ofString_inj, ofString_beq, strOk_ofString, strOk_append, M.then, bind_at, pure_at, fail_at, lift_some_at, lift_none_at, ite_at, isGlob, varOf, Vars.of, Vars.setAll, Vars.set, constOf, item, pickAt, cmpop, eqTop, PV.lay, PV.lays, PV.depth, PV.depths, binop, List.lookup_cons, plainArgs, const1, exn1, fuel1, isDef1, places1, consts1, exns1, bnames, callBuiltin, lenOf, small, canStore, pyEq, PV.toD, PV.toDs, PyData.eqv, PyData.eqvAll, getList, newCell, setCell, slice, bound, cut, textOk, empty_append, andor, oror, andand, orand, strOk_num, strOk_v, strOk_n, strOk_nm, strOk_fr, v_lam, v_app, v_fr, fr_lam, fr_app, v_take, v_drop, fr_take, List.getElem?_append, fieldText, relab, compOk, Vars.comp, Nm.text_beq, T.lay_pv]⟩
  | t :: r, h => by
    obtain ⟨es, h1, h2⟩ := ents r fun x hx => h x (List.mem_cons_of_mem _ hx)
    obtain ⟨q1, q2⟩ := h t (List.mem_cons_self ..)
    obtain ⟨n, u, p1, p2, p3, p4, p5⟩ := ends_of 150 t q2 q2 q1
    refine ⟨⟨t, n, u⟩ :: es, by simp [evSs, evS, evE, evEs, evT, evA, evB, evC, evO, evI, evF, ofString_inj, ofString_beq, strOk_ofString, strOk_append, M.then, bind_at, pure_at, fail_at, lift_some_at, lift_none_at, ite_at, isGlob, varOf, Vars.of, Vars.setAll, Vars.set, constOf, item, pickAt, cmpop, eqTop, PV.lay, PV.lays, PV.depth, PV.depths, binop, List.lookup_cons, plainArgs, const1, exn1, fuel1, isDef1, places1, consts1, exns1, bnames, callBuiltin, lenOf, small, canStore, pyEq, PV.toD, PV.toDs, PyData.eqv, PyData.eqvAll, getList, newCell, setCell, slice, bound, cut, textOk, empty_append, andor, oror, andand, orand, strOk_num, strOk_v, strOk_n, strOk_nm, strOk_fr, v_lam, v_app, v_fr, fr_lam, fr_app, v_take, v_drop, fr_take, List.getElem?_append, fieldText, relab, compOk, Vars.comp, Nm.text_beq, T.lay_pv, h1], fun e he => ?_⟩
    rcases List.mem_cons.mp he with rfl | he
    · exact ⟨p1, p2, p3, q1, p4, q2, p5⟩
    · exact h2 e he

/-- the row so far -/
structure RowAt (σ : Store) (h c r : Nat) (cells : List Int) (a b : Nat) (row : List T) (s : Nat) : Prop where
  hand : HandAt σ h c cells a b
  cellr : σ[r]? = some (.list (row.map T.pv))
  ne : r ≠ h
  inv : ∀ t ∈ row, Inv1 b t ∧ t.size ≤ s
  few : row.length ≤ 20
theorem RowAt.app {σ : Store} {h c r : Nat} {cells : List Int} {a b : Nat} {row : List T} {s : Nat} (R : RowAt σ h c r cells a b row s) (g : Store) : RowAt (σ ++ g) h c r cells a b row s :=
  ⟨R.hand.app g, by rw [List.getElem?_append_left (List.getElem?_eq_some_iff.mp R.cellr).1]; exact R.cellr, R.ne, R.inv, R.few⟩
theorem RowAt.push {σ : Store} {h c r : Nat} {cells : List Int} {a b : Nat} {row : List T} {s : Nat} (R : RowAt σ h c r cells a b row s) {σ' : Store} {a' b' : Nat} (H : HandAt σ' h c cells a' b') (U : Upd h σ σ') (hb : b ≤ b') (hrc : r ≠ c) {t : T} (ht : Inv1 b' t ∧ t.size ≤ s) (hf : row.length + 1 ≤ 20) :
    σ'[r]? = some (.list (row.map T.pv)) ∧ RowAt (σ'.set r (.list ((row ++ [t]).map T.pv))) h c r cells a' b' (row ++ [t]) s := by
  have hr := U.keep R.cellr R.ne
  refine ⟨hr, ⟨⟨by rw [List.getElem?_set_ne R.ne]; exact H.hand, by rw [List.getElem?_set_ne hrc]; exact H.cell, H.ne, H.few⟩, by rw [List.getElem?_set_self (List.getElem?_eq_some_iff.mp hr).1], R.ne, fun x hx => ?_, by simp [evSs, evS, evE, evEs, evT, evA, evB, evC, evO, evI, evF, ofString_inj, ofString_beq, strOk_ofString, strOk_append, M.then, bind_at, pure_at, fail_at, lift_some_at, lift_none_at, ite_at, isGlob, varOf, Vars.of, Vars.setAll, Vars.set, constOf, item, pickAt, cmpop, eqTop, PV.lay, PV.lays, PV.depth, PV.depths, binop, List.lookup_cons, plainArgs, const1, exn1, fuel1, isDef1, places1, consts1, exns1, bnames, callBuiltin, lenOf, small, canStore, pyEq, PV.toD, PV.toDs, PyData.eqv, PyData.eqvAll, getList, newCell, setCell, slice, bound, cut, textOk, empty_append, andor, oror, andand, orand, strOk_num, strOk_v, strOk_n, strOk_nm, strOk_fr, v_lam, v_app, v_fr, fr_lam, fr_app, v_take, v_drop, fr_take, List.getElem?_append, fieldText, relab, compOk, Vars.comp, Nm.text_beq, T.lay_pv]; omega⟩⟩
  rcases List.mem_append.mp hx with h | h
  · exact ⟨(R.inv x h).1.mono hb, (R.inv x h).2⟩
  · have : x = t := by simpa [evSs, evS, evE, evEs, evT, evA, evB, evC, evO, evI, evF, ofString_inj, ofString_beq, strOk_ofString, strOk_append, M.then, bind_at, pure_at, fail_at, lift_some_at, lift_none_at, ite_at, isGlob, varOf, Vars.of, Vars.setAll, Vars.set, constOf, item, pickAt, cmpop, eqTop, PV.lay, PV.lays, PV.depth, PV.depths, binop, List.lookup_cons, plainArgs, const1, exn1, fuel1, isDef1, places1, consts1, exns1, bnames, callBuiltin, lenOf, small, canStore, pyEq, PV.toD, PV.toDs, PyData.eqv, PyData.eqvAll, getList, newCell, setCell, slice, bound, cut, textOk, empty_append, andor, oror, andand, orand, strOk_num, strOk_v, strOk_n, strOk_nm, strOk_fr, v_lam, v_app, v_fr, fr_lam, fr_app, v_take, v_drop, fr_take, List.getElem?_append, fieldText, relab, compOk, Vars.comp, Nm.text_beq, T.lay_pv] using h
    rw [this]; exact ht
theorem RowAt.upd {σ : Store} {h c r : Nat} {cells : List Int} {a b : Nat} {row : List T} {s : Nat} (R : RowAt σ h c r cells a b row s) {σ' : Store} {a' b' : Nat} (H : HandAt σ' h c cells a' b') (U : Upd h σ σ') (hb : b ≤ b') : RowAt σ' h c r cells a' b' row s :=
  ⟨H, U.keep R.cellr R.ne, R.ne, fun x hx => ⟨(R.inv x hx).1.mono hb, (R.inv x hx).2⟩, R.few⟩

theorem law_true (ns : List Int) (hns : ns.length ≤ 63) (n : Nat) (hn : 300 ≤ n) : ∃ σ', callOf (T1.at n) (defAt PySem.Challenge.pw_pq0040_01 39) [.old ns] [] = some (.ok (.bool true) σ') := by
  generalize hE : callOf _ _ _ _ = F
  unfold callOf at hE
  rw [show defAt PySem.Challenge.pw_pq0040_01 39 = Def.mk _ _ _ from rfl] at hE
  have e1 : ns.length ≤ 100000 := by omega
  have e2 : min 50 ns.length ≤ 100000 := by omega
  simp [evSs, evS, evE, evEs, evT, evA, evB, evC, evO, evI, evF, ofString_inj, ofString_beq, strOk_ofString, strOk_append, M.then, bind_at, pure_at, fail_at, lift_some_at, lift_none_at, ite_at, isGlob, varOf, Vars.of, Vars.setAll, Vars.set, constOf, item, pickAt, cmpop, eqTop, PV.lay, PV.lays, PV.depth, PV.depths, binop, List.lookup_cons, plainArgs, const1, exn1, fuel1, isDef1, places1, consts1, exns1, bnames, callBuiltin, lenOf, small, canStore, pyEq, PV.toD, PV.toDs, PyData.eqv, PyData.eqvAll, getList, newCell, setCell, slice, bound, cut, textOk, empty_append, andor, oror, andand, orand, strOk_num, strOk_v, strOk_n, strOk_nm, strOk_fr, v_lam, v_app, v_fr, fr_lam, fr_app, v_take, v_drop, fr_take, List.getElem?_append, fieldText, relab, compOk, Vars.comp, Nm.text_beq, T.lay_pv, e1] at hE
  rw [gar_at (compM_refs_at [] (ns.take 50) PV.int (fun i => PV.int (i % 5040)) (fun _ => true) ?_ ?_ ?_ ?_)] at hE
  · generalize gar _ _ _ = g1 at hE
    simp [evSs, evS, evE, evEs, evT, evA, evB, evC, evO, evI, evF, ofString_inj, ofString_beq, strOk_ofString, strOk_append, M.then, bind_at, pure_at, fail_at, lift_some_at, lift_none_at, ite_at, isGlob, varOf, Vars.of, Vars.setAll, Vars.set, constOf, item, pickAt, cmpop, eqTop, PV.lay, PV.lays, PV.depth, PV.depths, binop, List.lookup_cons, plainArgs, const1, exn1, fuel1, isDef1, places1, consts1, exns1, bnames, callBuiltin, lenOf, small, canStore, pyEq, PV.toD, PV.toDs, PyData.eqv, PyData.eqvAll, getList, newCell, setCell, slice, bound, cut, textOk, empty_append, andor, oror, andand, orand, strOk_num, strOk_v, strOk_n, strOk_nm, strOk_fr, v_lam, v_app, v_fr, fr_lam, fr_app, v_take, v_drop, fr_take, List.getElem?_append, fieldText, relab, compOk, Vars.comp, Nm.text_beq, T.lay_pv, filter_all] at hE
    generalize hσ : (g1 ++ [Cell.list ((ns.map (fun i => PV.int (i % 5040))).take 50), Cell.list [PV.ref g1.length, PV.int 0, PV.int 0], Cell.list []] : Store) = σ0 at hE
    have H0 : HandAt σ0 (g1.length + 1) g1.length ((ns.map (fun i => i % 5040)).take 50) 0 0 := by
      rw [← hσ]
      exact ⟨by simp [evSs, evS, evE, evEs, evT, evA, evB, evC, evO, evI, evF, ofString_inj, ofString_beq, strOk_ofString, strOk_append, M.then, bind_at, pure_at, fail_at, lift_some_at, lift_none_at, ite_at, isGlob, varOf, Vars.of, Vars.setAll, Vars.set, constOf, item, pickAt, cmpop, eqTop, PV.lay, PV.lays, PV.depth, PV.depths, binop, List.lookup_cons, plainArgs, const1, exn1, fuel1, isDef1, places1, consts1, exns1, bnames, callBuiltin, lenOf, small, canStore, pyEq, PV.toD, PV.toDs, PyData.eqv, PyData.eqvAll, getList, newCell, setCell, slice, bound, cut, textOk, empty_append, andor, oror, andand, orand, strOk_num, strOk_v, strOk_n, strOk_nm, strOk_fr, v_lam, v_app, v_fr, fr_lam, fr_app, v_take, v_drop, fr_take, List.getElem?_append, fieldText, relab, compOk, Vars.comp, Nm.text_beq, T.lay_pv], by simp [evSs, evS, evE, evEs, evT, evA, evB, evC, evO, evI, evF, ofString_inj, ofString_beq, strOk_ofString, strOk_append, M.then, bind_at, pure_at, fail_at, lift_some_at, lift_none_at, ite_at, isGlob, varOf, Vars.of, Vars.setAll, Vars.set, constOf, item, pickAt, cmpop, eqTop, PV.lay, PV.lays, PV.depth, PV.depths, binop, List.lookup_cons, plainArgs, const1, exn1, fuel1, isDef1, places1, consts1, exns1, bnames, callBuiltin, lenOf, small, canStore, pyEq, PV.toD, PV.toDs, PyData.eqv, PyData.eqvAll, getList, newCell, setCell, slice, bound, cut, textOk, empty_append, andor, oror, andand, orand, strOk_num, strOk_v, strOk_n, strOk_nm, strOk_fr, v_lam, v_app, v_fr, fr_lam, fr_app, v_take, v_drop, fr_take, List.getElem?_append, fieldText, relab, compOk, Vars.comp, Nm.text_beq, T.lay_pv, Function.comp_def], by omega, by simp [evSs, evS, evE, evEs, evT, evA, evB, evC, evO, evI, evF, ofString_inj, ofString_beq, strOk_ofString, strOk_append, M.then, bind_at, pure_at, fail_at, lift_some_at, lift_none_at, ite_at, isGlob, varOf, Vars.of, Vars.setAll, Vars.set, constOf, item, pickAt, cmpop, eqTop, PV.lay, PV.lays, PV.depth, PV.depths, binop, List.lookup_cons, plainArgs, const1, exn1, fuel1, isDef1, places1, consts1, exns1, bnames, callBuiltin, lenOf, small, canStore, pyEq, PV.toD, PV.toDs, PyData.eqv, PyData.eqvAll, getList, newCell, setCell, slice, bound, cut, textOk, empty_append, andor, oror, andand, orand, strOk_num, strOk_v, strOk_n, strOk_nm, strOk_fr, v_lam, v_app, v_fr, fr_lam, fr_app, v_take, v_drop, fr_take, List.getElem?_append, fieldText, relab, compOk, Vars.comp, Nm.text_beq, T.lay_pv]; omega⟩
    have hr0 : σ0[g1.length + 2]? = some (.list (envPV [])) := by
      rw [← hσ]; simp [evSs, evS, evE, evEs, evT, evA, evB, evC, evO, evI, evF, ofString_inj, ofString_beq, strOk_ofString, strOk_append, M.then, bind_at, pure_at, fail_at, lift_some_at, lift_none_at, ite_at, isGlob, varOf, Vars.of, Vars.setAll, Vars.set, constOf, item, pickAt, cmpop, eqTop, PV.lay, PV.lays, PV.depth, PV.depths, binop, List.lookup_cons, plainArgs, const1, exn1, fuel1, isDef1, places1, consts1, exns1, bnames, callBuiltin, lenOf, small, canStore, pyEq, PV.toD, PV.toDs, PyData.eqv, PyData.eqvAll, getList, newCell, setCell, slice, bound, cut, textOk, empty_append, andor, oror, andand, orand, strOk_num, strOk_v, strOk_n, strOk_nm, strOk_fr, v_lam, v_app, v_fr, fr_lam, fr_app, v_take, v_drop, fr_take, List.getElem?_append, fieldText, relab, compOk, Vars.comp, Nm.text_beq, T.lay_pv, envPV]
    generalize (ns.map (fun i => i % 5040)).take 50 = cells at H0
    clear hσ
    generalize hh : g1.length + 1 = h at *
    generalize hr : g1.length + 2 = r0 at *
    generalize hc : g1.length = c at *
    obtain ⟨σ1, t1, a1, b1, q1, q2, q3, q4, q5, q6⟩ := tree_spec 2 [] false H0 hr0 (by omega) (by decide) (by decide) (by decide) n (by omega)
    obtain ⟨i1, i2⟩ := drawn_inv (.inr rfl) q6
    simp [evSs, evS, evE, evEs, evT, evA, evB, evC, evO, evI, evF, ofString_inj, ofString_beq, strOk_ofString, strOk_append, M.then, bind_at, pure_at, fail_at, lift_some_at, lift_none_at, ite_at, isGlob, varOf, Vars.of, Vars.setAll, Vars.set, constOf, item, pickAt, cmpop, eqTop, PV.lay, PV.lays, PV.depth, PV.depths, binop, List.lookup_cons, plainArgs, const1, exn1, fuel1, isDef1, places1, consts1, exns1, bnames, callBuiltin, lenOf, small, canStore, pyEq, PV.toD, PV.toDs, PyData.eqv, PyData.eqvAll, getList, newCell, setCell, slice, bound, cut, textOk, empty_append, andor, oror, andand, orand, strOk_num, strOk_v, strOk_n, strOk_nm, strOk_fr, v_lam, v_app, v_fr, fr_lam, fr_app, v_take, v_drop, fr_take, List.getElem?_append, fieldText, relab, compOk, Vars.comp, Nm.text_beq, T.lay_pv, pk] at q1 q4 q5
    simp [evSs, evS, evE, evEs, evT, evA, evB, evC, evO, evI, evF, ofString_inj, ofString_beq, strOk_ofString, strOk_append, M.then, bind_at, pure_at, fail_at, lift_some_at, lift_none_at, ite_at, isGlob, varOf, Vars.of, Vars.setAll, Vars.set, constOf, item, pickAt, cmpop, eqTop, PV.lay, PV.lays, PV.depth, PV.depths, binop, List.lookup_cons, plainArgs, const1, exn1, fuel1, isDef1, places1, consts1, exns1, bnames, callBuiltin, lenOf, small, canStore, pyEq, PV.toD, PV.toDs, PyData.eqv, PyData.eqvAll, getList, newCell, setCell, slice, bound, cut, textOk, empty_append, andor, oror, andand, orand, strOk_num, strOk_v, strOk_n, strOk_nm, strOk_fr, v_lam, v_app, v_fr, fr_lam, fr_app, v_take, v_drop, fr_take, List.getElem?_append, fieldText, relab, compOk, Vars.comp, Nm.text_beq, T.lay_pv, q1] at hE
    have hlt := (List.getElem?_eq_some_iff.mp q2.hand).1
    have hltc := (List.getElem?_eq_some_iff.mp q2.cell).1
    have R1 : RowAt (σ1 ++ [Cell.list [t1.pv]]) h c σ1.length cells a1 b1 [t1] 50 := ⟨q2.app _, by simp [evSs, evS, evE, evEs, evT, evA, evB, evC, evO, evI, evF, ofString_inj, ofString_beq, strOk_ofString, strOk_append, M.then, bind_at, pure_at, fail_at, lift_some_at, lift_none_at, ite_at, isGlob, varOf, Vars.of, Vars.setAll, Vars.set, constOf, item, pickAt, cmpop, eqTop, PV.lay, PV.lays, PV.depth, PV.depths, binop, List.lookup_cons, plainArgs, const1, exn1, fuel1, isDef1, places1, consts1, exns1, bnames, callBuiltin, lenOf, small, canStore, pyEq, PV.toD, PV.toDs, PyData.eqv, PyData.eqvAll, getList, newCell, setCell, slice, bound, cut, textOk, empty_append, andor, oror, andand, orand, strOk_num, strOk_v, strOk_n, strOk_nm, strOk_fr, v_lam, v_app, v_fr, fr_lam, fr_app, v_take, v_drop, fr_take, List.getElem?_append, fieldText, relab, compOk, Vars.comp, Nm.text_beq, T.lay_pv], by omega, fun t ht => by
      have : t = t1 := by simpa [evSs, evS, evE, evEs, evT, evA, evB, evC, evO, evI, evF, ofString_inj, ofString_beq, strOk_ofString, strOk_append, M.then, bind_at, pure_at, fail_at, lift_some_at, lift_none_at, ite_at, isGlob, varOf, Vars.of, Vars.setAll, Vars.set, constOf, item, pickAt, cmpop, eqTop, PV.lay, PV.lays, PV.depth, PV.depths, binop, List.lookup_cons, plainArgs, const1, exn1, fuel1, isDef1, places1, consts1, exns1, bnames, callBuiltin, lenOf, small, canStore, pyEq, PV.toD, PV.toDs, PyData.eqv, PyData.eqvAll, getList, newCell, setCell, slice, bound, cut, textOk, empty_append, andor, oror, andand, orand, strOk_num, strOk_v, strOk_n, strOk_nm, strOk_fr, v_lam, v_app, v_fr, fr_lam, fr_app, v_take, v_drop, fr_take, List.getElem?_append, fieldText, relab, compOk, Vars.comp, Nm.text_beq, T.lay_pv] using ht
      rw [this]; exact ⟨i1, by omega⟩, by simp [evSs, evS, evE, evEs, evT, evA, evB, evC, evO, evI, evF, ofString_inj, ofString_beq, strOk_ofString, strOk_append, M.then, bind_at, pure_at, fail_at, lift_some_at, lift_none_at, ite_at, isGlob, varOf, Vars.of, Vars.setAll, Vars.set, constOf, item, pickAt, cmpop, eqTop, PV.lay, PV.lays, PV.depth, PV.depths, binop, List.lookup_cons, plainArgs, const1, exn1, fuel1, isDef1, places1, consts1, exns1, bnames, callBuiltin, lenOf, small, canStore, pyEq, PV.toD, PV.toDs, PyData.eqv, PyData.eqvAll, getList, newCell, setCell, slice, bound, cut, textOk, empty_append, andor, oror, andand, orand, strOk_num, strOk_v, strOk_n, strOk_nm, strOk_fr, v_lam, v_app, v_fr, fr_lam, fr_app, v_take, v_drop, fr_take, List.getElem?_append, fieldText, relab, compOk, Vars.comp, Nm.text_beq, T.lay_pv]⟩
    have hrc : σ1.length ≠ c := by omega
    generalize σ1.length = r at *
    generalize σ1 ++ [Cell.list [t1.pv]] = σ2 at *
    obtain ⟨w, hw, hp0⟩ := pick_spec R1.hand 3 (by omega) (by omega) (by omega) n (by omega)
    have R2 := R1.upd (R1.hand.set (a1 + 1) b1) (Upd.set h σ2 _) (Nat.le_refl _)
    generalize σ2.set h (.list [.ref c, .int (a1 + 1 : Nat), .int b1]) = σ3 at *
    simp [evSs, evS, evE, evEs, evT, evA, evB, evC, evO, evI, evF, ofString_inj, ofString_beq, strOk_ofString, strOk_append, M.then, bind_at, pure_at, fail_at, lift_some_at, lift_none_at, ite_at, isGlob, varOf, Vars.of, Vars.setAll, Vars.set, constOf, item, pickAt, cmpop, eqTop, PV.lay, PV.lays, PV.depth, PV.depths, binop, List.lookup_cons, plainArgs, const1, exn1, fuel1, isDef1, places1, consts1, exns1, bnames, callBuiltin, lenOf, small, canStore, pyEq, PV.toD, PV.toDs, PyData.eqv, PyData.eqvAll, getList, newCell, setCell, slice, bound, cut, textOk, empty_append, andor, oror, andand, orand, strOk_num, strOk_v, strOk_n, strOk_nm, strOk_fr, v_lam, v_app, v_fr, fr_lam, fr_app, v_take, v_drop, fr_take, List.getElem?_append, fieldText, relab, compOk, Vars.comp, Nm.text_beq, T.lay_pv] at hp0
    have e3 : ((1 : Int) + w).natAbs < 1152921504606846976 := by omega
    have e4 : ((1 : Int) + w).toNat ≤ 100000 := by omega
    simp [evSs, evS, evE, evEs, evT, evA, evB, evC, evO, evI, evF, ofString_inj, ofString_beq, strOk_ofString, strOk_append, M.then, bind_at, pure_at, fail_at, lift_some_at, lift_none_at, ite_at, isGlob, varOf, Vars.of, Vars.setAll, Vars.set, constOf, item, pickAt, cmpop, eqTop, PV.lay, PV.lays, PV.depth, PV.depths, binop, List.lookup_cons, plainArgs, const1, exn1, fuel1, isDef1, places1, consts1, exns1, bnames, callBuiltin, lenOf, small, canStore, pyEq, PV.toD, PV.toDs, PyData.eqv, PyData.eqvAll, getList, newCell, setCell, slice, bound, cut, textOk, empty_append, andor, oror, andand, orand, strOk_num, strOk_v, strOk_n, strOk_nm, strOk_fr, v_lam, v_app, v_fr, fr_lam, fr_app, v_take, v_drop, fr_take, List.getElem?_append, fieldText, relab, compOk, Vars.comp, Nm.text_beq, T.lay_pv, hp0, items, e3, e4] at hE
    generalize hF : forGo _ _ _ _ _ _ = F1 at hE
    obtain ⟨o, rfl, hq⟩ : ∃ o, F1 = some o ∧ (∃ ρ σ' a b row, o = .next ρ σ' ∧ RowAt σ' h c r cells a b row 50 ∧ (∃ rs t, row = rs ++ [t]) ∧ a ≤ 20 ∧ b ≤ 12 ∧ row.length ≤ 8 ∧ ρ "hand" = some (.ref h) ∧ ρ "row" = some (.ref r)) := by
      refine forGo_at hF (fun ds ρ σ' => ∃ a b row, RowAt σ' h c r cells a b row 50 ∧ (∃ rs t, row = rs ++ [t]) ∧ (∀ t ∈ row, t.size + 3 * ds.length ≤ 50) ∧ a + 2 * ds.length ≤ 20 ∧ b + ds.length ≤ 12 ∧ row.length + ds.length ≤ 8 ∧ ρ "hand" = some (.ref h) ∧ ρ "row" = some (.ref r)) _ ?_ ?_ ?_
      · refine ⟨_, _, _, R2, ⟨[], t1, rfl⟩, ?_, ?_, ?_, ?_, by simp [evSs, evS, evE, evEs, evT, evA, evB, evC, evO, evI, evF, ofString_inj, ofString_beq, strOk_ofString, strOk_append, M.then, bind_at, pure_at, fail_at, lift_some_at, lift_none_at, ite_at, isGlob, varOf, Vars.of, Vars.setAll, Vars.set, constOf, item, pickAt, cmpop, eqTop, PV.lay, PV.lays, PV.depth, PV.depths, binop, List.lookup_cons, plainArgs, const1, exn1, fuel1, isDef1, places1, consts1, exns1, bnames, callBuiltin, lenOf, small, canStore, pyEq, PV.toD, PV.toDs, PyData.eqv, PyData.eqvAll, getList, newCell, setCell, slice, bound, cut, textOk, empty_append, andor, oror, andand, orand, strOk_num, strOk_v, strOk_n, strOk_nm, strOk_fr, v_lam, v_app, v_fr, fr_lam, fr_app, v_take, v_drop, fr_take, List.getElem?_append, fieldText, relab, compOk, Vars.comp, Nm.text_beq, T.lay_pv], by simp [evSs, evS, evE, evEs, evT, evA, evB, evC, evO, evI, evF, ofString_inj, ofString_beq, strOk_ofString, strOk_append, M.then, bind_at, pure_at, fail_at, lift_some_at, lift_none_at, ite_at, isGlob, varOf, Vars.of, Vars.setAll, Vars.set, constOf, item, pickAt, cmpop, eqTop, PV.lay, PV.lays, PV.depth, PV.depths, binop, List.lookup_cons, plainArgs, const1, exn1, fuel1, isDef1, places1, consts1, exns1, bnames, callBuiltin, lenOf, small, canStore, pyEq, PV.toD, PV.toDs, PyData.eqv, PyData.eqvAll, getList, newCell, setCell, slice, bound, cut, textOk, empty_append, andor, oror, andand, orand, strOk_num, strOk_v, strOk_n, strOk_nm, strOk_fr, v_lam, v_app, v_fr, fr_lam, fr_app, v_take, v_drop, fr_take, List.getElem?_append, fieldText, relab, compOk, Vars.comp, Nm.text_beq, T.lay_pv]⟩ <;> simp [evSs, evS, evE, evEs, evT, evA, evB, evC, evO, evI, evF, ofString_inj, ofString_beq, strOk_ofString, strOk_append, M.then, bind_at, pure_at, fail_at, lift_some_at, lift_none_at, ite_at, isGlob, varOf, Vars.of, Vars.setAll, Vars.set, constOf, item, pickAt, cmpop, eqTop, PV.lay, PV.lays, PV.depth, PV.depths, binop, List.lookup_cons, plainArgs, const1, exn1, fuel1, isDef1, places1, consts1, exns1, bnames, callBuiltin, lenOf, small, canStore, pyEq, PV.toD, PV.toDs, PyData.eqv, PyData.eqvAll, getList, newCell, setCell, slice, bound, cut, textOk, empty_append, andor, oror, andand, orand, strOk_num, strOk_v, strOk_n, strOk_nm, strOk_fr, v_lam, v_app, v_fr, fr_lam, fr_app, v_take, v_drop, fr_take, List.getElem?_append, fieldText, relab, compOk, Vars.comp, Nm.text_beq, T.lay_pv] <;> omega
      · clear hE hF
        rintro d ds ρ σ' ⟨a, b, _, R, ⟨rs, t, rfl⟩, hsz, ha, hb, hrow, hhand, hrw⟩
        simp only [List.length_cons] at hsz ha hb hrow
        obtain ⟨j1, j2⟩ := R.inv t (by simp [evSs, evS, evE, evEs, evT, evA, evB, evC, evO, evI, evF, ofString_inj, ofString_beq, strOk_ofString, strOk_append, M.then, bind_at, pure_at, fail_at, lift_some_at, lift_none_at, ite_at, isGlob, varOf, Vars.of, Vars.setAll, Vars.set, constOf, item, pickAt, cmpop, eqTop, PV.lay, PV.lays, PV.depth, PV.depths, binop, List.lookup_cons, plainArgs, const1, exn1, fuel1, isDef1, places1, consts1, exns1, bnames, callBuiltin, lenOf, small, canStore, pyEq, PV.toD, PV.toDs, PyData.eqv, PyData.eqvAll, getList, newCell, setCell, slice, bound, cut, textOk, empty_append, andor, oror, andand, orand, strOk_num, strOk_v, strOk_n, strOk_nm, strOk_fr, v_lam, v_app, v_fr, fr_lam, fr_app, v_take, v_drop, fr_take, List.getElem?_append, fieldText, relab, compOk, Vars.comp, Nm.text_beq, T.lay_pv])
        have hst := hsz t (by simp [evSs, evS, evE, evEs, evT, evA, evB, evC, evO, evI, evF, ofString_inj, ofString_beq, strOk_ofString, strOk_append, M.then, bind_at, pure_at, fail_at, lift_some_at, lift_none_at, ite_at, isGlob, varOf, Vars.of, Vars.setAll, Vars.set, constOf, item, pickAt, cmpop, eqTop, PV.lay, PV.lays, PV.depth, PV.depths, binop, List.lookup_cons, plainArgs, const1, exn1, fuel1, isDef1, places1, consts1, exns1, bnames, callBuiltin, lenOf, small, canStore, pyEq, PV.toD, PV.toDs, PyData.eqv, PyData.eqvAll, getList, newCell, setCell, slice, bound, cut, textOk, empty_append, andor, oror, andand, orand, strOk_num, strOk_v, strOk_n, strOk_nm, strOk_fr, v_lam, v_app, v_fr, fr_lam, fr_app, v_take, v_drop, fr_take, List.getElem?_append, fieldText, relab, compOk, Vars.comp, Nm.text_beq, T.lay_pv])
        obtain ⟨σ'', t', a', b', p1, p2, p3, p4, p5, p6⟩ := turned_spec t (by omega) R.hand (by omega) (by omega) n (by omega)
        obtain ⟨k1, k2, k3⟩ := turn_inv j1 p6
        obtain ⟨m1, m2⟩ := R.push p2 p3 k3 hrc (t := t') ⟨k1, by omega⟩ (by omega)
        obtain ⟨hl1, hl2⟩ := List.getElem?_eq_some_iff.mp R.cellr
        obtain ⟨hl3, hl4⟩ := List.getElem?_eq_some_iff.mp m1
        have k5 : (1 : Int) ≤ (rs.length : Int) + 1 := by omega
        have k6 : (-1 + ((rs.length : Int) + 1)).toNat = rs.length := by omega
        have hrl : rs.length + 1 + (ds.length + 1) ≤ 8 := by simpa [evSs, evS, evE, evEs, evT, evA, evB, evC, evO, evI, evF, ofString_inj, ofString_beq, strOk_ofString, strOk_append, M.then, bind_at, pure_at, fail_at, lift_some_at, lift_none_at, ite_at, isGlob, varOf, Vars.of, Vars.setAll, Vars.set, constOf, item, pickAt, cmpop, eqTop, PV.lay, PV.lays, PV.depth, PV.depths, binop, List.lookup_cons, plainArgs, const1, exn1, fuel1, isDef1, places1, consts1, exns1, bnames, callBuiltin, lenOf, small, canStore, pyEq, PV.toD, PV.toDs, PyData.eqv, PyData.eqvAll, getList, newCell, setCell, slice, bound, cut, textOk, empty_append, andor, oror, andand, orand, strOk_num, strOk_v, strOk_n, strOk_nm, strOk_fr, v_lam, v_app, v_fr, fr_lam, fr_app, v_take, v_drop, fr_take, List.getElem?_append, fieldText, relab, compOk, Vars.comp, Nm.text_beq, T.lay_pv] using hrow
        have k7 : rs.length + 1 ≤ 100000 := by omega
        simp [evSs, evS, evE, evEs, evT, evA, evB, evC, evO, evI, evF, ofString_inj, ofString_beq, strOk_ofString, strOk_append, M.then, bind_at, pure_at, fail_at, lift_some_at, lift_none_at, ite_at, isGlob, varOf, Vars.of, Vars.setAll, Vars.set, constOf, item, pickAt, cmpop, eqTop, PV.lay, PV.lays, PV.depth, PV.depths, binop, List.lookup_cons, plainArgs, const1, exn1, fuel1, isDef1, places1, consts1, exns1, bnames, callBuiltin, lenOf, small, canStore, pyEq, PV.toD, PV.toDs, PyData.eqv, PyData.eqvAll, getList, newCell, setCell, slice, bound, cut, textOk, empty_append, andor, oror, andand, orand, strOk_num, strOk_v, strOk_n, strOk_nm, strOk_fr, v_lam, v_app, v_fr, fr_lam, fr_app, v_take, v_drop, fr_take, List.getElem?_append, fieldText, relab, compOk, Vars.comp, Nm.text_beq, T.lay_pv, hhand, hrw, knows, callMethod, hl1, hl2, k5, k6, p1, hl3, hl4, k7]
        refine ⟨by simp [evSs, evS, evE, evEs, evT, evA, evB, evC, evO, evI, evF, ofString_inj, ofString_beq, strOk_ofString, strOk_append, M.then, bind_at, pure_at, fail_at, lift_some_at, lift_none_at, ite_at, isGlob, varOf, Vars.of, Vars.setAll, Vars.set, constOf, item, pickAt, cmpop, eqTop, PV.lay, PV.lays, PV.depth, PV.depths, binop, List.lookup_cons, plainArgs, const1, exn1, fuel1, isDef1, places1, consts1, exns1, bnames, callBuiltin, lenOf, small, canStore, pyEq, PV.toD, PV.toDs, PyData.eqv, PyData.eqvAll, getList, newCell, setCell, slice, bound, cut, textOk, empty_append, andor, oror, andand, orand, strOk_num, strOk_v, strOk_n, strOk_nm, strOk_fr, v_lam, v_app, v_fr, fr_lam, fr_app, v_take, v_drop, fr_take, List.getElem?_append, fieldText, relab, compOk, Vars.comp, Nm.text_beq, T.lay_pv, stillB], a', b', rs ++ [t] ++ [t'], by simpa [evSs, evS, evE, evEs, evT, evA, evB, evC, evO, evI, evF, ofString_inj, ofString_beq, strOk_ofString, strOk_append, M.then, bind_at, pure_at, fail_at, lift_some_at, lift_none_at, ite_at, isGlob, varOf, Vars.of, Vars.setAll, Vars.set, constOf, item, pickAt, cmpop, eqTop, PV.lay, PV.lays, PV.depth, PV.depths, binop, List.lookup_cons, plainArgs, const1, exn1, fuel1, isDef1, places1, consts1, exns1, bnames, callBuiltin, lenOf, small, canStore, pyEq, PV.toD, PV.toDs, PyData.eqv, PyData.eqvAll, getList, newCell, setCell, slice, bound, cut, textOk, empty_append, andor, oror, andand, orand, strOk_num, strOk_v, strOk_n, strOk_nm, strOk_fr, v_lam, v_app, v_fr, fr_lam, fr_app, v_take, v_drop, fr_take, List.getElem?_append, fieldText, relab, compOk, Vars.comp, Nm.text_beq, T.lay_pv] using m2, ⟨_, _, rfl⟩, fun x hx => ?_, by omega, by omega, by simp [evSs, evS, evE, evEs, evT, evA, evB, evC, evO, evI, evF, ofString_inj, ofString_beq, strOk_ofString, strOk_append, M.then, bind_at, pure_at, fail_at, lift_some_at, lift_none_at, ite_at, isGlob, varOf, Vars.of, Vars.setAll, Vars.set, constOf, item, pickAt, cmpop, eqTop, PV.lay, PV.lays, PV.depth, PV.depths, binop, List.lookup_cons, plainArgs, const1, exn1, fuel1, isDef1, places1, consts1, exns1, bnames, callBuiltin, lenOf, small, canStore, pyEq, PV.toD, PV.toDs, PyData.eqv, PyData.eqvAll, getList, newCell, setCell, slice, bound, cut, textOk, empty_append, andor, oror, andand, orand, strOk_num, strOk_v, strOk_n, strOk_nm, strOk_fr, v_lam, v_app, v_fr, fr_lam, fr_app, v_take, v_drop, fr_take, List.getElem?_append, fieldText, relab, compOk, Vars.comp, Nm.text_beq, T.lay_pv]; omega⟩
        rcases List.mem_append.mp hx with hx | hx
        · have := hsz x hx; omega
        · have : x = t' := by simpa [evSs, evS, evE, evEs, evT, evA, evB, evC, evO, evI, evF, ofString_inj, ofString_beq, strOk_ofString, strOk_append, M.then, bind_at, pure_at, fail_at, lift_some_at, lift_none_at, ite_at, isGlob, varOf, Vars.of, Vars.setAll, Vars.set, constOf, item, pickAt, cmpop, eqTop, PV.lay, PV.lays, PV.depth, PV.depths, binop, List.lookup_cons, plainArgs, const1, exn1, fuel1, isDef1, places1, consts1, exns1, bnames, callBuiltin, lenOf, small, canStore, pyEq, PV.toD, PV.toDs, PyData.eqv, PyData.eqvAll, getList, newCell, setCell, slice, bound, cut, textOk, empty_append, andor, oror, andand, orand, strOk_num, strOk_v, strOk_n, strOk_nm, strOk_fr, v_lam, v_app, v_fr, fr_lam, fr_app, v_take, v_drop, fr_take, List.getElem?_append, fieldText, relab, compOk, Vars.comp, Nm.text_beq, T.lay_pv] using hx
          rw [this]; omega
      · rintro ρ σ' ⟨a, b, row, R, hrs, hsz, ha, hb, hrow, hhand, hrw⟩
        exact ⟨ρ, σ', a, b, row, rfl, R, hrs, by simpa [evSs, evS, evE, evEs, evT, evA, evB, evC, evO, evI, evF, ofString_inj, ofString_beq, strOk_ofString, strOk_append, M.then, bind_at, pure_at, fail_at, lift_some_at, lift_none_at, ite_at, isGlob, varOf, Vars.of, Vars.setAll, Vars.set, constOf, item, pickAt, cmpop, eqTop, PV.lay, PV.lays, PV.depth, PV.depths, binop, List.lookup_cons, plainArgs, const1, exn1, fuel1, isDef1, places1, consts1, exns1, bnames, callBuiltin, lenOf, small, canStore, pyEq, PV.toD, PV.toDs, PyData.eqv, PyData.eqvAll, getList, newCell, setCell, slice, bound, cut, textOk, empty_append, andor, oror, andand, orand, strOk_num, strOk_v, strOk_n, strOk_nm, strOk_fr, v_lam, v_app, v_fr, fr_lam, fr_app, v_take, v_drop, fr_take, List.getElem?_append, fieldText, relab, compOk, Vars.comp, Nm.text_beq, T.lay_pv] using ha, by simpa [evSs, evS, evE, evEs, evT, evA, evB, evC, evO, evI, evF, ofString_inj, ofString_beq, strOk_ofString, strOk_append, M.then, bind_at, pure_at, fail_at, lift_some_at, lift_none_at, ite_at, isGlob, varOf, Vars.of, Vars.setAll, Vars.set, constOf, item, pickAt, cmpop, eqTop, PV.lay, PV.lays, PV.depth, PV.depths, binop, List.lookup_cons, plainArgs, const1, exn1, fuel1, isDef1, places1, consts1, exns1, bnames, callBuiltin, lenOf, small, canStore, pyEq, PV.toD, PV.toDs, PyData.eqv, PyData.eqvAll, getList, newCell, setCell, slice, bound, cut, textOk, empty_append, andor, oror, andand, orand, strOk_num, strOk_v, strOk_n, strOk_nm, strOk_fr, v_lam, v_app, v_fr, fr_lam, fr_app, v_take, v_drop, fr_take, List.getElem?_append, fieldText, relab, compOk, Vars.comp, Nm.text_beq, T.lay_pv] using hb, by simpa [evSs, evS, evE, evEs, evT, evA, evB, evC, evO, evI, evF, ofString_inj, ofString_beq, strOk_ofString, strOk_append, M.then, bind_at, pure_at, fail_at, lift_some_at, lift_none_at, ite_at, isGlob, varOf, Vars.of, Vars.setAll, Vars.set, constOf, item, pickAt, cmpop, eqTop, PV.lay, PV.lays, PV.depth, PV.depths, binop, List.lookup_cons, plainArgs, const1, exn1, fuel1, isDef1, places1, consts1, exns1, bnames, callBuiltin, lenOf, small, canStore, pyEq, PV.toD, PV.toDs, PyData.eqv, PyData.eqvAll, getList, newCell, setCell, slice, bound, cut, textOk, empty_append, andor, oror, andand, orand, strOk_num, strOk_v, strOk_n, strOk_nm, strOk_fr, v_lam, v_app, v_fr, fr_lam, fr_app, v_take, v_drop, fr_take, List.getElem?_append, fieldText, relab, compOk, Vars.comp, Nm.text_beq, T.lay_pv] using hrow, hhand, hrw⟩
    clear hF
    obtain ⟨ρ, σ4, a2, b2, _, rfl, R3, ⟨rs, t2, rfl⟩, ha2, hb2, hlen, hhand, hrw⟩ := hq
    have hrl : rs.length + 1 ≤ 8 := by simpa [evSs, evS, evE, evEs, evT, evA, evB, evC, evO, evI, evF, ofString_inj, ofString_beq, strOk_ofString, strOk_append, M.then, bind_at, pure_at, fail_at, lift_some_at, lift_none_at, ite_at, isGlob, varOf, Vars.of, Vars.setAll, Vars.set, constOf, item, pickAt, cmpop, eqTop, PV.lay, PV.lays, PV.depth, PV.depths, binop, List.lookup_cons, plainArgs, const1, exn1, fuel1, isDef1, places1, consts1, exns1, bnames, callBuiltin, lenOf, small, canStore, pyEq, PV.toD, PV.toDs, PyData.eqv, PyData.eqvAll, getList, newCell, setCell, slice, bound, cut, textOk, empty_append, andor, oror, andand, orand, strOk_num, strOk_v, strOk_n, strOk_nm, strOk_fr, v_lam, v_app, v_fr, fr_lam, fr_app, v_take, v_drop, fr_take, List.getElem?_append, fieldText, relab, compOk, Vars.comp, Nm.text_beq, T.lay_pv] using hlen
    have hl3 := (List.getElem?_eq_some_iff.mp R3.hand.hand).1
    have hlr := (List.getElem?_eq_some_iff.mp R3.cellr)
    obtain ⟨σ5, t3, a3, b3, z1, z2, z3, z4, z5, z6⟩ := tree_spec 1 [] false (r := σ4.length) (R3.hand.app [Cell.list []]) (by simp [evSs, evS, evE, evEs, evT, evA, evB, evC, evO, evI, evF, ofString_inj, ofString_beq, strOk_ofString, strOk_append, M.then, bind_at, pure_at, fail_at, lift_some_at, lift_none_at, ite_at, isGlob, varOf, Vars.of, Vars.setAll, Vars.set, constOf, item, pickAt, cmpop, eqTop, PV.lay, PV.lays, PV.depth, PV.depths, binop, List.lookup_cons, plainArgs, const1, exn1, fuel1, isDef1, places1, consts1, exns1, bnames, callBuiltin, lenOf, small, canStore, pyEq, PV.toD, PV.toDs, PyData.eqv, PyData.eqvAll, getList, newCell, setCell, slice, bound, cut, textOk, empty_append, andor, oror, andand, orand, strOk_num, strOk_v, strOk_n, strOk_nm, strOk_fr, v_lam, v_app, v_fr, fr_lam, fr_app, v_take, v_drop, fr_take, List.getElem?_append, fieldText, relab, compOk, Vars.comp, Nm.text_beq, T.lay_pv, envPV]) (by omega) (by simp [evSs, evS, evE, evEs, evT, evA, evB, evC, evO, evI, evF, ofString_inj, ofString_beq, strOk_ofString, strOk_append, M.then, bind_at, pure_at, fail_at, lift_some_at, lift_none_at, ite_at, isGlob, varOf, Vars.of, Vars.setAll, Vars.set, constOf, item, pickAt, cmpop, eqTop, PV.lay, PV.lays, PV.depth, PV.depths, binop, List.lookup_cons, plainArgs, const1, exn1, fuel1, isDef1, places1, consts1, exns1, bnames, callBuiltin, lenOf, small, canStore, pyEq, PV.toD, PV.toDs, PyData.eqv, PyData.eqvAll, getList, newCell, setCell, slice, bound, cut, textOk, empty_append, andor, oror, andand, orand, strOk_num, strOk_v, strOk_n, strOk_nm, strOk_fr, v_lam, v_app, v_fr, fr_lam, fr_app, v_take, v_drop, fr_take, List.getElem?_append, fieldText, relab, compOk, Vars.comp, Nm.text_beq, T.lay_pv, pk]; omega) (by simp [evSs, evS, evE, evEs, evT, evA, evB, evC, evO, evI, evF, ofString_inj, ofString_beq, strOk_ofString, strOk_append, M.then, bind_at, pure_at, fail_at, lift_some_at, lift_none_at, ite_at, isGlob, varOf, Vars.of, Vars.setAll, Vars.set, constOf, item, pickAt, cmpop, eqTop, PV.lay, PV.lays, PV.depth, PV.depths, binop, List.lookup_cons, plainArgs, const1, exn1, fuel1, isDef1, places1, consts1, exns1, bnames, callBuiltin, lenOf, small, canStore, pyEq, PV.toD, PV.toDs, PyData.eqv, PyData.eqvAll, getList, newCell, setCell, slice, bound, cut, textOk, empty_append, andor, oror, andand, orand, strOk_num, strOk_v, strOk_n, strOk_nm, strOk_fr, v_lam, v_app, v_fr, fr_lam, fr_app, v_take, v_drop, fr_take, List.getElem?_append, fieldText, relab, compOk, Vars.comp, Nm.text_beq, T.lay_pv, pk]; omega) (by decide) n (by omega)
    simp [evSs, evS, evE, evEs, evT, evA, evB, evC, evO, evI, evF, ofString_inj, ofString_beq, strOk_ofString, strOk_append, M.then, bind_at, pure_at, fail_at, lift_some_at, lift_none_at, ite_at, isGlob, varOf, Vars.of, Vars.setAll, Vars.set, constOf, item, pickAt, cmpop, eqTop, PV.lay, PV.lays, PV.depth, PV.depths, binop, List.lookup_cons, plainArgs, const1, exn1, fuel1, isDef1, places1, consts1, exns1, bnames, callBuiltin, lenOf, small, canStore, pyEq, PV.toD, PV.toDs, PyData.eqv, PyData.eqvAll, getList, newCell, setCell, slice, bound, cut, textOk, empty_append, andor, oror, andand, orand, strOk_num, strOk_v, strOk_n, strOk_nm, strOk_fr, v_lam, v_app, v_fr, fr_lam, fr_app, v_take, v_drop, fr_take, List.getElem?_append, fieldText, relab, compOk, Vars.comp, Nm.text_beq, T.lay_pv, pk] at z1 z4 z5
    have hb3 := (drawn_ok z6 (by simp [evSs, evS, evE, evEs, evT, evA, evB, evC, evO, evI, evF, ofString_inj, ofString_beq, strOk_ofString, strOk_append, M.then, bind_at, pure_at, fail_at, lift_some_at, lift_none_at, ite_at, isGlob, varOf, Vars.of, Vars.setAll, Vars.set, constOf, item, pickAt, cmpop, eqTop, PV.lay, PV.lays, PV.depth, PV.depths, binop, List.lookup_cons, plainArgs, const1, exn1, fuel1, isDef1, places1, consts1, exns1, bnames, callBuiltin, lenOf, small, canStore, pyEq, PV.toD, PV.toDs, PyData.eqv, PyData.eqvAll, getList, newCell, setCell, slice, bound, cut, textOk, empty_append, andor, oror, andand, orand, strOk_num, strOk_v, strOk_n, strOk_nm, strOk_fr, v_lam, v_app, v_fr, fr_lam, fr_app, v_take, v_drop, fr_take, List.getElem?_append, fieldText, relab, compOk, Vars.comp, Nm.text_beq, T.lay_pv])).2.1
    obtain ⟨y1, y2⟩ := drawn_inv (.inl rfl) z6
    obtain ⟨m1, m2⟩ := (R3.app [Cell.list []]).push z2 z3 hb3 hrc (t := t3) ⟨y1, by omega⟩ (by omega)
    obtain ⟨hl5, hl6⟩ := List.getElem?_eq_some_iff.mp m1
    obtain ⟨hl7, hl8⟩ := hlr
    generalize hσ6 : σ5.set r (.list ((rs ++ [t2] ++ [t3]).map T.pv)) = σ6 at m2
    obtain ⟨σ7, t4, a4, b4, x1, x2, x3, x4, x5, x6⟩ := turned_spec t3 (by omega) m2.hand (by omega) (by omega) n (by omega)
    obtain ⟨k1, k2, k3⟩ := turn_inv y1 x6
    obtain ⟨m3, m4⟩ := m2.push x2 x3 k3 hrc (t := t4) ⟨k1, by omega⟩ (by simp [evSs, evS, evE, evEs, evT, evA, evB, evC, evO, evI, evF, ofString_inj, ofString_beq, strOk_ofString, strOk_append, M.then, bind_at, pure_at, fail_at, lift_some_at, lift_none_at, ite_at, isGlob, varOf, Vars.of, Vars.setAll, Vars.set, constOf, item, pickAt, cmpop, eqTop, PV.lay, PV.lays, PV.depth, PV.depths, binop, List.lookup_cons, plainArgs, const1, exn1, fuel1, isDef1, places1, consts1, exns1, bnames, callBuiltin, lenOf, small, canStore, pyEq, PV.toD, PV.toDs, PyData.eqv, PyData.eqvAll, getList, newCell, setCell, slice, bound, cut, textOk, empty_append, andor, oror, andand, orand, strOk_num, strOk_v, strOk_n, strOk_nm, strOk_fr, v_lam, v_app, v_fr, fr_lam, fr_app, v_take, v_drop, fr_take, List.getElem?_append, fieldText, relab, compOk, Vars.comp, Nm.text_beq, T.lay_pv]; omega)
    obtain ⟨hl9, hl10⟩ := List.getElem?_eq_some_iff.mp m3
    obtain ⟨hl11, hl12⟩ := List.getElem?_eq_some_iff.mp m2.cellr
    have k7 : rs.length + 1 ≤ 100000 := by omega
    have k8 : rs.length + 1 + 1 ≤ 100000 := by omega
    have k9 : (-1 + ((rs.length : Int) + 2)).toNat = rs.length + 1 := by omega
    have k10 : (1 : Int) ≤ (rs.length : Int) + 2 := by omega
    have k11 : rs.length + 2 ≤ 100000 := by omega
    obtain ⟨v, hv, hp1⟩ := pick_spec m4.hand 4 (by omega) (by omega) (by omega) n (by omega)
    have R6 := m4.upd (m4.hand.set (a4 + 1) b4) (Upd.set h _ _) (Nat.le_refl _)
    have hk : ∀ t ∈ rs ++ [t2] ++ [t3] ++ [t4], Inv1 b4 t ∧ t.size ≤ 150 := fun t ht => ⟨(R6.inv t ht).1, by have := (R6.inv t ht).2; omega⟩
    obtain ⟨es, hes, hgood⟩ := ents _ hk
    generalize hσ8 : σ7.set r (.list ((rs ++ [t2] ++ [t3] ++ [t4]).map T.pv)) = σ8 at hp1 R6
    generalize hσ9 : σ8.set h (.list [.ref c, .int (a4 + 1 : Nat), .int b4]) = σ9 at hp1 R6
    simp [evSs, evS, evE, evEs, evT, evA, evB, evC, evO, evI, evF, ofString_inj, ofString_beq, strOk_ofString, strOk_append, M.then, bind_at, pure_at, fail_at, lift_some_at, lift_none_at, ite_at, isGlob, varOf, Vars.of, Vars.setAll, Vars.set, constOf, item, pickAt, cmpop, eqTop, PV.lay, PV.lays, PV.depth, PV.depths, binop, List.lookup_cons, plainArgs, const1, exn1, fuel1, isDef1, places1, consts1, exns1, bnames, callBuiltin, lenOf, small, canStore, pyEq, PV.toD, PV.toDs, PyData.eqv, PyData.eqvAll, getList, newCell, setCell, slice, bound, cut, textOk, empty_append, andor, oror, andand, orand, strOk_num, strOk_v, strOk_n, strOk_nm, strOk_fr, v_lam, v_app, v_fr, fr_lam, fr_app, v_take, v_drop, fr_take, List.getElem?_append, fieldText, relab, compOk, Vars.comp, Nm.text_beq, T.lay_pv] at hσ8 hp1
    simp [evSs, evS, evE, evEs, evT, evA, evB, evC, evO, evI, evF, ofString_inj, ofString_beq, strOk_ofString, strOk_append, M.then, bind_at, pure_at, fail_at, lift_some_at, lift_none_at, ite_at, isGlob, varOf, Vars.of, Vars.setAll, Vars.set, constOf, item, pickAt, cmpop, eqTop, PV.lay, PV.lays, PV.depth, PV.depths, binop, List.lookup_cons, plainArgs, const1, exn1, fuel1, isDef1, places1, consts1, exns1, bnames, callBuiltin, lenOf, small, canStore, pyEq, PV.toD, PV.toDs, PyData.eqv, PyData.eqvAll, getList, newCell, setCell, slice, bound, cut, textOk, empty_append, andor, oror, andand, orand, strOk_num, strOk_v, strOk_n, strOk_nm, strOk_fr, v_lam, v_app, v_fr, fr_lam, fr_app, v_take, v_drop, fr_take, List.getElem?_append, fieldText, relab, compOk, Vars.comp, Nm.text_beq, T.lay_pv] at hσ6
    simp [evSs, evS, evE, evEs, evT, evA, evB, evC, evO, evI, evF, ofString_inj, ofString_beq, strOk_ofString, strOk_append, M.then, bind_at, pure_at, fail_at, lift_some_at, lift_none_at, ite_at, isGlob, varOf, Vars.of, Vars.setAll, Vars.set, constOf, item, pickAt, cmpop, eqTop, PV.lay, PV.lays, PV.depth, PV.depths, binop, List.lookup_cons, plainArgs, const1, exn1, fuel1, isDef1, places1, consts1, exns1, bnames, callBuiltin, lenOf, small, canStore, pyEq, PV.toD, PV.toDs, PyData.eqv, PyData.eqvAll, getList, newCell, setCell, slice, bound, cut, textOk, empty_append, andor, oror, andand, orand, strOk_num, strOk_v, strOk_n, strOk_nm, strOk_fr, v_lam, v_app, v_fr, fr_lam, fr_app, v_take, v_drop, fr_take, List.getElem?_append, fieldText, relab, compOk, Vars.comp, Nm.text_beq, T.lay_pv, hhand, hrw, knows, callMethod, hl7, hl8, z1, hl5, hl6, k7, hσ6, hl11, hl12, k9, x1, hl9, hl10, k8, k10, k11, hσ8, hp1, targetNames, tupleOk, constantsAlone] at hE
    have hrow := R6.cellr
    rw [← hes, List.map_map] at hrow
    have hel : es.length ≤ 100000 := by
      have := congrArg List.length hes
      simp [evSs, evS, evE, evEs, evT, evA, evB, evC, evO, evI, evF, ofString_inj, ofString_beq, strOk_ofString, strOk_append, M.then, bind_at, pure_at, fail_at, lift_some_at, lift_none_at, ite_at, isGlob, varOf, Vars.of, Vars.setAll, Vars.set, constOf, item, pickAt, cmpop, eqTop, PV.lay, PV.lays, PV.depth, PV.depths, binop, List.lookup_cons, plainArgs, const1, exn1, fuel1, isDef1, places1, consts1, exns1, bnames, callBuiltin, lenOf, small, canStore, pyEq, PV.toD, PV.toDs, PyData.eqv, PyData.eqvAll, getList, newCell, setCell, slice, bound, cut, textOk, empty_append, andor, oror, andand, orand, strOk_num, strOk_v, strOk_n, strOk_nm, strOk_fr, v_lam, v_app, v_fr, fr_lam, fr_app, v_take, v_drop, fr_take, List.getElem?_append, fieldText, relab, compOk, Vars.comp, Nm.text_beq, T.lay_pv] at this
      omega
    rw [gar_at (compM_refs_at σ9 es (T.pv ∘ Ent.t) (fun e => .tup [e.u.pv, .int e.n]) (fun _ => true) ⟨[], r, by simp [evSs, evS, evE, evEs, evT, evA, evB, evC, evO, evI, evF, ofString_inj, ofString_beq, strOk_ofString, strOk_append, M.then, bind_at, pure_at, fail_at, lift_some_at, lift_none_at, ite_at, isGlob, varOf, Vars.of, Vars.setAll, Vars.set, constOf, item, pickAt, cmpop, eqTop, PV.lay, PV.lays, PV.depth, PV.depths, binop, List.lookup_cons, plainArgs, const1, exn1, fuel1, isDef1, places1, consts1, exns1, bnames, callBuiltin, lenOf, small, canStore, pyEq, PV.toD, PV.toDs, PyData.eqv, PyData.eqvAll, getList, newCell, setCell, slice, bound, cut, textOk, empty_append, andor, oror, andand, orand, strOk_num, strOk_v, strOk_n, strOk_nm, strOk_fr, v_lam, v_app, v_fr, fr_lam, fr_app, v_take, v_drop, fr_take, List.getElem?_append, fieldText, relab, compOk, Vars.comp, Nm.text_beq, T.lay_pv, hrw], by simpa [evSs, evS, evE, evEs, evT, evA, evB, evC, evO, evI, evF, ofString_inj, ofString_beq, strOk_ofString, strOk_append, M.then, bind_at, pure_at, fail_at, lift_some_at, lift_none_at, ite_at, isGlob, varOf, Vars.of, Vars.setAll, Vars.set, constOf, item, pickAt, cmpop, eqTop, PV.lay, PV.lays, PV.depth, PV.depths, binop, List.lookup_cons, plainArgs, const1, exn1, fuel1, isDef1, places1, consts1, exns1, bnames, callBuiltin, lenOf, small, canStore, pyEq, PV.toD, PV.toDs, PyData.eqv, PyData.eqvAll, getList, newCell, setCell, slice, bound, cut, textOk, empty_append, andor, oror, andand, orand, strOk_num, strOk_v, strOk_n, strOk_nm, strOk_fr, v_lam, v_app, v_fr, fr_lam, fr_app, v_take, v_drop, fr_take, List.getElem?_append, fieldText, relab, compOk, Vars.comp, Nm.text_beq, T.lay_pv] using hrow⟩ hel (fun e he => gives_pure _) (fun e he _ σ => by
      have := (end_spec e.t e.u e.n (hgood e he).1 (by have := (hgood e he).2.2.1; omega) n (by omega)).at
      simp [evSs, evS, evE, evEs, evT, evA, evB, evC, evO, evI, evF, ofString_inj, ofString_beq, strOk_ofString, strOk_append, M.then, bind_at, pure_at, fail_at, lift_some_at, lift_none_at, ite_at, isGlob, varOf, Vars.of, Vars.setAll, Vars.set, constOf, item, pickAt, cmpop, eqTop, PV.lay, PV.lays, PV.depth, PV.depths, binop, List.lookup_cons, plainArgs, const1, exn1, fuel1, isDef1, places1, consts1, exns1, bnames, callBuiltin, lenOf, small, canStore, pyEq, PV.toD, PV.toDs, PyData.eqv, PyData.eqvAll, getList, newCell, setCell, slice, bound, cut, textOk, empty_append, andor, oror, andand, orand, strOk_num, strOk_v, strOk_n, strOk_nm, strOk_fr, v_lam, v_app, v_fr, fr_lam, fr_app, v_take, v_drop, fr_take, List.getElem?_append, fieldText, relab, compOk, Vars.comp, Nm.text_beq, T.lay_pv, this])) ] at hE
    generalize gar _ _ _ = g2 at hE
    simp [evSs, evS, evE, evEs, evT, evA, evB, evC, evO, evI, evF, ofString_inj, ofString_beq, strOk_ofString, strOk_append, M.then, bind_at, pure_at, fail_at, lift_some_at, lift_none_at, ite_at, isGlob, varOf, Vars.of, Vars.setAll, Vars.set, constOf, item, pickAt, cmpop, eqTop, PV.lay, PV.lays, PV.depth, PV.depths, binop, List.lookup_cons, plainArgs, const1, exn1, fuel1, isDef1, places1, consts1, exns1, bnames, callBuiltin, lenOf, small, canStore, pyEq, PV.toD, PV.toDs, PyData.eqv, PyData.eqvAll, getList, newCell, setCell, slice, bound, cut, textOk, empty_append, andor, oror, andand, orand, strOk_num, strOk_v, strOk_n, strOk_nm, strOk_fr, v_lam, v_app, v_fr, fr_lam, fr_app, v_take, v_drop, fr_take, List.getElem?_append, fieldText, relab, compOk, Vars.comp, Nm.text_beq, T.lay_pv, filter_all, hrw] at hE
    rw [gar_at (compM_refs_at (σ9 ++ (g2 ++ [Cell.list (List.map (fun e => PV.tup [e.u.pv, PV.int (e.n : Int)]) es)])) es (T.pv ∘ Ent.t) (fun e => (core [] e.t).pv) (fun _ => true) ⟨[], r, by simp [evSs, evS, evE, evEs, evT, evA, evB, evC, evO, evI, evF, ofString_inj, ofString_beq, strOk_ofString, strOk_append, M.then, bind_at, pure_at, fail_at, lift_some_at, lift_none_at, ite_at, isGlob, varOf, Vars.of, Vars.setAll, Vars.set, constOf, item, pickAt, cmpop, eqTop, PV.lay, PV.lays, PV.depth, PV.depths, binop, List.lookup_cons, plainArgs, const1, exn1, fuel1, isDef1, places1, consts1, exns1, bnames, callBuiltin, lenOf, small, canStore, pyEq, PV.toD, PV.toDs, PyData.eqv, PyData.eqvAll, getList, newCell, setCell, slice, bound, cut, textOk, empty_append, andor, oror, andand, orand, strOk_num, strOk_v, strOk_n, strOk_nm, strOk_fr, v_lam, v_app, v_fr, fr_lam, fr_app, v_take, v_drop, fr_take, List.getElem?_append, fieldText, relab, compOk, Vars.comp, Nm.text_beq, T.lay_pv], by
      have hl := (List.getElem?_eq_some_iff.mp hrow).1
      rw [List.append_nil, List.getElem?_append_left hl]; exact hrow⟩ hel (fun e he => gives_pure _) (fun e he _ σ => by
      obtain ⟨g, hg⟩ := core_spec e.t [] (T.ok_closed _ _ (hgood e he).2.2.2.1.1) (by have := (hgood e he).2.2.2.2.2.1; simp [evSs, evS, evE, evEs, evT, evA, evB, evC, evO, evI, evF, ofString_inj, ofString_beq, strOk_ofString, strOk_append, M.then, bind_at, pure_at, fail_at, lift_some_at, lift_none_at, ite_at, isGlob, varOf, Vars.of, Vars.setAll, Vars.set, constOf, item, pickAt, cmpop, eqTop, PV.lay, PV.lays, PV.depth, PV.depths, binop, List.lookup_cons, plainArgs, const1, exn1, fuel1, isDef1, places1, consts1, exns1, bnames, callBuiltin, lenOf, small, canStore, pyEq, PV.toD, PV.toDs, PyData.eqv, PyData.eqvAll, getList, newCell, setCell, slice, bound, cut, textOk, empty_append, andor, oror, andand, orand, strOk_num, strOk_v, strOk_n, strOk_nm, strOk_fr, v_lam, v_app, v_fr, fr_lam, fr_app, v_take, v_drop, fr_take, List.getElem?_append, fieldText, relab, compOk, Vars.comp, Nm.text_beq, T.lay_pv]; omega) n (by have := (hgood e he).2.2.2.2.2.1; omega) (σ ++ [Cell.list []]) σ.length (by simp [evSs, evS, evE, evEs, evT, evA, evB, evC, evO, evI, evF, ofString_inj, ofString_beq, strOk_ofString, strOk_append, M.then, bind_at, pure_at, fail_at, lift_some_at, lift_none_at, ite_at, isGlob, varOf, Vars.of, Vars.setAll, Vars.set, constOf, item, pickAt, cmpop, eqTop, PV.lay, PV.lays, PV.depth, PV.depths, binop, List.lookup_cons, plainArgs, const1, exn1, fuel1, isDef1, places1, consts1, exns1, bnames, callBuiltin, lenOf, small, canStore, pyEq, PV.toD, PV.toDs, PyData.eqv, PyData.eqvAll, getList, newCell, setCell, slice, bound, cut, textOk, empty_append, andor, oror, andand, orand, strOk_num, strOk_v, strOk_n, strOk_nm, strOk_fr, v_lam, v_app, v_fr, fr_lam, fr_app, v_take, v_drop, fr_take, List.getElem?_append, fieldText, relab, compOk, Vars.comp, Nm.text_beq, T.lay_pv, envPV])
      simp [evSs, evS, evE, evEs, evT, evA, evB, evC, evO, evI, evF, ofString_inj, ofString_beq, strOk_ofString, strOk_append, M.then, bind_at, pure_at, fail_at, lift_some_at, lift_none_at, ite_at, isGlob, varOf, Vars.of, Vars.setAll, Vars.set, constOf, item, pickAt, cmpop, eqTop, PV.lay, PV.lays, PV.depth, PV.depths, binop, List.lookup_cons, plainArgs, const1, exn1, fuel1, isDef1, places1, consts1, exns1, bnames, callBuiltin, lenOf, small, canStore, pyEq, PV.toD, PV.toDs, PyData.eqv, PyData.eqvAll, getList, newCell, setCell, slice, bound, cut, textOk, empty_append, andor, oror, andand, orand, strOk_num, strOk_v, strOk_n, strOk_nm, strOk_fr, v_lam, v_app, v_fr, fr_lam, fr_app, v_take, v_drop, fr_take, List.getElem?_append, fieldText, relab, compOk, Vars.comp, Nm.text_beq, T.lay_pv] at hg
      simp [evSs, evS, evE, evEs, evT, evA, evB, evC, evO, evI, evF, ofString_inj, ofString_beq, strOk_ofString, strOk_append, M.then, bind_at, pure_at, fail_at, lift_some_at, lift_none_at, ite_at, isGlob, varOf, Vars.of, Vars.setAll, Vars.set, constOf, item, pickAt, cmpop, eqTop, PV.lay, PV.lays, PV.depth, PV.depths, binop, List.lookup_cons, plainArgs, const1, exn1, fuel1, isDef1, places1, consts1, exns1, bnames, callBuiltin, lenOf, small, canStore, pyEq, PV.toD, PV.toDs, PyData.eqv, PyData.eqvAll, getList, newCell, setCell, slice, bound, cut, textOk, empty_append, andor, oror, andand, orand, strOk_num, strOk_v, strOk_n, strOk_nm, strOk_fr, v_lam, v_app, v_fr, fr_lam, fr_app, v_take, v_drop, fr_take, List.getElem?_append, fieldText, relab, compOk, Vars.comp, Nm.text_beq, T.lay_pv, hg])) ] at hE
    generalize gar _ _ _ = g3 at hE
    have hcE : (σ9 ++ (g2 ++ Cell.list (es.map (fun e => PV.tup [e.u.pv, PV.int (e.n : Int)])) :: (g3 ++ [Cell.list (es.map fun e => (core [] e.t).pv)])))[σ9.length + g2.length]? = some (.list (es.map (fun e => PV.tup [e.u.pv, PV.int (e.n : Int)]))) := by
      rw [List.getElem?_append_right (by omega), List.getElem?_append_right (by omega)]; simp [evSs, evS, evE, evEs, evT, evA, evB, evC, evO, evI, evF, ofString_inj, ofString_beq, strOk_ofString, strOk_append, M.then, bind_at, pure_at, fail_at, lift_some_at, lift_none_at, ite_at, isGlob, varOf, Vars.of, Vars.setAll, Vars.set, constOf, item, pickAt, cmpop, eqTop, PV.lay, PV.lays, PV.depth, PV.depths, binop, List.lookup_cons, plainArgs, const1, exn1, fuel1, isDef1, places1, consts1, exns1, bnames, callBuiltin, lenOf, small, canStore, pyEq, PV.toD, PV.toDs, PyData.eqv, PyData.eqvAll, getList, newCell, setCell, slice, bound, cut, textOk, empty_append, andor, oror, andand, orand, strOk_num, strOk_v, strOk_n, strOk_nm, strOk_fr, v_lam, v_app, v_fr, fr_lam, fr_app, v_take, v_drop, fr_take, List.getElem?_append, fieldText, relab, compOk, Vars.comp, Nm.text_beq, T.lay_pv]
    have hcC : (σ9 ++ (g2 ++ Cell.list (es.map (fun e => PV.tup [e.u.pv, PV.int (e.n : Int)])) :: (g3 ++ [Cell.list (es.map fun e => (core [] e.t).pv)])))[σ9.length + (g2.length + (g3.length + 1))]? = some (.list (es.map fun e => (core [] e.t).pv)) := by
      rw [List.getElem?_append_right (by omega), List.getElem?_append_right (by omega)]; simp [evSs, evS, evE, evEs, evT, evA, evB, evC, evO, evI, evF, ofString_inj, ofString_beq, strOk_ofString, strOk_append, M.then, bind_at, pure_at, fail_at, lift_some_at, lift_none_at, ite_at, isGlob, varOf, Vars.of, Vars.setAll, Vars.set, constOf, item, pickAt, cmpop, eqTop, PV.lay, PV.lays, PV.depth, PV.depths, binop, List.lookup_cons, plainArgs, const1, exn1, fuel1, isDef1, places1, consts1, exns1, bnames, callBuiltin, lenOf, small, canStore, pyEq, PV.toD, PV.toDs, PyData.eqv, PyData.eqvAll, getList, newCell, setCell, slice, bound, cut, textOk, empty_append, andor, oror, andand, orand, strOk_num, strOk_v, strOk_n, strOk_nm, strOk_fr, v_lam, v_app, v_fr, fr_lam, fr_app, v_take, v_drop, fr_take, List.getElem?_append, fieldText, relab, compOk, Vars.comp, Nm.text_beq, T.lay_pv]
    have hcR : (σ9 ++ (g2 ++ Cell.list (es.map (fun e => PV.tup [e.u.pv, PV.int (e.n : Int)])) :: (g3 ++ [Cell.list (es.map fun e => (core [] e.t).pv)])))[r]? = some (.list (es.map (T.pv ∘ Ent.t))) := by
      have hl := (List.getElem?_eq_some_iff.mp hrow).1
      rw [List.getElem?_append_left hl]; exact hrow
    simp [evSs, evS, evE, evEs, evT, evA, evB, evC, evO, evI, evF, ofString_inj, ofString_beq, strOk_ofString, strOk_append, M.then, bind_at, pure_at, fail_at, lift_some_at, lift_none_at, ite_at, isGlob, varOf, Vars.of, Vars.setAll, Vars.set, constOf, item, pickAt, cmpop, eqTop, PV.lay, PV.lays, PV.depth, PV.depths, binop, List.lookup_cons, plainArgs, const1, exn1, fuel1, isDef1, places1, consts1, exns1, bnames, callBuiltin, lenOf, small, canStore, pyEq, PV.toD, PV.toDs, PyData.eqv, PyData.eqvAll, getList, newCell, setCell, slice, bound, cut, textOk, empty_append, andor, oror, andand, orand, strOk_num, strOk_v, strOk_n, strOk_nm, strOk_fr, v_lam, v_app, v_fr, fr_lam, fr_app, v_take, v_drop, fr_take, List.getElem?_append, fieldText, relab, compOk, Vars.comp, Nm.text_beq, T.lay_pv, filter_all] at hE
    generalize (σ9 ++ (g2 ++ Cell.list (es.map (fun e => PV.tup [e.u.pv, PV.int (e.n : Int)])) :: (g3 ++ [Cell.list (es.map fun e => (core [] e.t).pv)]))) = σ11 at hE hcE hcC hcR
    generalize σ9.length + (g2.length + (g3.length + 1)) = kC at hE hcC
    generalize σ9.length + g2.length = kE at hE hcE
    have f1 : (es.length : Int).natAbs < 1152921504606846976 := by omega
    have f2 : es.length < 1152921504606846976 := by omega
    have hel2 : es.length = rs.length + 3 + 1 - 1 := by
      have := congrArg List.length hes
      simp [evSs, evS, evE, evEs, evT, evA, evB, evC, evO, evI, evF, ofString_inj, ofString_beq, strOk_ofString, strOk_append, M.then, bind_at, pure_at, fail_at, lift_some_at, lift_none_at, ite_at, isGlob, varOf, Vars.of, Vars.setAll, Vars.set, constOf, item, pickAt, cmpop, eqTop, PV.lay, PV.lays, PV.depth, PV.depths, binop, List.lookup_cons, plainArgs, const1, exn1, fuel1, isDef1, places1, consts1, exns1, bnames, callBuiltin, lenOf, small, canStore, pyEq, PV.toD, PV.toDs, PyData.eqv, PyData.eqvAll, getList, newCell, setCell, slice, bound, cut, textOk, empty_append, andor, oror, andand, orand, strOk_num, strOk_v, strOk_n, strOk_nm, strOk_fr, v_lam, v_app, v_fr, fr_lam, fr_app, v_take, v_drop, fr_take, List.getElem?_append, fieldText, relab, compOk, Vars.comp, Nm.text_beq, T.lay_pv] at this
      omega
    have f5 : (es.length : Int) ≤ 100000 := by omega
    simp [evSs, evS, evE, evEs, evT, evA, evB, evC, evO, evI, evF, ofString_inj, ofString_beq, strOk_ofString, strOk_append, M.then, bind_at, pure_at, fail_at, lift_some_at, lift_none_at, ite_at, isGlob, varOf, Vars.of, Vars.setAll, Vars.set, constOf, item, pickAt, cmpop, eqTop, PV.lay, PV.lays, PV.depth, PV.depths, binop, List.lookup_cons, plainArgs, const1, exn1, fuel1, isDef1, places1, consts1, exns1, bnames, callBuiltin, lenOf, small, canStore, pyEq, PV.toD, PV.toDs, PyData.eqv, PyData.eqvAll, getList, newCell, setCell, slice, bound, cut, textOk, empty_append, andor, oror, andand, orand, strOk_num, strOk_v, strOk_n, strOk_nm, strOk_fr, v_lam, v_app, v_fr, fr_lam, fr_app, v_take, v_drop, fr_take, List.getElem?_append, fieldText, relab, compOk, Vars.comp, Nm.text_beq, T.lay_pv, hrw, hcR, hel, items, f1, f2, f5] at hE
    generalize hF : forGo _ _ _ _ _ _ = F1 at hE
    obtain ⟨o, rfl, hq⟩ : ∃ o, F1 = some o ∧ (∃ ρ σ', o = .next ρ σ') := by
      refine forGo_at hF (fun ds ρ σ' => (∀ d ∈ ds, ∃ i : Nat, i < es.length ∧ d = .int i) ∧ ρ "row" = some (.ref r) ∧ ρ "ends" = some (.ref kE) ∧ ρ "cores" = some (.ref kC) ∧ ρ "most" = some (.int v) ∧ ∃ g, σ' = σ11 ++ g) _ ?_ ?_ ?_
      · refine ⟨fun d hd => ?_, by simp [evSs, evS, evE, evEs, evT, evA, evB, evC, evO, evI, evF, ofString_inj, ofString_beq, strOk_ofString, strOk_append, M.then, bind_at, pure_at, fail_at, lift_some_at, lift_none_at, ite_at, isGlob, varOf, Vars.of, Vars.setAll, Vars.set, constOf, item, pickAt, cmpop, eqTop, PV.lay, PV.lays, PV.depth, PV.depths, binop, List.lookup_cons, plainArgs, const1, exn1, fuel1, isDef1, places1, consts1, exns1, bnames, callBuiltin, lenOf, small, canStore, pyEq, PV.toD, PV.toDs, PyData.eqv, PyData.eqvAll, getList, newCell, setCell, slice, bound, cut, textOk, empty_append, andor, oror, andand, orand, strOk_num, strOk_v, strOk_n, strOk_nm, strOk_fr, v_lam, v_app, v_fr, fr_lam, fr_app, v_take, v_drop, fr_take, List.getElem?_append, fieldText, relab, compOk, Vars.comp, Nm.text_beq, T.lay_pv, hrw], by simp [evSs, evS, evE, evEs, evT, evA, evB, evC, evO, evI, evF, ofString_inj, ofString_beq, strOk_ofString, strOk_append, M.then, bind_at, pure_at, fail_at, lift_some_at, lift_none_at, ite_at, isGlob, varOf, Vars.of, Vars.setAll, Vars.set, constOf, item, pickAt, cmpop, eqTop, PV.lay, PV.lays, PV.depth, PV.depths, binop, List.lookup_cons, plainArgs, const1, exn1, fuel1, isDef1, places1, consts1, exns1, bnames, callBuiltin, lenOf, small, canStore, pyEq, PV.toD, PV.toDs, PyData.eqv, PyData.eqvAll, getList, newCell, setCell, slice, bound, cut, textOk, empty_append, andor, oror, andand, orand, strOk_num, strOk_v, strOk_n, strOk_nm, strOk_fr, v_lam, v_app, v_fr, fr_lam, fr_app, v_take, v_drop, fr_take, List.getElem?_append, fieldText, relab, compOk, Vars.comp, Nm.text_beq, T.lay_pv], by simp [evSs, evS, evE, evEs, evT, evA, evB, evC, evO, evI, evF, ofString_inj, ofString_beq, strOk_ofString, strOk_append, M.then, bind_at, pure_at, fail_at, lift_some_at, lift_none_at, ite_at, isGlob, varOf, Vars.of, Vars.setAll, Vars.set, constOf, item, pickAt, cmpop, eqTop, PV.lay, PV.lays, PV.depth, PV.depths, binop, List.lookup_cons, plainArgs, const1, exn1, fuel1, isDef1, places1, consts1, exns1, bnames, callBuiltin, lenOf, small, canStore, pyEq, PV.toD, PV.toDs, PyData.eqv, PyData.eqvAll, getList, newCell, setCell, slice, bound, cut, textOk, empty_append, andor, oror, andand, orand, strOk_num, strOk_v, strOk_n, strOk_nm, strOk_fr, v_lam, v_app, v_fr, fr_lam, fr_app, v_take, v_drop, fr_take, List.getElem?_append, fieldText, relab, compOk, Vars.comp, Nm.text_beq, T.lay_pv], by simp [evSs, evS, evE, evEs, evT, evA, evB, evC, evO, evI, evF, ofString_inj, ofString_beq, strOk_ofString, strOk_append, M.then, bind_at, pure_at, fail_at, lift_some_at, lift_none_at, ite_at, isGlob, varOf, Vars.of, Vars.setAll, Vars.set, constOf, item, pickAt, cmpop, eqTop, PV.lay, PV.lays, PV.depth, PV.depths, binop, List.lookup_cons, plainArgs, const1, exn1, fuel1, isDef1, places1, consts1, exns1, bnames, callBuiltin, lenOf, small, canStore, pyEq, PV.toD, PV.toDs, PyData.eqv, PyData.eqvAll, getList, newCell, setCell, slice, bound, cut, textOk, empty_append, andor, oror, andand, orand, strOk_num, strOk_v, strOk_n, strOk_nm, strOk_fr, v_lam, v_app, v_fr, fr_lam, fr_app, v_take, v_drop, fr_take, List.getElem?_append, fieldText, relab, compOk, Vars.comp, Nm.text_beq, T.lay_pv], [], by simp [evSs, evS, evE, evEs, evT, evA, evB, evC, evO, evI, evF, ofString_inj, ofString_beq, strOk_ofString, strOk_append, M.then, bind_at, pure_at, fail_at, lift_some_at, lift_none_at, ite_at, isGlob, varOf, Vars.of, Vars.setAll, Vars.set, constOf, item, pickAt, cmpop, eqTop, PV.lay, PV.lays, PV.depth, PV.depths, binop, List.lookup_cons, plainArgs, const1, exn1, fuel1, isDef1, places1, consts1, exns1, bnames, callBuiltin, lenOf, small, canStore, pyEq, PV.toD, PV.toDs, PyData.eqv, PyData.eqvAll, getList, newCell, setCell, slice, bound, cut, textOk, empty_append, andor, oror, andand, orand, strOk_num, strOk_v, strOk_n, strOk_nm, strOk_fr, v_lam, v_app, v_fr, fr_lam, fr_app, v_take, v_drop, fr_take, List.getElem?_append, fieldText, relab, compOk, Vars.comp, Nm.text_beq, T.lay_pv]⟩
        obtain ⟨i, hi, rfl⟩ := List.mem_map.mp hd
        exact ⟨i, List.mem_range.mp hi, rfl⟩
      · clear hE hF
        rintro d ds ρ' σ' ⟨hd, hr1, hr2, hr3, hr4, g, rfl⟩
        obtain ⟨i, hi, rfl⟩ := hd d (List.mem_cons_self ..)
        have hd' : ∀ d ∈ ds, ∃ i : Nat, i < es.length ∧ d = .int i := fun x hx => hd x (List.mem_cons_of_mem _ hx)
        have hj : (i + 1) % es.length < es.length := Nat.mod_lt _ (by omega)
        obtain ⟨l1, l1e⟩ := List.getElem?_eq_some_iff.mp hcE
        obtain ⟨l2, l2e⟩ := List.getElem?_eq_some_iff.mp hcC
        obtain ⟨l3, l3e⟩ := List.getElem?_eq_some_iff.mp hcR
        have f3 : (0 : Int) < es.length ∧ (es.length : Int) < 1000000000 := by omega
        have f3' : 0 < es.length := by omega
        have f3'' : es.length < 1000000000 := by omega
        have f4 : ((i : Int) + 1) % (es.length : Int) = (((i + 1) % es.length : Nat) : Int) := by simp [evSs, evS, evE, evEs, evT, evA, evB, evC, evO, evI, evF, ofString_inj, ofString_beq, strOk_ofString, strOk_append, M.then, bind_at, pure_at, fail_at, lift_some_at, lift_none_at, ite_at, isGlob, varOf, Vars.of, Vars.setAll, Vars.set, constOf, item, pickAt, cmpop, eqTop, PV.lay, PV.lays, PV.depth, PV.depths, binop, List.lookup_cons, plainArgs, const1, exn1, fuel1, isDef1, places1, consts1, exns1, bnames, callBuiltin, lenOf, small, canStore, pyEq, PV.toD, PV.toDs, PyData.eqv, PyData.eqvAll, getList, newCell, setCell, slice, bound, cut, textOk, empty_append, andor, oror, andand, orand, strOk_num, strOk_v, strOk_n, strOk_nm, strOk_fr, v_lam, v_app, v_fr, fr_lam, fr_app, v_take, v_drop, fr_take, List.getElem?_append, fieldText, relab, compOk, Vars.comp, Nm.text_beq, T.lay_pv]
        generalize (i + 1) % es.length = j at hj f4
        have he1 : es[i]? = some es[i] := List.getElem?_eq_getElem hi
        have he2 : es[j]? = some es[j] := List.getElem?_eq_getElem hj
        have g1 := hgood _ (List.getElem_mem hi)
        have g2 := hgood _ (List.getElem_mem hj)
        generalize es[i] = ea at he1 g1
        generalize es[j] = eb at he2 g2
        have f6 : i < 4611686018427387904 := by omega
        have f7 : j < 4611686018427387904 := by omega
        have zA : (core [] ea.u).size ≤ 150 := by rw [core_size]; exact g1.2.2.2.2.2.2
        have zB : (core [] eb.u).size ≤ 150 := by rw [core_size]; exact g2.2.2.2.2.2.2
        have tA := (told_spec _ _ _ _ _ _ v g1.2.1 g2.2.1 (by have := g1.2.2.1; omega) (by have := g2.2.2.1; omega) zA n (by omega)).at
        have tB := (told_spec _ _ _ _ _ _ v g2.2.1 g1.2.1 (by have := g2.2.2.1; omega) (by have := g1.2.2.1; omega) zB n (by omega)).at
        rw [B.eqv_comm (core [] eb.u)] at tB
        by_cases hm : ea.n ≤ v ∧ eb.n ≤ v
        · rw [if_pos hm] at tA
          rw [if_pos ⟨hm.2, hm.1⟩] at tB
          have hm3 : max (ea.n : Int) (eb.n : Int) ≤ (v : Int) := by omega
          obtain ⟨gA, hA⟩ := core_spec ea.u [] (T.ok_closed _ _ g1.2.2.2.2.1.1) (by have := g1.2.2.2.2.2.2; simp [evSs, evS, evE, evEs, evT, evA, evB, evC, evO, evI, evF, ofString_inj, ofString_beq, strOk_ofString, strOk_append, M.then, bind_at, pure_at, fail_at, lift_some_at, lift_none_at, ite_at, isGlob, varOf, Vars.of, Vars.setAll, Vars.set, constOf, item, pickAt, cmpop, eqTop, PV.lay, PV.lays, PV.depth, PV.depths, binop, List.lookup_cons, plainArgs, const1, exn1, fuel1, isDef1, places1, consts1, exns1, bnames, callBuiltin, lenOf, small, canStore, pyEq, PV.toD, PV.toDs, PyData.eqv, PyData.eqvAll, getList, newCell, setCell, slice, bound, cut, textOk, empty_append, andor, oror, andand, orand, strOk_num, strOk_v, strOk_n, strOk_nm, strOk_fr, v_lam, v_app, v_fr, fr_lam, fr_app, v_take, v_drop, fr_take, List.getElem?_append, fieldText, relab, compOk, Vars.comp, Nm.text_beq, T.lay_pv]; omega) n (by have := g1.2.2.2.2.2.2; omega) (σ11 ++ g ++ [Cell.list []]) (σ11 ++ g).length (by simp [evSs, evS, evE, evEs, evT, evA, evB, evC, evO, evI, evF, ofString_inj, ofString_beq, strOk_ofString, strOk_append, M.then, bind_at, pure_at, fail_at, lift_some_at, lift_none_at, ite_at, isGlob, varOf, Vars.of, Vars.setAll, Vars.set, constOf, item, pickAt, cmpop, eqTop, PV.lay, PV.lays, PV.depth, PV.depths, binop, List.lookup_cons, plainArgs, const1, exn1, fuel1, isDef1, places1, consts1, exns1, bnames, callBuiltin, lenOf, small, canStore, pyEq, PV.toD, PV.toDs, PyData.eqv, PyData.eqvAll, getList, newCell, setCell, slice, bound, cut, textOk, empty_append, andor, oror, andand, orand, strOk_num, strOk_v, strOk_n, strOk_nm, strOk_fr, v_lam, v_app, v_fr, fr_lam, fr_app, v_take, v_drop, fr_take, List.getElem?_append, fieldText, relab, compOk, Vars.comp, Nm.text_beq, T.lay_pv, envPV])
          obtain ⟨gB, hB⟩ := core_spec eb.u [] (T.ok_closed _ _ g2.2.2.2.2.1.1) (by have := g2.2.2.2.2.2.2; simp [evSs, evS, evE, evEs, evT, evA, evB, evC, evO, evI, evF, ofString_inj, ofString_beq, strOk_ofString, strOk_append, M.then, bind_at, pure_at, fail_at, lift_some_at, lift_none_at, ite_at, isGlob, varOf, Vars.of, Vars.setAll, Vars.set, constOf, item, pickAt, cmpop, eqTop, PV.lay, PV.lays, PV.depth, PV.depths, binop, List.lookup_cons, plainArgs, const1, exn1, fuel1, isDef1, places1, consts1, exns1, bnames, callBuiltin, lenOf, small, canStore, pyEq, PV.toD, PV.toDs, PyData.eqv, PyData.eqvAll, getList, newCell, setCell, slice, bound, cut, textOk, empty_append, andor, oror, andand, orand, strOk_num, strOk_v, strOk_n, strOk_nm, strOk_fr, v_lam, v_app, v_fr, fr_lam, fr_app, v_take, v_drop, fr_take, List.getElem?_append, fieldText, relab, compOk, Vars.comp, Nm.text_beq, T.lay_pv]; omega) n (by have := g2.2.2.2.2.2.2; omega) (σ11 ++ g ++ [Cell.list []] ++ gA ++ [Cell.list []]) (σ11 ++ g ++ [Cell.list []] ++ gA).length (by simp [evSs, evS, evE, evEs, evT, evA, evB, evC, evO, evI, evF, ofString_inj, ofString_beq, strOk_ofString, strOk_append, M.then, bind_at, pure_at, fail_at, lift_some_at, lift_none_at, ite_at, isGlob, varOf, Vars.of, Vars.setAll, Vars.set, constOf, item, pickAt, cmpop, eqTop, PV.lay, PV.lays, PV.depth, PV.depths, binop, List.lookup_cons, plainArgs, const1, exn1, fuel1, isDef1, places1, consts1, exns1, bnames, callBuiltin, lenOf, small, canStore, pyEq, PV.toD, PV.toDs, PyData.eqv, PyData.eqvAll, getList, newCell, setCell, slice, bound, cut, textOk, empty_append, andor, oror, andand, orand, strOk_num, strOk_v, strOk_n, strOk_nm, strOk_fr, v_lam, v_app, v_fr, fr_lam, fr_app, v_take, v_drop, fr_take, List.getElem?_append, fieldText, relab, compOk, Vars.comp, Nm.text_beq, T.lay_pv, envPV])
          have y1 := B.lay_pv (core [] ea.u)
          have y2 := B.lay_pv (core [] eb.u)
          have y3 : (core [] ea.u).pv.depth < 2000 := by have := B.depth_pv (core [] ea.u); omega
          obtain ⟨p1, ep1⟩ : ∃ l, (core [] ea.u).pv = .tup l := (B.pv_kids (core [] ea.u)).elim fun w h => ⟨_, h⟩
          obtain ⟨p2, ep2⟩ : ∃ l, (core [] eb.u).pv = .tup l := (B.pv_kids (core [] eb.u)).elim fun w h => ⟨_, h⟩
          rw [ep1] at y1 y3 tA tB hA
          rw [ep2] at y2 tA tB hB
          simp [evSs, evS, evE, evEs, evT, evA, evB, evC, evO, evI, evF, ofString_inj, ofString_beq, strOk_ofString, strOk_append, M.then, bind_at, pure_at, fail_at, lift_some_at, lift_none_at, ite_at, isGlob, varOf, Vars.of, Vars.setAll, Vars.set, constOf, item, pickAt, cmpop, eqTop, PV.lay, PV.lays, PV.depth, PV.depths, binop, List.lookup_cons, plainArgs, const1, exn1, fuel1, isDef1, places1, consts1, exns1, bnames, callBuiltin, lenOf, small, canStore, pyEq, PV.toD, PV.toDs, PyData.eqv, PyData.eqvAll, getList, newCell, setCell, slice, bound, cut, textOk, empty_append, andor, oror, andand, orand, strOk_num, strOk_v, strOk_n, strOk_nm, strOk_fr, v_lam, v_app, v_fr, fr_lam, fr_app, v_take, v_drop, fr_take, List.getElem?_append, fieldText, relab, compOk, Vars.comp, Nm.text_beq, T.lay_pv] at hA hB y1 y2 y3 tA tB
          simp [evSs, evS, evE, evEs, evT, evA, evB, evC, evO, evI, evF, ofString_inj, ofString_beq, strOk_ofString, strOk_append, M.then, bind_at, pure_at, fail_at, lift_some_at, lift_none_at, ite_at, isGlob, varOf, Vars.of, Vars.setAll, Vars.set, constOf, item, pickAt, cmpop, eqTop, PV.lay, PV.lays, PV.depth, PV.depths, binop, List.lookup_cons, plainArgs, const1, exn1, fuel1, isDef1, places1, consts1, exns1, bnames, callBuiltin, lenOf, small, canStore, pyEq, PV.toD, PV.toDs, PyData.eqv, PyData.eqvAll, getList, newCell, setCell, slice, bound, cut, textOk, empty_append, andor, oror, andand, orand, strOk_num, strOk_v, strOk_n, strOk_nm, strOk_fr, v_lam, v_app, v_fr, fr_lam, fr_app, v_take, v_drop, fr_take, List.getElem?_append, fieldText, relab, compOk, Vars.comp, Nm.text_beq, T.lay_pv, hr1, hr2, hr3, hr4, l1, l1e, l2, l2e, l3, l3e, hel, f3, f3', f3'', f4, he1, he2, f6, f7, hm3, hA, hB, y1, y2, y3, tA, tB]
          exact ⟨by simp [evSs, evS, evE, evEs, evT, evA, evB, evC, evO, evI, evF, ofString_inj, ofString_beq, strOk_ofString, strOk_append, M.then, bind_at, pure_at, fail_at, lift_some_at, lift_none_at, ite_at, isGlob, varOf, Vars.of, Vars.setAll, Vars.set, constOf, item, pickAt, cmpop, eqTop, PV.lay, PV.lays, PV.depth, PV.depths, binop, List.lookup_cons, plainArgs, const1, exn1, fuel1, isDef1, places1, consts1, exns1, bnames, callBuiltin, lenOf, small, canStore, pyEq, PV.toD, PV.toDs, PyData.eqv, PyData.eqvAll, getList, newCell, setCell, slice, bound, cut, textOk, empty_append, andor, oror, andand, orand, strOk_num, strOk_v, strOk_n, strOk_nm, strOk_fr, v_lam, v_app, v_fr, fr_lam, fr_app, v_take, v_drop, fr_take, List.getElem?_append, fieldText, relab, compOk, Vars.comp, Nm.text_beq, T.lay_pv, stillB], fun d h => hd' d h⟩
        · rw [if_neg hm] at tA
          rw [if_neg (fun h => hm ⟨h.2, h.1⟩)] at tB
          have hm2 : ¬ max (ea.n : Int) (eb.n : Int) ≤ (v : Int) := by omega
          simp [evSs, evS, evE, evEs, evT, evA, evB, evC, evO, evI, evF, ofString_inj, ofString_beq, strOk_ofString, strOk_append, M.then, bind_at, pure_at, fail_at, lift_some_at, lift_none_at, ite_at, isGlob, varOf, Vars.of, Vars.setAll, Vars.set, constOf, item, pickAt, cmpop, eqTop, PV.lay, PV.lays, PV.depth, PV.depths, binop, List.lookup_cons, plainArgs, const1, exn1, fuel1, isDef1, places1, consts1, exns1, bnames, callBuiltin, lenOf, small, canStore, pyEq, PV.toD, PV.toDs, PyData.eqv, PyData.eqvAll, getList, newCell, setCell, slice, bound, cut, textOk, empty_append, andor, oror, andand, orand, strOk_num, strOk_v, strOk_n, strOk_nm, strOk_fr, v_lam, v_app, v_fr, fr_lam, fr_app, v_take, v_drop, fr_take, List.getElem?_append, fieldText, relab, compOk, Vars.comp, Nm.text_beq, T.lay_pv, hr1, hr2, hr3, hr4, l1, l1e, l2, l2e, l3, l3e, hel, f3, f3', f3'', f4, he1, he2, f6, f7, hm, hm2, tA, tB]
          exact ⟨by simp [evSs, evS, evE, evEs, evT, evA, evB, evC, evO, evI, evF, ofString_inj, ofString_beq, strOk_ofString, strOk_append, M.then, bind_at, pure_at, fail_at, lift_some_at, lift_none_at, ite_at, isGlob, varOf, Vars.of, Vars.setAll, Vars.set, constOf, item, pickAt, cmpop, eqTop, PV.lay, PV.lays, PV.depth, PV.depths, binop, List.lookup_cons, plainArgs, const1, exn1, fuel1, isDef1, places1, consts1, exns1, bnames, callBuiltin, lenOf, small, canStore, pyEq, PV.toD, PV.toDs, PyData.eqv, PyData.eqvAll, getList, newCell, setCell, slice, bound, cut, textOk, empty_append, andor, oror, andand, orand, strOk_num, strOk_v, strOk_n, strOk_nm, strOk_fr, v_lam, v_app, v_fr, fr_lam, fr_app, v_take, v_drop, fr_take, List.getElem?_append, fieldText, relab, compOk, Vars.comp, Nm.text_beq, T.lay_pv, stillB], fun d h => hd' d h⟩
      · rintro ρ' σ' _
        exact ⟨_, _, rfl⟩
    obtain ⟨ρ', σ', rfl⟩ := hq
    simp [evSs, evS, evE, evEs, evT, evA, evB, evC, evO, evI, evF, ofString_inj, ofString_beq, strOk_ofString, strOk_append, M.then, bind_at, pure_at, fail_at, lift_some_at, lift_none_at, ite_at, isGlob, varOf, Vars.of, Vars.setAll, Vars.set, constOf, item, pickAt, cmpop, eqTop, PV.lay, PV.lays, PV.depth, PV.depths, binop, List.lookup_cons, plainArgs, const1, exn1, fuel1, isDef1, places1, consts1, exns1, bnames, callBuiltin, lenOf, small, canStore, pyEq, PV.toD, PV.toDs, PyData.eqv, PyData.eqvAll, getList, newCell, setCell, slice, bound, cut, textOk, empty_append, andor, oror, andand, orand, strOk_num, strOk_v, strOk_n, strOk_nm, strOk_fr, v_lam, v_app, v_fr, fr_lam, fr_app, v_take, v_drop, fr_take, List.getElem?_append, fieldText, relab, compOk, Vars.comp, Nm.text_beq, T.lay_pv] at hE
    exact ⟨_, hE.symm⟩
  · exact ⟨[.list ((ns.take 50).map PV.int)], 0, by simp [evSs, evS, evE, evEs, evT, evA, evB, evC, evO, evI, evF, ofString_inj, ofString_beq, strOk_ofString, strOk_append, M.then, bind_at, pure_at, fail_at, lift_some_at, lift_none_at, ite_at, isGlob, varOf, Vars.of, Vars.setAll, Vars.set, constOf, item, pickAt, cmpop, eqTop, PV.lay, PV.lays, PV.depth, PV.depths, binop, List.lookup_cons, plainArgs, const1, exn1, fuel1, isDef1, places1, consts1, exns1, bnames, callBuiltin, lenOf, small, canStore, pyEq, PV.toD, PV.toDs, PyData.eqv, PyData.eqvAll, getList, newCell, setCell, slice, bound, cut, textOk, empty_append, andor, oror, andand, orand, strOk_num, strOk_v, strOk_n, strOk_nm, strOk_fr, v_lam, v_app, v_fr, fr_lam, fr_app, v_take, v_drop, fr_take, List.getElem?_append, fieldText, relab, compOk, Vars.comp, Nm.text_beq, T.lay_pv, e1], by simp [evSs, evS, evE, evEs, evT, evA, evB, evC, evO, evI, evF, ofString_inj, ofString_beq, strOk_ofString, strOk_append, M.then, bind_at, pure_at, fail_at, lift_some_at, lift_none_at, ite_at, isGlob, varOf, Vars.of, Vars.setAll, Vars.set, constOf, item, pickAt, cmpop, eqTop, PV.lay, PV.lays, PV.depth, PV.depths, binop, List.lookup_cons, plainArgs, const1, exn1, fuel1, isDef1, places1, consts1, exns1, bnames, callBuiltin, lenOf, small, canStore, pyEq, PV.toD, PV.toDs, PyData.eqv, PyData.eqvAll, getList, newCell, setCell, slice, bound, cut, textOk, empty_append, andor, oror, andand, orand, strOk_num, strOk_v, strOk_n, strOk_nm, strOk_fr, v_lam, v_app, v_fr, fr_lam, fr_app, v_take, v_drop, fr_take, List.getElem?_append, fieldText, relab, compOk, Vars.comp, Nm.text_beq, T.lay_pv]⟩
  · simp [evSs, evS, evE, evEs, evT, evA, evB, evC, evO, evI, evF, ofString_inj, ofString_beq, strOk_ofString, strOk_append, M.then, bind_at, pure_at, fail_at, lift_some_at, lift_none_at, ite_at, isGlob, varOf, Vars.of, Vars.setAll, Vars.set, constOf, item, pickAt, cmpop, eqTop, PV.lay, PV.lays, PV.depth, PV.depths, binop, List.lookup_cons, plainArgs, const1, exn1, fuel1, isDef1, places1, consts1, exns1, bnames, callBuiltin, lenOf, small, canStore, pyEq, PV.toD, PV.toDs, PyData.eqv, PyData.eqvAll, getList, newCell, setCell, slice, bound, cut, textOk, empty_append, andor, oror, andand, orand, strOk_num, strOk_v, strOk_n, strOk_nm, strOk_fr, v_lam, v_app, v_fr, fr_lam, fr_app, v_take, v_drop, fr_take, List.getElem?_append, fieldText, relab, compOk, Vars.comp, Nm.text_beq, T.lay_pv]; omega
  · intro x hx; exact gives_pure _
  · intro x hx _ σ
    simp [evSs, evS, evE, evEs, evT, evA, evB, evC, evO, evI, evF, ofString_inj, ofString_beq, strOk_ofString, strOk_append, M.then, bind_at, pure_at, fail_at, lift_some_at, lift_none_at, ite_at, isGlob, varOf, Vars.of, Vars.setAll, Vars.set, constOf, item, pickAt, cmpop, eqTop, PV.lay, PV.lays, PV.depth, PV.depths, binop, List.lookup_cons, plainArgs, const1, exn1, fuel1, isDef1, places1, consts1, exns1, bnames, callBuiltin, lenOf, small, canStore, pyEq, PV.toD, PV.toDs, PyData.eqv, PyData.eqvAll, getList, newCell, setCell, slice, bound, cut, textOk, empty_append, andor, oror, andand, orand, strOk_num, strOk_v, strOk_n, strOk_nm, strOk_fr, v_lam, v_app, v_fr, fr_lam, fr_app, v_take, v_drop, fr_take, List.getElem?_append, fieldText, relab, compOk, Vars.comp, Nm.text_beq, T.lay_pv]
end Mine

-- H2
open PySem PySem.W PyProof.Rows
set_option maxHeartbeats 8000000
open_top hd1 for PySem.Challenge.rw_pq0040_01

-- J1
namespace Mine
open PySem PySem.W PyProof.Rows

def objAt (K : Frag) (a : Addr) : Obj := match K.lookup a with
  | some o => o
  | none => { cls := .none, data := .plain }
def fdAt (K : Frag) (a : Addr) : FuncData := match (objAt K a).data with
  | .func fd => fd
  | _ => default
/-- the text's function in the fragment -/
structure FnIn (K : Frag) (D : Def) (a : Addr) : Prop where
  at_ : K.lookup a = some (objAt K a)
  data : (objAt K a).data = .func (fdAt K a)
  code : codeIn K (fdAt K a).code (fdAt K a).qualname = true
  body : (fdAt K a).body = .stmts D.body
  bind : ∀ vals : List Value, vals.length = D.params.length → bindArgs (fdAt K a) ⟨vals, []⟩ = pure (D.params.zip vals)
  clo : (fdAt K a).closure = []
  kind : (fdAt K a).scope.kind = .function
  co : (fdAt K a).scope.isCoroutine = false
  gen : (fdAt K a).scope.isGenerator = false
  names : (fdAt K a).scope.names = D.names
  glob : (fdAt K a).globals = mainGlobals
  bui : (fdAt K a).builtins = builtinsNs
  pars : D.params.all (canStore D.names) = true
theorem FnIn.ok {C : Conf} {D : Def} {a : Addr} (f : FnIn C.K D a) (X : C.K.In C.base) : FnOK C D a (objAt C.K a) (fdAt C.K a) :=
  ⟨X _ _ f.at_, f.data, codeRec_of X f.code, f.body, f.bind, f.clo, f.kind, f.co, f.gen, f.names, f.glob, f.bui, f.pars⟩
theorem len1 {α : Type} {l : List α} (h : l.length = 1) : ∃ a, l = [a] := by
  match l, h with
  | [a], _ => exact ⟨a, rfl⟩
theorem len2 {α : Type} {l : List α} (h : l.length = 2) : ∃ a b, l = [a, b] := by
  match l, h with
  | [a, b], _ => exact ⟨a, b, rfl⟩
theorem len3 {α : Type} {l : List α} (h : l.length = 3) : ∃ a b c, l = [a, b, c] := by
  match l, h with
  | [a, b, c], _ => exact ⟨a, b, c, rfl⟩
theorem len4 {α : Type} {l : List α} (h : l.length = 4) : ∃ a b c d, l = [a, b, c, d] := by
  match l, h with
  | [a, b, c, d], _ => exact ⟨a, b, c, d, rfl⟩
theorem fnIn1_5 (P : Params) : FnIn (hd1.heap_39 P) (defAt PySem.Challenge.pw_pq0040_01 5) 74 :=
  ⟨by kernel_rfl, by kernel_rfl, by kernel_rfl, by kernel_rfl, fun vals hl => by
    obtain ⟨a, b, rfl⟩ := len2 (show vals.length = 2 from hl)
    kernel_rfl, by kernel_rfl, by kernel_rfl, by kernel_rfl, by kernel_rfl, by kernel_rfl, by kernel_rfl, by kernel_rfl, by kernel_rfl⟩
theorem fnIn1_6 (P : Params) : FnIn (hd1.heap_39 P) (defAt PySem.Challenge.pw_pq0040_01 6) 81 :=
  ⟨by kernel_rfl, by kernel_rfl, by kernel_rfl, by kernel_rfl, fun vals hl => by
    obtain ⟨a, b, c, rfl⟩ := len3 (show vals.length = 3 from hl)
    kernel_rfl, by kernel_rfl, by kernel_rfl, by kernel_rfl, by kernel_rfl, by kernel_rfl, by kernel_rfl, by kernel_rfl, by kernel_rfl⟩
theorem fnIn1_11 (P : Params) : FnIn (hd1.heap_39 P) (defAt PySem.Challenge.pw_pq0040_01 11) 86 :=
  ⟨by kernel_rfl, by kernel_rfl, by kernel_rfl, by kernel_rfl, fun vals hl => by
    obtain ⟨a, b, rfl⟩ := len2 (show vals.length = 2 from hl)
    kernel_rfl, by kernel_rfl, by kernel_rfl, by kernel_rfl, by kernel_rfl, by kernel_rfl, by kernel_rfl, by kernel_rfl, by kernel_rfl⟩
theorem fnIn1_12 (P : Params) : FnIn (hd1.heap_39 P) (defAt PySem.Challenge.pw_pq0040_01 12) 93 :=
  ⟨by kernel_rfl, by kernel_rfl, by kernel_rfl, by kernel_rfl, fun vals hl => by
    obtain ⟨a, b, rfl⟩ := len2 (show vals.length = 2 from hl)
    kernel_rfl, by kernel_rfl, by kernel_rfl, by kernel_rfl, by kernel_rfl, by kernel_rfl, by kernel_rfl, by kernel_rfl, by kernel_rfl⟩
theorem fnIn1_13 (P : Params) : FnIn (hd1.heap_39 P) (defAt PySem.Challenge.pw_pq0040_01 13) 100 :=
  ⟨by kernel_rfl, by kernel_rfl, by kernel_rfl, by kernel_rfl, fun vals hl => by
    obtain ⟨a, rfl⟩ := len1 (show vals.length = 1 from hl)
    kernel_rfl, by kernel_rfl, by kernel_rfl, by kernel_rfl, by kernel_rfl, by kernel_rfl, by kernel_rfl, by kernel_rfl, by kernel_rfl⟩
theorem fnIn1_14 (P : Params) : FnIn (hd1.heap_39 P) (defAt PySem.Challenge.pw_pq0040_01 14) 107 :=
  ⟨by kernel_rfl, by kernel_rfl, by kernel_rfl, by kernel_rfl, fun vals hl => by
    obtain ⟨a, rfl⟩ := len1 (show vals.length = 1 from hl)
    kernel_rfl, by kernel_rfl, by kernel_rfl, by kernel_rfl, by kernel_rfl, by kernel_rfl, by kernel_rfl, by kernel_rfl, by kernel_rfl⟩
theorem fnIn1_15 (P : Params) : FnIn (hd1.heap_39 P) (defAt PySem.Challenge.pw_pq0040_01 15) 114 :=
  ⟨by kernel_rfl, by kernel_rfl, by kernel_rfl, by kernel_rfl, fun vals hl => by
    obtain ⟨a, rfl⟩ := len1 (show vals.length = 1 from hl)
    kernel_rfl, by kernel_rfl, by kernel_rfl, by kernel_rfl, by kernel_rfl, by kernel_rfl, by kernel_rfl, by kernel_rfl, by kernel_rfl⟩
theorem fnIn1_16 (P : Params) : FnIn (hd1.heap_39 P) (defAt PySem.Challenge.pw_pq0040_01 16) 119 :=
  ⟨by kernel_rfl, by kernel_rfl, by kernel_rfl, by kernel_rfl, fun vals hl => by
    obtain ⟨a, b, c, d, rfl⟩ := len4 (show vals.length = 4 from hl)
    kernel_rfl, by kernel_rfl, by kernel_rfl, by kernel_rfl, by kernel_rfl, by kernel_rfl, by kernel_rfl, by kernel_rfl, by kernel_rfl⟩
theorem fnIn1_17 (P : Params) : FnIn (hd1.heap_39 P) (defAt PySem.Challenge.pw_pq0040_01 17) 126 :=
  ⟨by kernel_rfl, by kernel_rfl, by kernel_rfl, by kernel_rfl, fun vals hl => by
    obtain ⟨a, b, c, rfl⟩ := len3 (show vals.length = 3 from hl)
    kernel_rfl, by kernel_rfl, by kernel_rfl, by kernel_rfl, by kernel_rfl, by kernel_rfl, by kernel_rfl, by kernel_rfl, by kernel_rfl⟩
theorem fnIn1_18 (P : Params) : FnIn (hd1.heap_39 P) (defAt PySem.Challenge.pw_pq0040_01 18) 131 :=
  ⟨by kernel_rfl, by kernel_rfl, by kernel_rfl, by kernel_rfl, fun vals hl => by
    obtain ⟨a, b, c, rfl⟩ := len3 (show vals.length = 3 from hl)
    kernel_rfl, by kernel_rfl, by kernel_rfl, by kernel_rfl, by kernel_rfl, by kernel_rfl, by kernel_rfl, by kernel_rfl, by kernel_rfl⟩
theorem fnIn1_19 (P : Params) : FnIn (hd1.heap_39 P) (defAt PySem.Challenge.pw_pq0040_01 19) 138 :=
  ⟨by kernel_rfl, by kernel_rfl, by kernel_rfl, by kernel_rfl, fun vals hl => by
    obtain ⟨a, rfl⟩ := len1 (show vals.length = 1 from hl)
    kernel_rfl, by kernel_rfl, by kernel_rfl, by kernel_rfl, by kernel_rfl, by kernel_rfl, by kernel_rfl, by kernel_rfl, by kernel_rfl⟩
theorem fnIn1_20 (P : Params) : FnIn (hd1.heap_39 P) (defAt PySem.Challenge.pw_pq0040_01 20) 145 :=
  ⟨by kernel_rfl, by kernel_rfl, by kernel_rfl, by kernel_rfl, fun vals hl => by
    obtain ⟨a, b, rfl⟩ := len2 (show vals.length = 2 from hl)
    kernel_rfl, by kernel_rfl, by kernel_rfl, by kernel_rfl, by kernel_rfl, by kernel_rfl, by kernel_rfl, by kernel_rfl, by kernel_rfl⟩
theorem fnIn1_21 (P : Params) : FnIn (hd1.heap_39 P) (defAt PySem.Challenge.pw_pq0040_01 21) 152 :=
  ⟨by kernel_rfl, by kernel_rfl, by kernel_rfl, by kernel_rfl, fun vals hl => by
    obtain ⟨a, rfl⟩ := len1 (show vals.length = 1 from hl)
    kernel_rfl, by kernel_rfl, by kernel_rfl, by kernel_rfl, by kernel_rfl, by kernel_rfl, by kernel_rfl, by kernel_rfl, by kernel_rfl⟩
theorem fnIn1_22 (P : Params) : FnIn (hd1.heap_39 P) (defAt PySem.Challenge.pw_pq0040_01 22) 157 :=
  ⟨by kernel_rfl, by kernel_rfl, by kernel_rfl, by kernel_rfl, fun vals hl => by
    obtain ⟨a, rfl⟩ := len1 (show vals.length = 1 from hl)
    kernel_rfl, by kernel_rfl, by kernel_rfl, by kernel_rfl, by kernel_rfl, by kernel_rfl, by kernel_rfl, by kernel_rfl, by kernel_rfl⟩
theorem fnIn1_23 (P : Params) : FnIn (hd1.heap_39 P) (defAt PySem.Challenge.pw_pq0040_01 23) 164 :=
  ⟨by kernel_rfl, by kernel_rfl, by kernel_rfl, by kernel_rfl, fun vals hl => by
    obtain ⟨a, b, rfl⟩ := len2 (show vals.length = 2 from hl)
    kernel_rfl, by kernel_rfl, by kernel_rfl, by kernel_rfl, by kernel_rfl, by kernel_rfl, by kernel_rfl, by kernel_rfl, by kernel_rfl⟩
theorem fnIn1_24 (P : Params) : FnIn (hd1.heap_39 P) (defAt PySem.Challenge.pw_pq0040_01 24) 171 :=
  ⟨by kernel_rfl, by kernel_rfl, by kernel_rfl, by kernel_rfl, fun vals hl => by
    obtain ⟨a, b, c, rfl⟩ := len3 (show vals.length = 3 from hl)
    kernel_rfl, by kernel_rfl, by kernel_rfl, by kernel_rfl, by kernel_rfl, by kernel_rfl, by kernel_rfl, by kernel_rfl, by kernel_rfl⟩
theorem fnIn1_26 (P : Params) : FnIn (hd1.heap_39 P) (defAt PySem.Challenge.pw_pq0040_01 26) 178 :=
  ⟨by kernel_rfl, by kernel_rfl, by kernel_rfl, by kernel_rfl, fun vals hl => by
    obtain ⟨a, b, rfl⟩ := len2 (show vals.length = 2 from hl)
    kernel_rfl, by kernel_rfl, by kernel_rfl, by kernel_rfl, by kernel_rfl, by kernel_rfl, by kernel_rfl, by kernel_rfl, by kernel_rfl⟩
theorem fnIn1_27 (P : Params) : FnIn (hd1.heap_39 P) (defAt PySem.Challenge.pw_pq0040_01 27) 185 :=
  ⟨by kernel_rfl, by kernel_rfl, by kernel_rfl, by kernel_rfl, fun vals hl => by
    obtain ⟨a, rfl⟩ := len1 (show vals.length = 1 from hl)
    kernel_rfl, by kernel_rfl, by kernel_rfl, by kernel_rfl, by kernel_rfl, by kernel_rfl, by kernel_rfl, by kernel_rfl, by kernel_rfl⟩
theorem fnIn1_28 (P : Params) : FnIn (hd1.heap_39 P) (defAt PySem.Challenge.pw_pq0040_01 28) 192 :=
  ⟨by kernel_rfl, by kernel_rfl, by kernel_rfl, by kernel_rfl, fun vals hl => by
    obtain ⟨a, b, c, d, rfl⟩ := len4 (show vals.length = 4 from hl)
    kernel_rfl, by kernel_rfl, by kernel_rfl, by kernel_rfl, by kernel_rfl, by kernel_rfl, by kernel_rfl, by kernel_rfl, by kernel_rfl⟩
theorem fnIn1_29 (P : Params) : FnIn (hd1.heap_39 P) (defAt PySem.Challenge.pw_pq0040_01 29) 197 :=
  ⟨by kernel_rfl, by kernel_rfl, by kernel_rfl, by kernel_rfl, fun vals hl => by
    obtain ⟨a, rfl⟩ := len1 (show vals.length = 1 from hl)
    kernel_rfl, by kernel_rfl, by kernel_rfl, by kernel_rfl, by kernel_rfl, by kernel_rfl, by kernel_rfl, by kernel_rfl, by kernel_rfl⟩
theorem fnIn1_30 (P : Params) : FnIn (hd1.heap_39 P) (defAt PySem.Challenge.pw_pq0040_01 30) 204 :=
  ⟨by kernel_rfl, by kernel_rfl, by kernel_rfl, by kernel_rfl, fun vals hl => by
    obtain ⟨a, b, rfl⟩ := len2 (show vals.length = 2 from hl)
    kernel_rfl, by kernel_rfl, by kernel_rfl, by kernel_rfl, by kernel_rfl, by kernel_rfl, by kernel_rfl, by kernel_rfl, by kernel_rfl⟩
theorem fnIn1_31 (P : Params) : FnIn (hd1.heap_39 P) (defAt PySem.Challenge.pw_pq0040_01 31) 211 :=
  ⟨by kernel_rfl, by kernel_rfl, by kernel_rfl, by kernel_rfl, fun vals hl => by
    obtain ⟨a, b, c, rfl⟩ := len3 (show vals.length = 3 from hl)
    kernel_rfl, by kernel_rfl, by kernel_rfl, by kernel_rfl, by kernel_rfl, by kernel_rfl, by kernel_rfl, by kernel_rfl, by kernel_rfl⟩
theorem fnIn1_32 (P : Params) : FnIn (hd1.heap_39 P) (defAt PySem.Challenge.pw_pq0040_01 32) 216 :=
  ⟨by kernel_rfl, by kernel_rfl, by kernel_rfl, by kernel_rfl, fun vals hl => by
    obtain ⟨a, b, c, rfl⟩ := len3 (show vals.length = 3 from hl)
    kernel_rfl, by kernel_rfl, by kernel_rfl, by kernel_rfl, by kernel_rfl, by kernel_rfl, by kernel_rfl, by kernel_rfl, by kernel_rfl⟩
theorem fnIn1_33 (P : Params) : FnIn (hd1.heap_39 P) (defAt PySem.Challenge.pw_pq0040_01 33) 223 :=
  ⟨by kernel_rfl, by kernel_rfl, by kernel_rfl, by kernel_rfl, fun vals hl => by
    obtain ⟨a, rfl⟩ := len1 (show vals.length = 1 from hl)
    kernel_rfl, by kernel_rfl, by kernel_rfl, by kernel_rfl, by kernel_rfl, by kernel_rfl, by kernel_rfl, by kernel_rfl, by kernel_rfl⟩
theorem fnIn1_34 (P : Params) : FnIn (hd1.heap_39 P) (defAt PySem.Challenge.pw_pq0040_01 34) 230 :=
  ⟨by kernel_rfl, by kernel_rfl, by kernel_rfl, by kernel_rfl, fun vals hl => by
    obtain ⟨a, rfl⟩ := len1 (show vals.length = 1 from hl)
    kernel_rfl, by kernel_rfl, by kernel_rfl, by kernel_rfl, by kernel_rfl, by kernel_rfl, by kernel_rfl, by kernel_rfl, by kernel_rfl⟩
theorem fnIn1_35 (P : Params) : FnIn (hd1.heap_39 P) (defAt PySem.Challenge.pw_pq0040_01 35) 235 :=
  ⟨by kernel_rfl, by kernel_rfl, by kernel_rfl, by kernel_rfl, fun vals hl => by
    obtain ⟨a, b, rfl⟩ := len2 (show vals.length = 2 from hl)
    kernel_rfl, by kernel_rfl, by kernel_rfl, by kernel_rfl, by kernel_rfl, by kernel_rfl, by kernel_rfl, by kernel_rfl, by kernel_rfl⟩
theorem fnIn1_36 (P : Params) : FnIn (hd1.heap_39 P) (defAt PySem.Challenge.pw_pq0040_01 36) 240 :=
  ⟨by kernel_rfl, by kernel_rfl, by kernel_rfl, by kernel_rfl, fun vals hl => by
    obtain ⟨a, rfl⟩ := len1 (show vals.length = 1 from hl)
    kernel_rfl, by kernel_rfl, by kernel_rfl, by kernel_rfl, by kernel_rfl, by kernel_rfl, by kernel_rfl, by kernel_rfl, by kernel_rfl⟩
theorem fnIn1_37 (P : Params) : FnIn (hd1.heap_39 P) (defAt PySem.Challenge.pw_pq0040_01 37) 247 :=
  ⟨by kernel_rfl, by kernel_rfl, by kernel_rfl, by kernel_rfl, fun vals hl => by
    obtain ⟨a, b, rfl⟩ := len2 (show vals.length = 2 from hl)
    kernel_rfl, by kernel_rfl, by kernel_rfl, by kernel_rfl, by kernel_rfl, by kernel_rfl, by kernel_rfl, by kernel_rfl, by kernel_rfl⟩
theorem fnIn1_38 (P : Params) : FnIn (hd1.heap_39 P) (defAt PySem.Challenge.pw_pq0040_01 38) 254 :=
  ⟨by kernel_rfl, by kernel_rfl, by kernel_rfl, by kernel_rfl, fun vals hl => by
    obtain ⟨a, b, c, rfl⟩ := len3 (show vals.length = 3 from hl)
    kernel_rfl, by kernel_rfl, by kernel_rfl, by kernel_rfl, by kernel_rfl, by kernel_rfl, by kernel_rfl, by kernel_rfl, by kernel_rfl⟩
theorem fnIn1_39 (P : Params) : FnIn (hd1.heap_39 P) (defAt PySem.Challenge.pw_pq0040_01 39) 259 :=
  ⟨by kernel_rfl, by kernel_rfl, by kernel_rfl, by kernel_rfl, fun vals hl => by
    obtain ⟨a, rfl⟩ := len1 (show vals.length = 1 from hl)
    kernel_rfl, by kernel_rfl, by kernel_rfl, by kernel_rfl, by kernel_rfl, by kernel_rfl, by kernel_rfl, by kernel_rfl, by kernel_rfl⟩
def addrs1 : List (Str × Nat × Addr) := [("part_at", 5, 74), ("replaced", 6, 81), ("is_row_of", 11, 86), ("number_behind", 12, 93), ("index_of", 13, 100), ("variable", 14, 107), ("below", 15, 114), ("moved_within", 16, 119), ("shifted", 17, 126), ("put_in", 18, 131), ("is_redex", 19, 138), ("beta", 20, 145), ("first_redex", 21, 152), ("is_beyond", 22, 157), ("normal", 23, 164), ("alike_to", 24, 171), ("_law_pick", 26, 178), ("_law_name", 27, 185), ("_law_tree", 28, 192), ("_law_spots", 29, 197), ("_law_part", 30, 204), ("_law_with", 31, 211), ("_law_put", 32, 216), ("_law_is_app_of_lam", 33, 223), ("_law_worked", 34, 230), ("_law_turned", 35, 235), ("_law_end", 36, 240), ("_law_core", 37, 247), ("_law_told", 38, 254)]
end Mine

-- J2
namespace Mine
open PySem PySem.W PyProof.Rows
variable [Z : Inhabited Frozen]

def cls1 : Exn → Addr
  | .term => 53
  | .limit => 65
/-- the world of a call -/
noncomputable def conf1 (w : World) (h : Heap) (mg mb : Str → Option Value) : Conf := { prog := PySem.Challenge.pw_pq0040_01, w := w, base := h, K := hd1.heap_39 w.params, mg := mg, mb := mb, cls := cls1 }

theorem no_cells {ns : List (Str × NameKind)} (h : (ns.all fun z => z.2 != .cell) = true) : ∀ z ∈ ns, z.2 ≠ .cell := fun z hz => by
  have := List.all_eq_true.mp h z hz
  simpa using this
section
variable {w : World} {h : Heap} {mg mb : Str → Option Value}
theorem makes1_term (hgs : mg "super" = none) : Makes (conf1 w h mg mb) .term :=
  makes_ok (k := .term) (C := conf1 w h mg mb) (fI := 30) (N := 52) (cc := 18) (cda := 29) (D := 40) (fd := fdAt (hd1.heap_39 w.params) 30) (hC := rfl) (hB := by kernel_rfl) (hA := by kernel_rfl) (hN := by kernel_rfl) (hi := by kernel_rfl) (hft := by kernel_rfl)
    (hf := rfl) (hbody := rfl) (hline := by kernel_rfl) (hbind := fun a b => by kernel_rfl) (hp := rfl) (har := by kernel_rfl) (hclo := by kernel_rfl) (hcode := by kernel_rfl) (hglob := by kernel_rfl) (hbui := by kernel_rfl)
    (hk := by kernel_rfl) (hco := by kernel_rfl) (hgen := by kernel_rfl) (hcells := no_cells (by kernel_rfl)) (hks := by kernel_rfl) (hkc := by kernel_rfl) (hka := by kernel_rfl) (hkw := by kernel_rfl)
    (hcda := rfl) (hvs := rfl) (hfile := by kernel_rfl) (htop := by kernel_rfl) (hcd := by kernel_rfl) (hcell := rfl) (hD := rfl) (hsubD := by kernel_rfl) (hsubE := by kernel_rfl) (hopq := by kernel_rfl) (hal := by kernel_rfl)
    (hpass := fun v => by kernel_rfl) (hw := by kernel_rfl) (hset := by kernel_rfl) (ho := by kernel_rfl) (hgs := hgs) (hbs := by kernel_rfl)
theorem makes1_limit (hgs : mg "super" = none) : Makes (conf1 w h mg mb) .limit :=
  makes_ok (k := .limit) (C := conf1 w h mg mb) (fI := 30) (N := 64) (cc := 18) (cda := 29) (D := 40) (fd := fdAt (hd1.heap_39 w.params) 30) (hC := rfl) (hB := by kernel_rfl) (hA := by kernel_rfl) (hN := by kernel_rfl) (hi := by kernel_rfl) (hft := by kernel_rfl)
    (hf := rfl) (hbody := rfl) (hline := by kernel_rfl) (hbind := fun a b => by kernel_rfl) (hp := rfl) (har := by kernel_rfl) (hclo := by kernel_rfl) (hcode := by kernel_rfl) (hglob := by kernel_rfl) (hbui := by kernel_rfl)
    (hk := by kernel_rfl) (hco := by kernel_rfl) (hgen := by kernel_rfl) (hcells := no_cells (by kernel_rfl)) (hks := by kernel_rfl) (hkc := by kernel_rfl) (hka := by kernel_rfl) (hkw := by kernel_rfl)
    (hcda := rfl) (hvs := rfl) (hfile := by kernel_rfl) (htop := by kernel_rfl) (hcd := by kernel_rfl) (hcell := rfl) (hD := rfl) (hsubD := by kernel_rfl) (hsubE := by kernel_rfl) (hopq := by kernel_rfl) (hal := by kernel_rfl)
    (hpass := fun v => by kernel_rfl) (hw := by kernel_rfl) (hset := by kernel_rfl) (ho := by kernel_rfl) (hgs := hgs) (hbs := by kernel_rfl)

theorem mg1 (KX : (hd1.heap_39 w.params).In h) (G : h.Ns mainGlobals mg) : ∀ p ∈ addrs1, mg p.1 = some (.ref p.2.2) ∧ fnIn (hd1.heap_39 w.params) p.2.2 = true ∧ FnIn (hd1.heap_39 w.params) (defAt PySem.Challenge.pw_pq0040_01 p.2.1) p.2.2 := by
  unfold addrs1
  repeat' (first | (refine List.forall_mem_cons.mpr ⟨⟨mg_of KX G (by kernel_rfl), by kernel_rfl, ?_⟩, ?_⟩) | exact List.forall_mem_nil _)
  · exact fnIn1_5 _
  · exact fnIn1_6 _
  · exact fnIn1_11 _
  · exact fnIn1_12 _
  · exact fnIn1_13 _
  · exact fnIn1_14 _
  · exact fnIn1_15 _
  · exact fnIn1_16 _
  · exact fnIn1_17 _
  · exact fnIn1_18 _
  · exact fnIn1_19 _
  · exact fnIn1_20 _
  · exact fnIn1_21 _
  · exact fnIn1_22 _
  · exact fnIn1_23 _
  · exact fnIn1_24 _
  · exact fnIn1_26 _
  · exact fnIn1_27 _
  · exact fnIn1_28 _
  · exact fnIn1_29 _
  · exact fnIn1_30 _
  · exact fnIn1_31 _
  · exact fnIn1_32 _
  · exact fnIn1_33 _
  · exact fnIn1_34 _
  · exact fnIn1_35 _
  · exact fnIn1_36 _
  · exact fnIn1_37 _
  · exact fnIn1_38 _

theorem places_addrs (f : Str) (k : Nat) (e : places1.lookup f = some k) : ∃ a, (f, k, a) ∈ addrs1 := by
  have hm := mem_of_lookup e
  have : ∀ p ∈ places1, ∃ a, (p.1, p.2, a) ∈ addrs1 := by
    have key : ∀ p ∈ places1, p ∈ addrs1.map (fun q => (q.1, q.2.1)) := by
      rw [show addrs1.map (fun q => (q.1, q.2.1)) = places1 from rfl]; exact fun p h => h
    intro p hp
    obtain ⟨⟨x, y, z⟩, hq, e⟩ := List.mem_map.mp (key p hp)
    dsimp only at e
    subst e
    exact ⟨z, hq⟩
  exact this (f, k) hm

theorem text1 (KX : (hd1.heap_39 w.params).In h) (G : h.Ns mainGlobals mg) : TextOK (conf1 w h mg mb) T1 where
  defs := fun f D e => by
    change (places1.lookup f).map _ = some D at e
    obtain ⟨k, hk, rfl⟩ := Option.map_eq_some_iff.mp e
    obtain ⟨a, ha⟩ := places_addrs f k hk
    obtain ⟨h1, h2, h3⟩ := mg1 KX G _ ha
    exact ⟨a, _, _, h1, h2, FnIn.ok (C := conf1 w h mg mb) h3 KX⟩
  undef := by
    have : ∀ f ∈ bnames, mg f = none := by
      unfold bnames
      repeat' (first | (refine List.forall_mem_cons.mpr ⟨mg_none_of KX G (by kernel_rfl), ?_⟩) | exact List.forall_mem_nil _)
    exact fun f hf _ => this f hf
  const := by
    have : ∀ p ∈ consts1, ∃ v, mg p.1 = some v ∧ ∀ β h, VR β h v p.2 := by
      unfold consts1
      exact List.forall_mem_cons.mpr ⟨⟨.str "0123456789" 282, mg_of KX G (by kernel_rfl), fun _ _ => .str _ _⟩, List.forall_mem_cons.mpr ⟨⟨.int 20000 284, mg_of KX G (by kernel_rfl), fun _ _ => .int _ _⟩,
        List.forall_mem_cons.mpr ⟨⟨.int 150 286, mg_of KX G (by kernel_rfl), fun _ _ => .int _ _⟩, List.forall_mem_nil _⟩⟩⟩
    exact fun x d e => this (x, d) (mem_of_lookup e)
  exns := by
    have : ∀ p ∈ exns1, mg p.1 = some (.ref (cls1 p.2)) := by
      unfold exns1
      exact List.forall_mem_cons.mpr ⟨mg_of KX G (by kernel_rfl), List.forall_mem_cons.mpr ⟨mg_of KX G (by kernel_rfl), List.forall_mem_nil _⟩⟩
    exact fun x k e => this (x, k) (mem_of_lookup e)
  exCall := fun k => by cases k <;> kernel_rfl
  exSub := fun k => by cases k <;> kernel_rfl
  exType := fun k => by cases k <;> kernel_rfl
  exMatch := fun k => by cases k <;> kernel_rfl
  make := fun k => by
    have hgs : mg "super" = none := mg_none_of KX G (by kernel_rfl)
    cases k with
    | term => exact makes1_term hgs
    | limit => exact makes1_limit hgs
end
end Mine

-- J3
namespace Mine
open PySem PySem.W PyProof.Rows

theorem ints_vrs [Z : Inhabited Frozen] {vs : List Value} {ns : List Int} (h : IntsAre vs ns) (β : List Addr) (g : Heap) : VRs β g vs (ns.map PV.int) := by
  induction h with
  | nil => exact .nil
  | cons i t _ ih => exact .cons (.int _ _) ih

theorem law_call {w : World} {s : Shared} {mg mb : Str → Option Value} {l : Addr} {vs : List Value} {ns : List Int} {Q E : Value → Shared → Prop}
    (KX : (hd1.heap_39 w.params).In s.heap) (G : s.heap.Ns mainGlobals mg) (B : s.heap.Ns builtinsNs mb) (hb : ∀ x : Str, x ≠ "__name__" → mb x = bootBuiltins x) (hlim : s.heap.NoLimit)
    (hl : s.heap.IsList l vs.toArray) (hI : IntsAre vs ns) (hn : ns.length ≤ 63)
    (hQ : ∀ h' tk, (∀ a o, s.heap.get? a = some o → h'.get? a = some o) → Q (.bool true) { s with heap := h', toks := tk }) :
    wpAny (model PySem.Challenge.pw_pq0040_01 w) callerA (call (.ref 259) [.ref l]) Q E s := by
  letI Z : Inhabited Frozen := ⟨⟨l, ns⟩⟩
  obtain ⟨σ', e⟩ := law_true ns hn 300 (Nat.le_refl _)
  have O : TextOK (conf1 w s.heap mg mb) T1 := text1 KX G
  have I : Inv (conf1 w s.heap mg mb) callerA [] [] s.heap [] := by
    refine ⟨rfl, rfl, fun _ _ e => e, trivial, (fun L hL => by cases hL), ⟨rfl, List.nodup_nil, fun i a c ha _ => by simp at ha⟩, (fun a ha => by cases ha), G, B, hb, hlim, KX, ?_⟩
    exact ⟨vs, hl, fun β h => ints_vrs hI β h⟩
  refine call_ok (C := conf1 w s.heap mg mb) (FnIn.ok (C := conf1 w s.heap mg mb) (fnIn1_39 _) KX) (by decide) (fun env' => snd_at O 300 _ _ (by show 1 + claimMargin + 1 + 300 + 5 < _; decide) (by show 4 + 3 + 3 * 300 + 2100 < _; decide)) e I (.cons .old .nil) ?_
  intro v β' h' tk x S r
  cases r
  exact hQ h' tk fun a o e => x.keep a o e (by simp) (by simp [frs])
end Mine
open PySem PySem.W PyProof.Rows
set_option maxHeartbeats 8000000 in
theorem PySem.Challenge.cw_pq0040_01_holds : PySem.Challenge.rw_pq0040_01.Holds :=
  hd1 (by
    intro w s₀ s₁ mg mb G Y fa o pm cd doc dV kV ho hd hcd hD hmg hg args vals as hpre hlay hrd hwl hlo
    have KX := kIn_of Y
    refine Ground.open G ?_
    intro T B D TE TW
    clear Y G D TE TW hd hcd hD ho B
    have hfa : fa = 259 := by
      have h1 : mg "law" = some (.ref 259) := mg_of KX T.g (by kernel_rfl)
      have h2 : mg "law" = some (.ref fa) := hmg
      rw [h1] at h2
      injection h2 with h2; injection h2 with h2; exact h2.symm
    clear hmg
    subst hfa
    wrow_args hpre hlay hrd hwl hlo
    rename_i ns hs hlay0 hL1 hr1 hl2 as1 as2 l vs as3 hL ra w1 r0 hI hr hc1 hc2
    refine Mine.law_call KX T.g T.b T.builtins T.nolimit hL hI (by omega) fun h' tk keep => ?_
    exact ⟨.inl ⟨_, .bool true, [], rfl, raisesW_false (by wrow_none_raised), .bool _, postW_of (by wrow_shape) (by wtm_val) (by w_fin), fun _ => ⟨List.nodup_nil, fun a ha => by cases ha⟩⟩, .of_keep keep, rfl, .of_eq hg⟩)
