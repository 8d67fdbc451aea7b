import PyProof.Rows.All
import Wide.All
import OpenK.AllK
import Wide.FinOn
import PySem.Challenge.RW_pf0208_01
/-! The counted heap against the law's own heap without counts.
First an interpreter for the part of the language that the text uses, over plain tables, proved sound once (AI, AS1 to AS29); then each function of the text
as an equation on plain data (P1 to P23); then the plain law, that the two machines agree (Q1 to Q11); last the join. -/
set_option Elab.async false
open PySem PySem.W PyProof.Rows
section
set_option maxRecDepth 100000
set_option maxHeartbeats 8000000
open_top hd for PySem.Challenge.rw_pf0208_01
end
namespace Mine
open PySem PySem.W PyProof.Rows
/-! AI -/
section
set_option autoImplicit false
set_option maxRecDepth 100000

inductive AVal where
  | none | bool (b : Bool) | int (i : Int) | str (s : Str) | tup (l : List AVal) | obj (id : Nat) | inst (c : Str) (id : Nat)
  deriving Inhabited

inductive AData where
  | list (l : List AVal)
  | idict (l : List (Int × AVal))
  | sdict (l : List (Str × AVal))
  deriving Inhabited

structure AObj where
  ver : Nat
  data : AData
  deriving Inhabited

structure ASt where
  next : Nat
  get : Nat → AObj

abbrev M (α : Type) := StateT ASt Option α

def fail {α : Type} : M α := fun _ => none
def opt {α : Type} (x : Option α) : M α := fun st => x.map fun a => (a, st)
def ASt.obj? (st : ASt) (id : Nat) : Option AObj := if id < st.next then some (st.get id) else none
def ASt.put (st : ASt) (id : Nat) (d : AData) : ASt := { st with get := fun i => if i = id then ⟨(st.get id).ver + 1, d⟩ else st.get i }
def ASt.new (st : ASt) (d : AData) : ASt := { next := st.next + 1, get := fun i => if i = st.next then ⟨0, d⟩ else st.get i }
def getD (id : Nat) : M AData := fun st => (st.obj? id).map fun o => (o.data, st)
def putD (id : Nat) (d : AData) : M Unit := fun st => if id < st.next then some ((), st.put id d) else none
def newD (d : AData) : M Nat := fun st => some (st.next, st.new d)

structure AEnv where
  sc : Scope
  vars : List (Str × AVal)

def bindable : Option NameKind → Bool
  | some .local | some .cell => true
  | _ => false
def readable : Option NameKind → Bool
  | some .local | some .cell | some .free => true
  | _ => false
def AEnv.get (e : AEnv) (x : Str) : Option AVal := if readable (e.sc.names.lookup x) then e.vars.lookup x else none
def setv (x : Str) (v : AVal) : List (Str × AVal) → List (Str × AVal)
  | [] => [(x, v)]
  | (y, w) :: r => if y == x then (y, v) :: r else (y, w) :: setv x v r
def AEnv.set (e : AEnv) (x : Str) (v : AVal) : Option AEnv := if bindable (e.sc.names.lookup x) then some { e with vars := setv x v e.vars } else none

def getK {κ α : Type} [DecidableEq κ] (k : κ) : List (κ × α) → Option α
  | [] => none
  | (j, v) :: r => if j = k then some v else getK k r
def putK {κ α : Type} [DecidableEq κ] (k : κ) (v : α) : List (κ × α) → List (κ × α)
  | [] => [(k, v)]
  | (j, w) :: r => if j = k then (j, v) :: r else (j, w) :: putK k v r
def delK {κ α : Type} [DecidableEq κ] (k : κ) (l : List (κ × α)) : List (κ × α) := l.filter fun p => decide (p.1 ≠ k)

/-- data that == looks at -/
def dataOf (st : ASt) : Nat → AVal → Option PyData
  | _, .none => some .none
  | _, .bool b => some (.bool b)
  | _, .int i => some (.int i)
  | _, .str s => some (.str s)
  | n + 1, .tup l => (l.mapM (dataOf st n)).map .tuple
  | n + 1, .obj id => match st.obj? id with
    | some ⟨_, .list l⟩ => (l.mapM (dataOf st n)).map .list
    | _ => none
  | _, _ => none
def aeq (a b : AVal) : M Bool := fun st => match dataOf st 8 a, dataOf st 8 b with
  | some x, some y => if x.canLay0 && y.canLay0 then some (PyData.eqv x y, st) else none
  | _, _ => none
def isIn (x : AVal) (l : List AVal) : M Bool := fun st => match dataOf st 8 (.tup l), dataOf st 8 x with
  | some (.tuple xs), some d => if PyData.canLayAll0 xs && d.canLay0 then some (xs.any fun y => PyData.eqv y d, st) else none
  | _, _ => none

def truth : AVal → M Bool
  | .bool b => pure b
  | .obj id => do match ← getD id with
    | .list l => if l.length ≤ 1000000 then pure (!l.isEmpty) else fail
    | _ => fail
  | _ => fail

def smallInt (i : Int) : Bool := decide (-(2 ^ 63) ≤ i) && decide (i < 2 ^ 63)

def cmp (op : CmpOp) (a b : AVal) : M Bool := match op with
  | .Eq => aeq a b
  | .NotEq => do let r ← aeq a b; pure (!r)
  | .Is => match b, a with
    | .none, .none => pure true
    | .none, .inst .. => pure false
    | .none, .int _ => pure false
    | _, _ => fail
  | .IsNot => match b, a with
    | .none, .none => pure false
    | .none, .inst .. => pure true
    | .none, .int _ => pure true
    | _, _ => fail
  | .Lt => match a, b with
    | .int i, .int j => pure (decide (i < j))
    | _, _ => fail
  | .Gt => match a, b with
    | .int i, .int j => pure (decide (i > j))
    | _, _ => fail
  | .In => match b, a with
    | .tup l, x => isIn x l
    | .obj id, .int k => do match ← getD id with
      | .idict l => pure (getK k l).isSome
      | _ => fail
    | _, _ => fail
  | .NotIn => match b, a with
    | .obj id, .int k => do match ← getD id with
      | .idict l => pure (!(getK k l).isSome)
      | _ => fail
    | _, _ => fail
  | _ => fail

def bin (op : Operator) (a b : AVal) : M AVal := match op, a, b with
  | .Add, .int i, .int j => pure (.int (i + j))
  | .Add, .obj i, .obj j => do
    let x ← getD i
    let y ← getD j
    match x, y with
    | .list l, .list m => if l.length + m.length ≤ 1000000 then do let id ← newD (.list (l ++ m)); pure (.obj id) else fail
    | _, _ => fail
  | .Sub, .int i, .int j => pure (.int (i - j))
  | .Mult, .int i, .int j => if Builtin.Int.intBits i ≤ 64 then pure (.int (i * j)) else fail
  | .FloorDiv, .int i, .int j => if j = 0 ∨ Builtin.divisionGoesByPylong i j = true then fail else pure (.int (Int.fdiv i j))
  | .Mod, .int i, .int j => if j = 0 then fail else pure (.int (Int.fmod i j))
  | .Pow, .int i, .int j => if i = 5 ∧ 0 ≤ j ∧ j ≤ 100 then pure (.int (i ^ j.toNat)) else fail
  | _, _, _ => fail

def aug (op : Operator) (a b : AVal) : M AVal := match op, a, b with
  | .Add, .int i, .int j => pure (.int (i + j))
  | .Sub, .int i, .int j => pure (.int (i - j))
  | _, _, _ => fail

def unary (op : UnaryOp) (a : AVal) : M AVal := match op, a with
  | .USub, .int i => pure (.int (-i))
  | .Not, v => do let b ← truth v; pure (.bool (!b))
  | _, _ => fail

def constA : Const → Option AVal
  | .none => some .none
  | .bool b => some (.bool b)
  | .int i => some (.int i)
  | .str s => some (.str s)
  | _ => none

/-- the attributes that instances bear -/
def attrsOf (c : Str) : List Str :=
  if c == ("Cell" : Str) then ["sort", "number", "count", "slots", "colour", "is_buffered", "has_destructor", "is_destructed", "is_freed", "weak"]
  else if c == ("Counted" : Str) then ["cells", "vars", "log", "last", "buffer", "full", "freed", "plan", "tables"]
  else []

def attrGet (o : AVal) (x : Str) : M AVal := match o with
  | .inst c id => if (attrsOf c).contains x then do match ← getD id with
      | .sdict l => opt (getK x l)
      | _ => fail
    else fail
  | _ => fail
def attrSet (o : AVal) (x : Str) (v : AVal) : M Unit := match o with
  | .inst c id => if (attrsOf c).contains x then do match ← getD id with
      | .sdict l => if l.length ≤ 100 then putD id (.sdict (putK x v l)) else fail
      | _ => fail
    else fail
  | _ => fail

def itemGet (o i : AVal) : M AVal := match o, i with
  | .tup l, .int k => if 0 ≤ k ∧ k < 1000 then opt l[k.toNat]? else fail
  | .obj id, .int k => do match ← getD id with
    | .list l => if 0 ≤ k ∧ k < 1000 then opt l[k.toNat]? else fail
    | .idict l => opt (getK k l)
    | _ => fail
  | .obj id, .str x => do match ← getD id with
    | .sdict l => opt (getK x l)
    | _ => fail
  | _, _ => fail
def itemSet (o i v : AVal) : M Unit := match o, i with
  | .obj id, .int k => do match ← getD id with
    | .list l => if 0 ≤ k ∧ k < l.length ∧ l.length ≤ 1000 then putD id (.list (l.set k.toNat v)) else fail
    | .idict l => if l.length ≤ 1000000 then putD id (.idict (putK k v l)) else fail
    | _ => fail
  | .obj id, .str x => do match ← getD id with
    | .sdict l => if l.length ≤ 100 then putD id (.sdict (putK x v l)) else fail
    | _ => fail
  | _, _ => fail
def itemDel (o i : AVal) : M Unit := match o, i with
  | .obj id, .int k => do match ← getD id with
    | .idict l => if (getK k l).isSome ∧ l.length ≤ 1000000 then putD id (.idict (delK k l)) else fail
    | _ => fail
  | _, _ => fail

/-- what stands in a for's head, or in list(..) -/
inductive Src where
  | keys (id : Nat) | values (id : Nat) | items (id : Nat) | lst (id : Nat) | rev (id : Nat) | range (a b : Int) | enum (id : Nat)

def srcItems : Src → M (List AVal)
  | .keys id => do match ← getD id with
    | .idict l => pure (l.map fun p => .int p.1)
    | _ => fail
  | .values id => do match ← getD id with
    | .idict l => pure (l.map fun p => p.2)
    | _ => fail
  | .items id => do match ← getD id with
    | .idict l => pure (l.map fun p => .tup [.int p.1, p.2])
    | _ => fail
  | .lst id => do match ← getD id with
    | .list l => pure l
    | _ => fail
  | .rev id => do match ← getD id with
    | .list l => pure l.reverse
    | _ => fail
  | .range a b => if (0 ≤ a ∧ a ≤ 1000) ∧ -1000 ≤ b ∧ b ≤ 1000 then pure ((List.range (b - a).toNat).map fun (k : Nat) => .int (a + (k : Int))) else fail
  | .enum id => do match ← getD id with
    | .list l => pure (l.zipIdx.map fun p => .tup [.int (p.2 : Int), p.1])
    | _ => fail

def isNameE : Expr → Bool
  | .Name .. => true
  | _ => false
def isTupE : Expr → Bool
  | .Tuple ts _ _ => ts.all isNameE && decide (ts.length < 8)
  | _ => false
def tgtOk : Src → Expr → Bool
  | .lst _, t => isNameE t || isTupE t
  | .enum _, t => isTupE t
  | .items _, _ => false
  | _, t => isNameE t
def Src.id? : Src → Option Nat
  | .keys id | .values id | .items id | .lst id | .rev id | .enum id => some id
  | .range .. => none
def listable : Src → Bool
  | .keys _ | .values _ | .items _ | .lst _ => true
  | _ => false
/-- the container that must stay as it is while it is walked -/
def Src.watch (src : Src) (st : ASt) : Nat := match src with
  | .keys id | .values id | .items id | .lst id | .rev id | .enum id => (st.get id).ver
  | .range .. => 0

def isIntA : AVal → Bool
  | .int _ => true
  | _ => false
def eqIntA (k : Int) : AVal → Bool
  | .int j => j == k
  | _ => false
def mAppend (id : Nat) (l : List AVal) (v : AVal) : M AVal := if l.length ≤ 1000000 then do putD id (.list (l ++ [v])); pure .none else fail
def mExtend (id : Nat) (l : List AVal) (v : AVal) : M AVal := match v with
  | .obj j => if j = id then fail else do match ← getD j with
    | .list m => if l.length + m.length ≤ 1000000 then do putD id (.list (l ++ m)); pure .none else fail
    | _ => fail
  | _ => fail
def mRemove (id : Nat) (l : List AVal) (v : AVal) : M AVal := match v with
  | .int k => if l.all isIntA && l.any (eqIntA k) && decide (l.length ≤ 1000000) then do
      putD id (.list (l.eraseP (eqIntA k))); pure .none
    else fail
  | _ => fail
def mPop (id : Nat) (l : List AVal) : M AVal := match l.getLast? with
  | some v => if l.length ≤ 1000000 then do putD id (.list l.dropLast); pure v else fail
  | none => fail
def mGet (l : List (Int × AVal)) (k : Int) (rest : List AVal) : M AVal := match rest with
  | [] => pure ((getK k l).getD .none)
  | [dflt] => pure ((getK k l).getD dflt)
  | _ => fail
def mPopK (id : Nat) (l : List (Int × AVal)) (k : Int) (rest : List AVal) : M AVal := match rest, getK k l with
  | [], some v => if l.length ≤ 1000000 then do putD id (.idict (delK k l)); pure v else fail
  | _, _ => fail
def methL (id : Nat) (name : Str) (args : List AVal) : M AVal := do match ← getD id with
  | .list l => match args with
    | [v] => if name == ("append" : Str) then mAppend id l v else if name == ("extend" : Str) then mExtend id l v else if name == ("remove" : Str) then mRemove id l v else fail
    | [] => if name == ("pop" : Str) then mPop id l else fail
    | _ => fail
  | _ => fail
def methI (id : Nat) (name : Str) (args : List AVal) : M AVal := do match ← getD id with
  | .idict l => match args with
    | .int k :: rest => if name == ("get" : Str) then mGet l k rest else if name == ("pop" : Str) then mPopK id l k rest else fail
    | _ => fail
  | _ => fail

def badName (x : Str) : Bool := x == ("__debug__" : Str) || x == ("__classdict__" : Str)
def notSuper : Expr → Bool
  | .Call (.Name id _) [] [] _ => id != ("super" : Str)
  | _ => true
def notStar : Expr → Bool
  | .Starred .. => false
  | _ => true
def notSet : Expr → Bool
  | .Set .. => false
  | _ => true
def notSlice : Expr → Bool
  | .Slice .. => false
  | _ => true
def notSD : Expr → Bool
  | .SetComp .. | .DictComp .. => false
  | _ => true
def notComp : Expr → Bool
  | .ListComp .. | .SetComp .. | .DictComp .. => false
  | _ => true
def isGlob (env : AEnv) (f : Str) : Bool := env.sc.names.lookup f == some .globalImplicit && !(f == ("__debug__" : Str))
def nameOfE : Expr → Option Str
  | .Name x _ => some x
  | _ => none
def noDup : List Str → Bool
  | [] => true
  | x :: r => !r.contains x && noDup r
/-- a display stored into names: no two alike, not constants alone -/
def pairOk (t e : Expr) : Bool := match t, e with
  | .Tuple ts _ _, .Tuple vs _ _ => (ts.all fun t => (nameOfE t).isNone) || (noDup (ts.filterMap nameOfE) && !vs.all (constantsAlone 8))
  | _, _ => true

inductive Out where
  | next | ret (v : AVal)

/-- the functions one level below -/
structure Rec where
  ev : Expr → AEnv → M AVal
  ex : Stmt → AEnv → M (Out × AEnv)
  call : Str → List AVal → M AVal
  wh : ((AEnv × ASt) → Option (Sum (AEnv × ASt) ((Out × AEnv) × ASt))) → AEnv × ASt → Option ((Out × AEnv) × ASt)

def evs (r : Rec) (env : AEnv) : List Expr → M (List AVal)
  | [] => pure []
  | e :: rest => do
    let v ← r.ev e env
    let vs ← evs r env rest
    pure (v :: vs)

def exs (r : Rec) : List Stmt → AEnv → M (Out × AEnv)
  | [], env => pure (.next, env)
  | s :: rest, env => do
    match ← r.ex s env with
    | (.next, env') => exs r rest env'
    | x => pure x

/-- bind a target that is names, attributes, places, or a tuple of these -/
def bindT (r : Rec) : Expr → AEnv → AVal → M AEnv
  | .Name x _, env, v => opt (env.set x v)
  | .Attribute o a _, env, v => do
    let ov ← r.ev o env
    attrSet ov a v
    pure env
  | .Subscript o i _, env, v => do
    let ov ← r.ev o env
    let iv ← r.ev i env
    itemSet ov iv v
    pure env
  | _, _, _ => fail
def bindTs (r : Rec) : List Expr → AEnv → List AVal → M AEnv
  | [], env, [] => pure env
  | t :: ts, env, v :: vs => do
    let env' ← bindT r t env v
    bindTs r ts env' vs
  | _, _, _ => fail
def assignT (r : Rec) : Expr → AEnv → AVal → M AEnv
  | .Tuple ts _ _, env, v => match v with
    | .tup vs => bindTs r ts env vs
    | _ => fail
  | t, env, v => bindT r t env v

def srcOf (r : Rec) (env : AEnv) (whole : Expr) : M Src := match whole with
  | .Call (.Attribute o m apos) [] [] pos =>
    if !(notSuper o && apos.endLine == pos.line) then fail else
    if m == ("values" : Str) then do match ← r.ev o env with
      | .obj id => do match ← getD id with | .idict _ => pure (.values id) | _ => fail
      | _ => fail
    else if m == ("items" : Str) then do match ← r.ev o env with
      | .obj id => do match ← getD id with | .idict _ => pure (.items id) | _ => fail
      | _ => fail
    else fail
  | .Call (.Name f _) [e] [] _ =>
    if !(isGlob env f && notStar e) then fail else
    if f == ("reversed" : Str) then do match ← r.ev e env with
      | .obj id => do match ← getD id with | .list _ => pure (.rev id) | _ => fail
      | _ => fail
    else if f == ("enumerate" : Str) then do match ← r.ev e env with
      | .obj id => do match ← getD id with | .list _ => pure (.enum id) | _ => fail
      | _ => fail
    else if f == ("range" : Str) then do match ← r.ev e env with
      | .int b => pure (.range 0 b)
      | _ => fail
    else do match ← r.ev whole env with
      | .obj id => do match ← getD id with | .list _ => pure (.lst id) | .idict _ => pure (.keys id) | _ => fail
      | _ => fail
  | .Call (.Name f _) [e, e'] [] _ =>
    if !(isGlob env f && notStar e && notStar e') then fail else
    if f == ("range" : Str) then do
      let a ← r.ev e env
      let b ← r.ev e' env
      match a, b with
      | .int a, .int b => pure (.range a b)
      | _, _ => fail
    else fail
  | _ => do match ← r.ev whole env with
    | .obj id => do match ← getD id with | .list _ => pure (.lst id) | .idict _ => pure (.keys id) | _ => fail
    | _ => fail

def checkV (src : Src) (ver : Nat) : M Unit := fun st => if src.watch st = ver then some ((), st) else none

def forLoop (r : Rec) (src : Src) (ver : Nat) (target : Expr) (body : List Stmt) : List AVal → AEnv → M (Out × AEnv)
  | [], env => do
    checkV src ver
    pure (.next, env)
  | v :: vs, env => do
    checkV src ver
    let env' ← assignT r target env v
    match ← exs r body env' with
    | (.next, env'') => forLoop r src ver target body vs env''
    | x => pure x

def tests (r : Rec) (env : AEnv) : List Expr → M Bool
  | [] => pure true
  | c :: rest => do
    let v ← r.ev c env
    let b ← truth v
    if b then tests r env rest else pure false

def compLoop (r : Rec) (src : Src) (ver : Nat) (target elt : Expr) (ifs : List Expr) : List AVal → AEnv → M (List AVal)
  | [], _ => do
    checkV src ver
    pure []
  | v :: vs, env => do
    checkV src ver
    let env' ← assignT r target env v
    let b ← tests r env' ifs
    if b then do
      let y ← r.ev elt env'
      let ys ← compLoop r src ver target elt ifs vs env'
      pure (y :: ys)
    else compLoop r src ver target elt ifs vs env'

/-- the names that a comprehension sees: its own, and those of the frame -/
def compEnvA (sc : Scope) (env : AEnv) : AEnv :=
  { sc := sc, vars := env.vars.filter fun p => sc.names.lookup p.1 == some .free }

def compName (sc esc : Scope) (p : Str × NameKind) : Bool := match p.2 with
  | .local => sc.names.lookup p.1 == some .local
  | .cell => false
  | .free => (esc.names.lookup p.1 == some .cell || esc.names.lookup p.1 == some .free) && sc.names.lookup p.1 == some .free
  | _ => true
def compOk (sc esc : Scope) : Bool := (match sc.kind with | .function => true | _ => false) && sc.names.all (compName sc esc)

def compA (r : Rec) (env : AEnv) (elt : Expr) (g : Comprehension) (sc : Scope) : M AVal := if !(notSet g.iter && g.is_async == 0 && compOk sc env.sc) then fail else do
  let src ← srcOf r env g.iter
  let items ← srcItems src
  let ver ← (fun st => some (src.watch st, st) : M Nat)
  let ys ← compLoop r src ver g.target elt g.ifs items (compEnvA sc env)
  if tgtOk src g.target && decide (items.length ≤ 1000000) then do
    let id ← newD (.list ys)
    pure (.obj id)
  else fail

def dictA (r : Rec) (env : AEnv) : List (Option Expr) → List Expr → M (List (AVal × AVal))
  | [], [] => pure []
  | some k :: ks, v :: vs => do
    let kv ← r.ev k env
    let vv ← r.ev v env
    let rest ← dictA r env ks vs
    pure ((kv, vv) :: rest)
  | _, _ => fail
def asInts : List (AVal × AVal) → Option (List (Int × AVal))
  | [] => some []
  | (.int k, v) :: r => (asInts r).map ((k, v) :: ·)
  | _ => none
def asStrs : List (AVal × AVal) → Option (List (Str × AVal))
  | [] => some []
  | (.str k, v) :: r => (asStrs r).map ((k, v) :: ·)
  | _ => none

def insI (a : Int) : List Int → List Int
  | [] => [a]
  | b :: r => if a ≤ b then a :: b :: r else b :: insI a r
def sortI : List Int → List Int
  | [] => []
  | a :: r => insI a (sortI r)
def asInt : AVal → Option Int
  | .int i => some i
  | _ => none

def builtinA (f : Str) (v : AVal) : M AVal :=
  if f == ("len" : Str) then match v with
    | .obj id => do match ← getD id with
      | .list l => if l.length ≤ 1000000 then pure (.int l.length) else fail
      | _ => fail
    | _ => fail
  else if f == ("sum" : Str) then match v with
    | .obj id => do match ← getD id with
      | .list l => do
        let ns ← opt (l.mapM asInt)
        pure (.int ns.sum)
      | _ => fail
    | _ => fail
  else if f == ("sorted" : Str) then match v with
    | .obj id => do match ← getD id with
      | .list l => do
        let ns ← opt (l.mapM asInt)
        if l.length < 64 then do let id' ← newD (.list ((sortI ns).map AVal.int)); pure (.obj id') else fail
      | _ => fail
    | _ => fail
  else fail

def builtin1 (f : Str) : Bool := f == ("len" : Str) || f == ("sum" : Str) || f == ("sorted" : Str)

def boolA (r : Rec) (env : AEnv) (op : BoolOp) : List Expr → M AVal
  | [] => fail
  | [e] => r.ev e env
  | e :: rest => do
    let v ← r.ev e env
    let t ← truth v
    match op, t with
    | .And, false => pure v
    | .Or, true => pure v
    | _, _ => boolA r env op rest

def evF (r : Rec) (e : Expr) (env : AEnv) : M AVal := match e with
  | .Constant c _ _ => opt (constA c)
  | .Name x _ => if badName x then fail else opt (env.get x)
  | .Tuple es _ _ => if !(es.all notStar && decide (es.length ≤ 1000000)) then fail else do let vs ← evs r env es; pure (.tup vs)
  | .List es _ => if !(es.all notStar && decide (es.length ≤ 1000000)) then fail else do
    let vs ← evs r env es
    let id ← newD (.list vs)
    pure (.obj id)
  | .Dict ks vs _ => do
    let kvs ← dictA r env ks vs
    match asInts kvs with
    | some l => if noDup (l.map fun p => Str.ofString (toString p.1)) && decide (l.length ≤ 15) then do let id ← newD (.idict l); pure (.obj id) else fail
    | none => match asStrs kvs with
      | some l => if noDup (l.map (·.1)) && decide (l.length ≤ 15) then do let id ← newD (.sdict l); pure (.obj id) else fail
      | none => fail
  | .Attribute o a _ => if !notSuper o then fail else do let ov ← r.ev o env; attrGet ov a
  | .Subscript o (.Slice none (some u) none _) _ => do
    let ov ← r.ev o env
    let uv ← r.ev u env
    match ov, uv with
    | .obj id, .int n => do match ← getD id with
      | .list l => if 0 ≤ n ∧ n ≤ 1000 ∧ l.length ≤ 1000000 then do let id' ← newD (.list (l.take n.toNat)); pure (.obj id') else fail
      | _ => fail
    | _, _ => fail
  | .Subscript o (.Slice none none (some s) _) _ => do
    let ov ← r.ev o env
    let sv ← r.ev s env
    match ov, sv with
    | .obj id, .int n => do match ← getD id with
      | .list l => if n = -1 ∧ l.length ≤ 1000000 then do let id' ← newD (.list l.reverse); pure (.obj id') else fail
      | _ => fail
    | _, _ => fail
  | .Subscript o i _ => if !notSlice i then fail else do
    let ov ← r.ev o env
    let iv ← r.ev i env
    itemGet ov iv
  | .BinOp l op rr _ => do
    let a ← r.ev l env
    let b ← r.ev rr env
    bin op a b
  | .UnaryOp op x _ => do let v ← r.ev x env; unary op v
  | .BoolOp op es _ => boolA r env op es
  | .Compare l [op] [x] _ => if behindInMarks op x then fail else do
    let a ← r.ev l env
    let b ← r.ev x env
    let c ← cmp op a b
    pure (.bool c)
  | .IfExp t b o _ => do
    let tv ← r.ev t env
    let c ← truth tv
    if c then r.ev b env else r.ev o env
  | .ListComp elt [g] sc _ => compA r env elt g sc
  | .Call (.Attribute o m apos) args [] pos => if !(notSuper o && args.all notStar && decide (args.length < 8) && apos.endLine == pos.line) then fail else do
    let ov ← r.ev o env
    match ov with
    | .obj id => do match ← getD id with
      | .list _ => do
        let vs ← evs r env args
        methL id m vs
      | .idict _ => do
        let vs ← evs r env args
        methI id m vs
      | _ => fail
    | _ => fail
  | .Call (.Name f _) args [] _ =>
    if !(isGlob env f && args.all notStar && decide (args.length < 8)) then fail else
    if f == ("list" : Str) then match args with
      | [e'] => do
        let src ← srcOf r env e'
        let l ← srcItems src
        if listable src && notStar e' && decide (l.length ≤ 1000000) then do let id ← newD (.list l); pure (.obj id) else fail
      | _ => fail
    else if builtin1 f then match args with
      | [e'] => do let v ← r.ev e' env; builtinA f v
      | _ => fail
    else do
      let vs ← evs r env args
      r.call f vs
  | _ => fail

def exF (r : Rec) (s : Stmt) (env : AEnv) : M (Out × AEnv) := match s with
  | .Expr e _ => if !notComp e then fail else do let _ ← r.ev e env; pure (.next, env)
  | .Pass _ => pure (.next, env)
  | .Return (some e) _ => do let v ← r.ev e env; pure (.ret v, env)
  | .Return none _ => pure (.ret .none, env)
  | .Assign [t] e _ => if !(pairOk t e && notSD e) then fail else do
    let v ← r.ev e env
    let env' ← assignT r t env v
    pure (.next, env')
  | .AugAssign (.Attribute o a _) op e _ => do
    let ov ← r.ev o env
    let old ← attrGet ov a
    let v ← r.ev e env
    let new ← aug op old v
    attrSet ov a new
    pure (.next, env)
  | .AugAssign (.Subscript o i _) op e _ => if !notSlice i then fail else do
    let ov ← r.ev o env
    let iv ← r.ev i env
    let old ← itemGet ov iv
    let v ← r.ev e env
    let new ← aug op old v
    itemSet ov iv new
    pure (.next, env)
  | .Delete [.Subscript o i _] _ => do
    let ov ← r.ev o env
    let iv ← r.ev i env
    itemDel ov iv
    pure (.next, env)
  | .If t b o _ => do
    let tv ← r.ev t env
    let c ← truth tv
    if c then exs r b env else exs r o env
  | .While t b [] _ => fun st => r.wh (fun x => do
      let (tv, st₁) ← r.ev t x.1 x.2
      let (c, st₂) ← truth tv st₁
      if c then do
        let ((o, env'), st₃) ← exs r b x.1 st₂
        match o with
        | .next => pure (.inl (env', st₃))
        | o => pure (.inr ((o, env'), st₃))
      else pure (.inr ((.next, x.1), st₂))) (env, st)
  | .For t e b [] _ => if !notSet e then fail else do
    let src ← srcOf r env e
    let items ← srcItems src
    let ver ← (fun st => some (src.watch st, st) : M Nat)
    if tgtOk src t then forLoop r src ver t b items env else fail
  | _ => fail

def plainParams (a : Arguments) : Bool := a.posonlyargs.isEmpty && a.vararg.isNone && a.kwonlyargs.isEmpty && a.kwarg.isNone && a.defaults.isEmpty
def fnOfTab (f : Str) : Option DefRec := (recsOf PySem.Challenge.pw_pf0208_01).find? fun d => d.name == f

def bodyName (sc : Scope) (p : Str × NameKind) : Bool := (match p.2 with | .free => false | _ => true) && sc.names.lookup p.1 == some p.2
def bodyOk (ps : List Str) (sc : Scope) : Bool := (match sc.kind with | .function => true | _ => false) && !sc.isCoroutine && !sc.isGenerator && noDup ps && ps.all (fun x => bindable (sc.names.lookup x)) && sc.names.all (bodyName sc)

def runBody (r : Rec) (params : Arguments) (body : List Stmt) (scope : Scope) (args : List AVal) : M AVal :=
  if params.args.length = args.length ∧ (plainParams params && bodyOk (params.args.map (·.arg)) scope) = true then do
    let (o, _) ← exs r body { sc := scope, vars := (params.args.map (·.arg)).zip args }
    match o with
    | .next => pure .none
    | .ret v => pure v
  else fail

/-- the __init__ of a class of the text -/
def initOf (c : Str) : Option (Arguments × List Stmt × Scope) :=
  PySem.Challenge.pw_pf0208_01.main.body.findSome? fun st => match st with
    | .ClassDef n _ _ (.FunctionDef m a b _ _ _ s _ _ _ :: _) _ _ _ _ _ _ _ => if n == c && m == ("__init__" : Str) then some (a, b, s) else none
    | _ => none

def callF (r : Rec) (f : Str) (args : List AVal) : M AVal :=
  if f == ("Cell" : Str) || f == ("Counted" : Str) then match initOf f with
    | some (a, b, s) => do
      let id ← newD (.sdict [])
      let v ← runBody r a b s (.inst f id :: args)
      match v with
      | .none => pure (.inst f id)
      | _ => fail
    | none => fail
  else match fnOfTab f with
    | some d => runBody r d.params d.body d.scope args
    | none => fail

def R (wh : ((AEnv × ASt) → Option (Sum (AEnv × ASt) ((Out × AEnv) × ASt))) → AEnv × ASt → Option ((Out × AEnv) × ASt)) : Nat → Rec
  | 0 => { ev := fun _ _ => fail, ex := fun _ _ => fail, call := fun _ _ => fail, wh := wh }
  | n + 1 => { ev := evF (R wh n), ex := exF (R wh n), call := callF (R wh n), wh := wh }

def whN {α β : Type} (step : α → Option (Sum α β)) : Nat → α → Option β
  | 0, _ => none
  | n + 1, x => match step x with
    | none => none
    | some (.inl y) => whN step n y
    | some (.inr b) => some b
end
/-! AS1 -/
section
set_option autoImplicit false
set_option maxRecDepth 100000
open PySem PySem.W PyProof.Rows PySem.Calls

abbrev PW : Program := PySem.Challenge.pw_pf0208_01

structure Cx where
  w : World
  h0 : Heap
  K : Frag
  cls : Str → Option Addr
  mg : Str → Option Value
  mb : Str → Option Value

mutual
inductive VRel (X : Cx) (h : Heap) (loc : Nat → Addr) (N : Nat) : Value → AVal → Prop
  | none : VRel X h loc N .none .none
  | bool (b : Bool) : VRel X h loc N (.bool b) (.bool b)
  | int (i : Int) (t : Tok) : VRel X h loc N (.int i t) (.int i)
  | str (x : Str) (t : Tok) : VRel X h loc N (.str x t) (.str x)
  | tup {a : Addr} {o : Obj} {vs : List Value} {n : Nat} {l : List AVal} : h.get? a = some o → o.cls = .type "tuple" → o.data = .seq vs.toArray n → VRels X h loc N vs l → VRel X h loc N (.ref a) (.tup l)
  | obj {id : Nat} : id < N → VRel X h loc N (.ref (loc id)) (.obj id)
  | inst {c : Str} {C a : Addr} {id : Nat} : id < N → X.cls c = some C → h.get? a = some (instObj C (loc id)) → VRel X h loc N (.ref a) (.inst c id)
inductive VRels (X : Cx) (h : Heap) (loc : Nat → Addr) (N : Nat) : List Value → List AVal → Prop
  | nil : VRels X h loc N [] []
  | cons {v : Value} {a : AVal} {vs : List Value} {l : List AVal} : VRel X h loc N v a → VRels X h loc N vs l → VRels X h loc N (v :: vs) (a :: l)
end

def Imm : Obj → Bool
  | ⟨.type "tuple", _, .seq _ _, _⟩ => true
  | ⟨.ref _, some _, .plain, _⟩ => true
  | _ => false

theorem Imm.tup {o : Obj} {vs : Array Value} {n : Nat} (hc : o.cls = .type "tuple") (hd : o.data = .seq vs n) : Imm o = true := by
  obtain ⟨c, d, dt, sl⟩ := o
  dsimp only at hc hd
  subst hc hd
  rfl
mutual
theorem VRel.mono {X : Cx} {h h' : Heap} {loc loc' : Nat → Addr} {N N' : Nat} (hk : ∀ a o, h.get? a = some o → Imm o = true → h'.get? a = some o) (hl : ∀ i, i < N → loc' i = loc i) (hN : N ≤ N') :
    ∀ {v : Value} {a : AVal}, VRel X h loc N v a → VRel X h' loc' N' v a
  | _, _, .none => .none
  | _, _, .bool b => .bool b
  | _, _, .int i t => .int i t
  | _, _, .str x t => .str x t
  | _, _, .tup e hc hd r => .tup (hk _ _ e (Imm.tup hc hd)) hc hd (VRels.mono hk hl hN r)
  | _, _, .obj (id := id) hi => by rw [← hl id hi]; exact .obj (Nat.lt_of_lt_of_le hi hN)
  | _, _, .inst (id := id) hi hc e => .inst (Nat.lt_of_lt_of_le hi hN) hc (by rw [hl id hi]; exact hk _ _ e rfl)
theorem VRels.mono {X : Cx} {h h' : Heap} {loc loc' : Nat → Addr} {N N' : Nat} (hk : ∀ a o, h.get? a = some o → Imm o = true → h'.get? a = some o) (hl : ∀ i, i < N → loc' i = loc i) (hN : N ≤ N') :
    ∀ {vs : List Value} {l : List AVal}, VRels X h loc N vs l → VRels X h' loc' N' vs l
  | _, _, .nil => .nil
  | _, _, .cons a r => .cons (VRel.mono hk hl hN a) (VRels.mono hk hl hN r)
end

inductive SRels (X : Cx) (h : Heap) (loc : Nat → Addr) (N : Nat) : List DictEntry → List (Str × AVal) → Prop
  | nil : SRels X h loc N [] []
  | cons {x : Str} {t : Tok} {v : Value} {a : AVal} {es : List DictEntry} {l : List (Str × AVal)} : VRel X h loc N v a → SRels X h loc N es l →
      SRels X h loc N (⟨PyData.keyHash X.w.params x, .str x t, v⟩ :: es) ((x, a) :: l)
theorem SRels.mono {X : Cx} {h h' : Heap} {loc loc' : Nat → Addr} {N N' : Nat} (hk : ∀ a o, h.get? a = some o → Imm o = true → h'.get? a = some o) (hl : ∀ i, i < N → loc' i = loc i) (hN : N ≤ N')
    {es : List DictEntry} {l : List (Str × AVal)} (r : SRels X h loc N es l) : SRels X h' loc' N' es l := by
  induction r with
  | nil => exact .nil
  | cons a _ ih => exact .cons (a.mono hk hl hN) ih

inductive IRels {κ : Type} (X : Cx) (h : Heap) (loc : Nat → Addr) (N : Nat) : List (κ × Value) → List (κ × AVal) → Prop
  | nil : IRels X h loc N [] []
  | cons {k : κ} {v : Value} {a : AVal} {kvs : List (κ × Value)} {l : List (κ × AVal)} : VRel X h loc N v a → IRels X h loc N kvs l → IRels X h loc N ((k, v) :: kvs) ((k, a) :: l)
theorem IRels.mono {κ : Type} {X : Cx} {h h' : Heap} {loc loc' : Nat → Addr} {N N' : Nat} (hk : ∀ a o, h.get? a = some o → Imm o = true → h'.get? a = some o) (hl : ∀ i, i < N → loc' i = loc i) (hN : N ≤ N')
    {es : List (κ × Value)} {l : List (κ × AVal)} (r : IRels X h loc N es l) : IRels X h' loc' N' es l := by
  induction r with
  | nil => exact .nil
  | cons a _ ih => exact .cons (a.mono hk hl hN) ih

def ORel (X : Cx) (h : Heap) (loc : Nat → Addr) (N : Nat) (a : Addr) : AData → Prop
  | .list l => ∃ vs n, h.get? a = some ⟨.type "list", none, .seq (List.toArray vs) n, #[]⟩ ∧ VRels X h loc N vs l
  | .idict l => ∃ kvs : List (Int × Value), (h.DictOf (intKind PW X.w) a kvs ∧ a ≠ sysModules) ∧ IRels X h loc N kvs l
  | .sdict l => (l.map (·.1)).Nodup ∧ ∃ es n, h.get? a = some (dictOf es n) ∧ SRels X h loc N es l

theorem ORel.live {X : Cx} {h : Heap} {loc : Nat → Addr} {N : Nat} {a : Addr} {d : AData} (r : ORel X h loc N a d) : ∃ o, h.get? a = some o ∧ Imm o = false := by
  cases d with
  | list l => obtain ⟨vs, n, e, _⟩ := r; exact ⟨_, e, rfl⟩
  | idict l =>
    obtain ⟨kvs, ⟨⟨o, es, ep, e, hx, hd, _⟩, _⟩, _⟩ := r
    refine ⟨o, e, ?_⟩
    obtain ⟨c, d, dt, sl⟩ := o
    obtain ⟨h1, h2, h3⟩ := hx
    dsimp only at h1 h2 h3 hd
    subst h1 hd
    rfl
  | sdict l => obtain ⟨_, es, n, e, _⟩ := r; exact ⟨_, e, rfl⟩

/-- the same object there, the words of the relation carried over -/
theorem ORel.mono {X : Cx} {h h' : Heap} {loc loc' : Nat → Addr} {N N' : Nat} {a : Addr} {d : AData} (r : ORel X h loc N a d) (ha : ∀ o, h.get? a = some o → h'.get? a = some o)
    (hk : ∀ a o, h.get? a = some o → Imm o = true → h'.get? a = some o) (hl : ∀ i, i < N → loc' i = loc i) (hN : N ≤ N') : ORel X h' loc' N' a d := by
  cases d with
  | list l => obtain ⟨vs, n, e, rr⟩ := r; exact ⟨vs, n, ha _ e, rr.mono hk hl hN⟩
  | idict l =>
    obtain ⟨kvs, ⟨⟨o, es, ep, e, q⟩, ns⟩, rr⟩ := r
    exact ⟨kvs, ⟨⟨o, es, ep, ha _ e, q⟩, ns⟩, rr.mono hk hl hN⟩
  | sdict l => obtain ⟨nd, es, n, e, rr⟩ := r; exact ⟨nd, es, n, ha _ e, rr.mono hk hl hN⟩

structure OK (X : Cx) (s : Shared) (loc : Nat → Addr) (st : ASt) : Prop where
  base : ∀ b o, X.h0.get? b = some o → s.heap.get? b = some o
  new : ∀ i, i < st.next → X.h0.get? (loc i) = none
  inj : ∀ i j, i < st.next → j < st.next → loc i = loc j → i = j
  rel : ∀ i, i < st.next → ORel X s.heap loc st.next (loc i) (st.get i).data

structure Ext (W : Addr → Prop) (s : Shared) (loc : Nat → Addr) (st : ASt) (s' : Shared) (loc' : Nat → Addr) (st' : ASt) : Prop where
  le : st.next ≤ st'.next
  at_ : ∀ i, i < st.next → loc' i = loc i
  fresh : ∀ i, st.next ≤ i → i < st'.next → s.heap.get? (loc' i) = none
  keep : ∀ b o, s.heap.get? b = some o → (∀ i, i < st.next → loc i ≠ b) → ¬ W b → s'.heap.get? b = some o
  live : ∀ b o, s.heap.get? b = some o → ∃ o', s'.heap.get? b = some o'
  imm : ∀ b o, s.heap.get? b = some o → Imm o = true → s'.heap.get? b = some o
  verLe : ∀ i, i < st.next → (st.get i).ver ≤ (st'.get i).ver
  ver : ∀ i, i < st.next → (st.get i).ver = (st'.get i).ver → (st.get i).data = (st'.get i).data ∧ ∀ o, s.heap.get? (loc i) = some o → s'.heap.get? (loc i) = some o
  gens : s'.gens = s.gens
  os : s'.os = s.os

abbrev NoW : Addr → Prop := fun _ => False

theorem Ext.refl (W : Addr → Prop) (s : Shared) (loc : Nat → Addr) (st : ASt) : Ext W s loc st s loc st :=
  ⟨Nat.le_refl _, fun _ _ => rfl, fun _ h1 h2 => absurd (Nat.lt_of_le_of_lt h1 h2) (Nat.lt_irrefl _), fun _ _ e _ _ => e, fun _ o e => ⟨o, e⟩, fun _ _ e _ => e, fun _ _ => Nat.le_refl _, fun _ _ _ => ⟨rfl, fun _ e => e⟩, rfl, rfl⟩
theorem Ext.mono {W W' : Addr → Prop} {s s' : Shared} {loc loc' : Nat → Addr} {st st' : ASt} (x : Ext W s loc st s' loc' st') (h : ∀ b, W b → W' b) : Ext W' s loc st s' loc' st' :=
  ⟨x.le, x.at_, x.fresh, fun b o e hn hw => x.keep b o e hn fun q => hw (h b q), x.live, x.imm, x.verLe, x.ver, x.gens, x.os⟩
theorem Ext.trans {W : Addr → Prop} {s s' s'' : Shared} {loc loc' loc'' : Nat → Addr} {st st' st'' : ASt} (x : Ext W s loc st s' loc' st') (y : Ext W s' loc' st' s'' loc'' st'') : Ext W s loc st s'' loc'' st'' where
  le := Nat.le_trans x.le y.le
  at_ := fun i hi => (y.at_ i (Nat.lt_of_lt_of_le hi x.le)).trans (x.at_ i hi)
  fresh := fun i h1 h2 => by
    rcases Nat.lt_or_ge i st'.next with h | h
    · rw [y.at_ i h]; exact x.fresh i h1 h
    · have e := y.fresh i h h2
      cases q : s.heap.get? (loc'' i) with
      | none => rfl
      | some o => obtain ⟨o', q'⟩ := x.live _ _ q; rw [e] at q'; cases q'
  keep := fun b o e hn hw => by
    refine y.keep b o (x.keep b o e hn hw) (fun i hi q => ?_) hw
    rcases Nat.lt_or_ge i st.next with h | h
    · exact hn i h ((x.at_ i h).symm.trans q)
    · have := x.fresh i h hi; rw [q, e] at this; cases this
  live := fun b o e => let ⟨_, e'⟩ := x.live b o e; y.live b _ e'
  imm := fun b o e hi => y.imm b o (x.imm b o e hi) hi
  verLe := fun i hi => Nat.le_trans (x.verLe i hi) (y.verLe i (Nat.lt_of_lt_of_le hi x.le))
  ver := fun i hi hv => by
    have h1 := x.verLe i hi
    have h2 := y.verLe i (Nat.lt_of_lt_of_le hi x.le)
    obtain ⟨a1, a2⟩ := x.ver i hi (by omega)
    obtain ⟨b1, b2⟩ := y.ver i (Nat.lt_of_lt_of_le hi x.le) (by omega)
    exact ⟨a1.trans b1, fun o e => by have := b2 o (by rw [x.at_ i hi]; exact a2 o e); rwa [x.at_ i hi] at this⟩
  gens := y.gens.trans x.gens
  os := y.os.trans x.os

theorem VRel.ext {X : Cx} {W : Addr → Prop} {s s' : Shared} {loc loc' : Nat → Addr} {st st' : ASt} {v : Value} {a : AVal} (r : VRel X s.heap loc st.next v a) (x : Ext W s loc st s' loc' st') : VRel X s'.heap loc' st'.next v a :=
  r.mono x.imm x.at_ x.le
theorem VRels.ext {X : Cx} {W : Addr → Prop} {s s' : Shared} {loc loc' : Nat → Addr} {st st' : ASt} {v : List Value} {a : List AVal} (r : VRels X s.heap loc st.next v a) (x : Ext W s loc st s' loc' st') : VRels X s'.heap loc' st'.next v a :=
  r.mono x.imm x.at_ x.le

structure EnvOK (X : Cx) (env : Env) (ae : AEnv) (h : Heap) (loc : Nat → Addr) (N : Nat) : Prop where
  kind : env.scope.kind = .function
  glob : env.globals = mainGlobals
  blt : env.builtins = builtinsNs
  kindOf : ∀ x k, ae.sc.names.lookup x = some k → env.kindOf x = some k ∨ (k = .free ∧ env.kindOf x = some .cell)
  ns : ∃ m, h.Ns env.locals m ∧ ∀ x a, ae.vars.lookup x = some a → env.kindOf x = some .local → ∃ v, m x = some v ∧ VRel X h loc N v a
  cell : ∀ x, (env.kindOf x = some .cell ∨ env.kindOf x = some .free) → ∃ c, env.cells.lookup x = some c ∧ ∃ o v, h.get? c = some o ∧ o.data = .cell v ∧ ∀ a, ae.vars.lookup x = some a → ∃ u, v = some u ∧ VRel X h loc N u a
  inj : ∀ x y c, env.cells.lookup x = some c → env.cells.lookup y = some c → x = y
  apart : ∀ i, i < N → loc i ≠ env.locals
  newL : X.h0.get? env.locals = none
  newC : ∀ x c, env.cells.lookup x = some c → X.h0.get? c = none
  celled : ∀ x c, env.cells.lookup x = some c → env.kindOf x = some .cell ∨ env.kindOf x = some .free

/-- what a statement of a frame may write besides the abstract heap -/
def Wr (env : Env) (b : Addr) : Prop := b = env.locals ∨ ∃ x, env.cells.lookup x = some b

theorem Imm.notCell {o : Obj} {v : Option Value} (h : o.data = .cell v) : Imm o = false := by
  obtain ⟨c, d, dt, sl⟩ := o
  dsimp only at h
  subst h
  unfold Imm
  split <;> simp_all
theorem Imm.notDict {o : Obj} {es : Array DictEntry} {n : Nat} (h : o.data = .dict es n) : Imm o = false := by
  obtain ⟨c, d, dt, sl⟩ := o
  dsimp only at h
  subst h
  unfold Imm
  split <;> simp_all
theorem notCell_of_ORel {X : Cx} {h : Heap} {loc : Nat → Addr} {N : Nat} {a : Addr} {d : AData} (r : ORel X h loc N a d) {o : Obj} (e : h.get? a = some o) {v : Option Value} (hd : o.data = .cell v) : False := by
  cases d with
  | list l => obtain ⟨vs, n, e', _⟩ := r; rw [e] at e'; cases e'; cases hd
  | idict l =>
    obtain ⟨kvs, ⟨⟨o', es, ep, e', hx, hd', _⟩, _⟩, _⟩ := r
    rw [e] at e'; cases e'; rw [hd] at hd'; cases hd'
  | sdict l => obtain ⟨_, es, n, e', _⟩ := r; rw [e] at e'; cases e'; cases hd

theorem EnvOK.ext {X : Cx} {env : Env} {ae : AEnv} {s s' : Shared} {loc loc' : Nat → Addr} {st st' : ASt} (G : OK X s loc st) (V : EnvOK X env ae s.heap loc st.next) (x : Ext NoW s loc st s' loc' st') :
    EnvOK X env ae s'.heap loc' st'.next where
  kind := V.kind
  glob := V.glob
  blt := V.blt
  kindOf := V.kindOf
  ns := by
    obtain ⟨m, ⟨o, es, ep, ho, r⟩, hm⟩ := V.ns
    refine ⟨m, ⟨o, es, ep, x.keep _ _ ho (fun i hi => V.apart i hi) id, r⟩, fun y a hy hk => ?_⟩
    obtain ⟨v, h1, h2⟩ := hm y a hy hk
    exact ⟨v, h1, h2.ext x⟩
  cell := fun y hy => by
    obtain ⟨c, hc, o, v, ho, hd, hv⟩ := V.cell y hy
    refine ⟨c, hc, o, v, x.keep _ _ ho (fun i hi q => notCell_of_ORel (G.rel i hi) (by rw [q]; exact ho) hd) id, hd, fun a ha => ?_⟩
    obtain ⟨u, h1, h2⟩ := hv a ha
    exact ⟨u, h1, h2.ext x⟩
  inj := V.inj
  apart := fun i hi q => by
    rcases Nat.lt_or_ge i st.next with h | h
    · exact V.apart i h ((x.at_ i h).symm.trans q)
    · obtain ⟨m, ⟨o, es, ep, ho, r⟩, hm⟩ := V.ns
      have := x.fresh i h hi
      rw [q, ho] at this; cases this
  newL := V.newL
  newC := V.newC
  celled := V.celled

structure Room (A : Around) (n : Nat) : Prop where
  handled : A.handled = none
  depth : A.depth + 2 * n < recursionLimit
  units : A.units + 20 * n + 100 < cLine
theorem Room.mono {A : Around} {n m : Nat} (r : Room A n) (h : m ≤ n) : Room A m := ⟨r.handled, by have := r.depth; omega, by have := r.units; omega⟩
theorem Room.in1 {A : Around} {n m : Nat} (r : Room A n) (h : m + 1 ≤ n) : Room A.in1 m := ⟨r.handled, by have := r.depth; show A.depth + 2 * m < _; omega, by have := r.units; show A.units + 1 + _ + _ < _; omega⟩
theorem Room.deeper {A : Around} {n m : Nat} {env : Env} (r : Room A n) (h : m + 1 ≤ n) : Room (A.deeper env) m := ⟨r.handled, by have := r.depth; show A.depth + 1 + 2 * m < _; omega, by have := r.units; show A.units + 3 + _ + _ < _; omega⟩

/-- what is wanted behind a computation that gives the abstract value a and the state st' -/
def Then (X : Cx) (s : Shared) (loc : Nat → Addr) (st : ASt) (a : AVal) (st' : ASt) (Q : Value → Shared → Prop) : Prop :=
  ∀ v s' loc', OK X s' loc' st' → Ext NoW s loc st s' loc' st' → VRel X s'.heap loc' st'.next v a → Q v s'
def ThenB (X : Cx) (s : Shared) (loc : Nat → Addr) (st : ASt) (b : Bool) (st' : ASt) (Q : Bool → Shared → Prop) : Prop :=
  ∀ s' loc', OK X s' loc' st' → Ext NoW s loc st s' loc' st' → Q b s'
def ThenU (X : Cx) (s : Shared) (loc : Nat → Addr) (st : ASt) (st' : ASt) (Q : Unit → Shared → Prop) : Prop :=
  ∀ s' loc', OK X s' loc' st' → Ext NoW s loc st s' loc' st' → Q () s'
end
/-! AS2 -/
section
set_option autoImplicit false
set_option maxRecDepth 100000
open PySem PySem.W PyProof.Rows PySem.Calls

section
variable {X : Cx} {s : Shared} {loc : Nat → Addr} {st : ASt}

/-- new objects, nothing else turned -/
theorem OK.keeps {h' : Heap} {t : Tok} (G : OK X s loc st) (hk : ∀ b o, s.heap.get? b = some o → h'.get? b = some o) :
    OK X { s with heap := h', toks := t } loc st ∧ Ext NoW s loc st { s with heap := h', toks := t } loc st :=
  ⟨⟨fun b o e => hk b o (G.base b o e), G.new, G.inj, fun i hi => (G.rel i hi).mono (fun o e => hk _ o e) (fun a o e _ => hk a o e) (fun _ _ => rfl) (Nat.le_refl _)⟩,
    ⟨Nat.le_refl _, fun _ _ => rfl, fun _ h1 h2 => absurd (Nat.lt_of_le_of_lt h1 h2) (Nat.lt_irrefl _), fun b o e _ _ => hk b o e, fun b o e => ⟨o, hk b o e⟩, fun b o e _ => hk b o e, fun _ _ => Nat.le_refl _, fun _ _ _ => ⟨rfl, fun o e => hk _ o e⟩, rfl, rfl⟩⟩
theorem OK.tok {t : Tok} (G : OK X s loc st) : OK X { s with toks := t } loc st ∧ Ext NoW s loc st { s with toks := t } loc st :=
  G.keeps (h' := s.heap) fun _ _ e => e

theorem OK.fresh (G : OK X s loc st) : X.h0.get? s.heap.objs.size = none := by
  cases q : X.h0.get? s.heap.objs.size with
  | none => rfl
  | some o => exact absurd (Heap.lt_size (G.base _ _ q)) (Nat.lt_irrefl _)
theorem size_none (h : Heap) : h.get? h.objs.size = none := by
  cases q : h.get? h.objs.size with
  | none => rfl
  | some o => exact absurd (Heap.lt_size q) (Nat.lt_irrefl _)

def locN (loc : Nat → Addr) (n : Nat) (a : Addr) : Nat → Addr := fun i => if i = n then a else loc i

/-- a new abstract object at an address that was free -/
theorem OK.new' {h' : Heap} {t : Tok} {a : Addr} {d : AData} (G : OK X s loc st) (ha : s.heap.get? a = none) (hk : ∀ b o, s.heap.get? b = some o → h'.get? b = some o)
    (hr : ORel X h' (locN loc st.next a) (st.next + 1) a d) :
    OK X { s with heap := h', toks := t } (locN loc st.next a) (st.new d) ∧ Ext NoW s loc st { s with heap := h', toks := t } (locN loc st.next a) (st.new d) := by
  have h0a : X.h0.get? a = none := by
    cases q : X.h0.get? a with
    | none => rfl
    | some o => rw [G.base _ _ q] at ha; cases ha
  have old : ∀ i, i < st.next → locN loc st.next a i = loc i := fun i hi => by unfold locN; rw [if_neg (Nat.ne_of_lt hi)]
  have new : locN loc st.next a st.next = a := by unfold locN; rw [if_pos rfl]
  have og : ∀ i, i < st.next → (st.new d).get i = st.get i := fun i hi => by show (if i = st.next then _ else _) = _; rw [if_neg (Nat.ne_of_lt hi)]
  have ng : (st.new d).get st.next = ⟨0, d⟩ := by show (if st.next = st.next then _ else _) = _; rw [if_pos rfl]
  have nx : (st.new d).next = st.next + 1 := rfl
  refine ⟨⟨fun b o e => hk b o (G.base b o e), fun i hi => ?_, fun i j hi hj e => ?_, fun i hi => ?_⟩, ⟨by rw [nx]; omega, old, fun i h1 h2 => ?_, fun b o e _ _ => hk b o e, fun b o e => ⟨o, hk b o e⟩, fun b o e _ => hk b o e,
    fun i hi => by rw [og i hi]; exact Nat.le_refl _, fun i hi _ => by rw [og i hi]; exact ⟨rfl, fun o e => hk _ o e⟩, rfl, rfl⟩⟩
  · rcases Nat.lt_or_ge i st.next with h | h
    · rw [old i h]; exact G.new i h
    · obtain rfl : i = st.next := by rw [nx] at hi; omega
      rw [new]; exact h0a
  · have live : ∀ i, i < st.next → loc i ≠ a := fun i hi q => by
      obtain ⟨o, e, _⟩ := (G.rel i hi).live
      rw [q, ha] at e; cases e
    rcases Nat.lt_or_ge i st.next with h | h <;> rcases Nat.lt_or_ge j st.next with h' | h'
    · rw [old i h, old j h'] at e; exact G.inj i j h h' e
    · obtain rfl : j = st.next := by rw [nx] at hj; omega
      rw [old i h, new] at e; exact absurd e (live i h)
    · obtain rfl : i = st.next := by rw [nx] at hi; omega
      rw [old j h', new] at e; exact absurd e.symm (live j h')
    · rw [nx] at hi hj; omega
  · rcases Nat.lt_or_ge i st.next with h | h
    · rw [old i h, og i h]; exact (G.rel i h).mono (fun o e => hk _ o e) (fun a o e _ => hk a o e) old (by rw [nx]; omega)
    · obtain rfl : i = st.next := by rw [nx] at hi; omega
      rw [new, ng]; exact hr
  · obtain rfl : i = st.next := by rw [nx] at h2; omega
    rw [new]; exact ha

/-- the abstract object id turned -/
theorem OK.put {h' : Heap} {t : Tok} {id : Nat} {d : AData} (G : OK X s loc st) (hid : id < st.next) (hk : ∀ b o, b ≠ loc id → s.heap.get? b = some o → h'.get? b = some o)
    (hr : ORel X h' loc st.next (loc id) d) :
    OK X { s with heap := h', toks := t } loc (st.put id d) ∧ Ext NoW s loc st { s with heap := h', toks := t } loc (st.put id d) := by
  have h0 := G.new id hid
  obtain ⟨ox, hox, hoi⟩ := (G.rel id hid).live
  have imm : ∀ b o, s.heap.get? b = some o → Imm o = true → h'.get? b = some o := fun b o e hi => hk b o (fun q => by rw [q, hox] at e; cases e; rw [hoi] at hi; cases hi) e
  have og : ∀ i, i ≠ id → (st.put id d).get i = st.get i := fun i hi => by show (if i = id then _ else _) = _; rw [if_neg hi]
  have ng : (st.put id d).get id = ⟨(st.get id).ver + 1, d⟩ := by show (if id = id then _ else _) = _; rw [if_pos rfl]
  refine ⟨⟨fun b o e => hk b o (fun q => by rw [q, h0] at e; cases e) (G.base b o e), G.new, G.inj, fun i hi => ?_⟩, ⟨Nat.le_refl _, fun _ _ => rfl, fun _ h1 h2 => absurd (Nat.lt_of_le_of_lt h1 h2) (Nat.lt_irrefl _), fun b o e hn _ => hk b o (fun q => hn id hid q.symm) e,
    fun b o e => ?_, imm, fun i hi => ?_, fun i hi hv => ?_, rfl, rfl⟩⟩
  · by_cases q : i = id
    · subst q; rw [ng]; exact hr
    · rw [og i q]
      exact (G.rel i hi).mono (fun o e => hk _ o (fun z => q (G.inj i id hi hid z)) e) imm (fun _ _ => rfl) (Nat.le_refl _)
  · by_cases q : b = loc id
    · obtain ⟨o', e', _⟩ := hr.live; exact ⟨o', q ▸ e'⟩
    · exact ⟨o, hk b o q e⟩
  · by_cases q : i = id
    · subst q; rw [ng]; exact Nat.le_succ _
    · rw [og i q]; exact Nat.le_refl _
  · by_cases q : i = id
    · subst q; rw [ng] at hv; exact absurd hv (Nat.ne_of_lt (Nat.lt_succ_self _))
    · rw [og i q]; exact ⟨rfl, fun o e => hk _ o (fun z => q (G.inj i id hi hid z)) e⟩

/-- an object that is none of the abstract ones turned: a frame's names, a cell -/
theorem OK.but {h' : Heap} {t : Tok} {c : Addr} {oc : Obj} (G : OK X s loc st) (hn : ∀ i, i < st.next → loc i ≠ c) (h0 : X.h0.get? c = none) (hc : s.heap.get? c = some oc) (him : Imm oc = false)
    (hl : ∃ o', h'.get? c = some o') (hk : ∀ b o, b ≠ c → s.heap.get? b = some o → h'.get? b = some o) :
    OK X { s with heap := h', toks := t } loc st ∧ Ext (fun b => b = c) s loc st { s with heap := h', toks := t } loc st := by
  have imm : ∀ b o, s.heap.get? b = some o → Imm o = true → h'.get? b = some o := fun b o e hi => hk b o (fun q => by rw [q, hc] at e; cases e; rw [him] at hi; cases hi) e
  refine ⟨⟨fun b o e => hk b o (fun q => by rw [q, h0] at e; cases e) (G.base b o e), G.new, G.inj, fun i hi => (G.rel i hi).mono (fun o e => hk _ o (hn i hi) e) imm (fun _ _ => rfl) (Nat.le_refl _)⟩,
    ⟨Nat.le_refl _, fun _ _ => rfl, fun _ h1 h2 => absurd (Nat.lt_of_le_of_lt h1 h2) (Nat.lt_irrefl _), fun b o e _ hw => hk b o hw e, fun b o e => ?_, imm, fun _ _ => Nat.le_refl _, fun i hi _ => ⟨rfl, fun o e => hk _ o (hn i hi) e⟩, rfl, rfl⟩⟩
  by_cases q : b = c
  · obtain ⟨o', e'⟩ := hl; exact ⟨o', q ▸ e'⟩
  · exact ⟨o, hk b o q e⟩
end

section
variable {X : Cx} {A : Around} {E : Value → Shared → Prop} {s : Shared} {loc : Nat → Addr} {st st' : ASt} {env : Env} {ae : AEnv} {a : AVal} {Q : Value → Shared → Prop}

theorem Then.here {v : Value} (T : Then X s loc st a st Q) (G : OK X s loc st) (r : VRel X s.heap loc st.next v a) : Q v s := T v s loc G (.refl _ _ _ _) r
theorem Then.tok {v : Value} {t : Tok} (T : Then X s loc st a st Q) (G : OK X s loc st) (r : VRel X s.heap loc st.next v a) : Q v { s with toks := t } :=
  T v _ loc G.tok.1 G.tok.2 r

/-- constants -/
theorem const_snd {c : Const} {kd : Nat} {pos : Pos} (h : constA c = some a) (G : OK X s loc st) (T : Then X s loc st a st Q) :
    wpAny (model PW X.w) A (eval (.Constant c kd pos) env) Q E s := by
  cases c with
  | none => cases h; exact wpAny_Constant_none (T.here G .none)
  | bool b => cases h; exact wpAny_Constant_bool (T.here G (.bool b))
  | int i => cases h; exact wpAny_Constant_int (T.tok G (.int i _))
  | str x => cases h; exact wpAny_Constant_str (T.tok G (.str x _))
  | _ => cases h

theorem name_snd {x : Str} {pos : Pos} (h : ae.get x = some a) (hb : badName x = false) (G : OK X s loc st) (V : EnvOK X env ae s.heap loc st.next) (T : Then X s loc st a st Q) :
    wpAny (model PW X.w) A (eval (.Name x pos) env) Q E s := by
  obtain ⟨hd, hcd⟩ := Bool.or_eq_false_iff.mp hb
  unfold AEnv.get at h
  cases hk : ae.sc.names.lookup x with
  | none => rw [hk] at h; cases h
  | some k =>
    rw [hk] at h
    have local_ : env.kindOf x = some .local → ae.vars.lookup x = some a → wpAny (model PW X.w) A (eval (.Name x pos) env) Q E s := fun hl hv => by
      obtain ⟨m, hm, hr⟩ := V.ns
      obtain ⟨v, h1, h2⟩ := hr x a hv hl
      exact wpAny_Name (wpAny_loadName_local V.kind hl hm h1 (T.here G h2)) hd
    have cell_ : env.kindOf x = some .cell → ae.vars.lookup x = some a → wpAny (model PW X.w) A (eval (.Name x pos) env) Q E s := fun hl hv => by
      obtain ⟨c, hc, o, v, ho, hod, hr⟩ := V.cell x (.inl hl)
      obtain ⟨u, h1, h2⟩ := hr a hv
      exact wpAny_Name (wpAny_loadName_cell V.kind hl hc ⟨o, ho, by rw [hod, h1]⟩ (T.here G h2)) hd
    have free_ : env.kindOf x = some .free → ae.vars.lookup x = some a → wpAny (model PW X.w) A (eval (.Name x pos) env) Q E s := fun hl hv => by
      obtain ⟨c, hc, o, v, ho, hod, hr⟩ := V.cell x (.inr hl)
      obtain ⟨u, h1, h2⟩ := hr a hv
      exact wpAny_Name (wpAny_loadName_free V.kind hl hc ⟨o, ho, by rw [hod, h1]⟩ (T.here G h2) hcd) hd
    cases k with
    | «local» =>
      rcases V.kindOf x _ hk with q | q
      · exact local_ q h
      · cases q.1
    | cell =>
      rcases V.kindOf x _ hk with q | q
      · exact cell_ q h
      · cases q.1
    | free =>
      rcases V.kindOf x _ hk with q | q
      · exact free_ q h
      · exact cell_ q.2 h
    | _ => cases h
end
end
/-! AS3 -/
section
set_option autoImplicit false
set_option maxRecDepth 100000
open PySem PySem.W PyProof.Rows PySem.Calls

section
variable {X : Cx} {h : Heap} {loc : Nat → Addr} {N : Nat}

variable {κ : Type} [DecidableEq κ]
theorem getK_cons {α : Type} {j k : κ} {v : α} {l : List (κ × α)} : Mine.getK k ((j, v) :: l) = if j = k then some v else Mine.getK k l := rfl
theorem IRels.getK {k : κ} {a : AVal} {kvs : List (κ × Value)} {l : List (κ × AVal)} (r : IRels X h loc N kvs l) (e : Mine.getK k l = some a) : ∃ v, valueAt kvs k = some v ∧ VRel X h loc N v a := by
  induction r with
  | nil => cases e
  | @cons j v b kvs l rv _ ih =>
    rw [getK_cons] at e
    by_cases q : j = k
    · subst q
      rw [if_pos rfl] at e
      cases e
      exact ⟨v, by simp [valueAt], rv⟩
    · rw [if_neg q] at e
      obtain ⟨u, h1, h2⟩ := ih e
      exact ⟨u, by simpa [valueAt, q] using h1, h2⟩
theorem IRels.none {k : κ} {kvs : List (κ × Value)} {l : List (κ × AVal)} (r : IRels X h loc N kvs l) (e : Mine.getK k l = none) : valueAt kvs k = none := by
  induction r with
  | nil => rfl
  | @cons j v b kvs l rv _ ih =>
    rw [getK_cons] at e
    by_cases q : j = k
    · subst q; simp at e
    · rw [if_neg q] at e
      simpa [valueAt, q] using ih e
theorem IRels.isSome {k : κ} {kvs : List (κ × Value)} {l : List (κ × AVal)} (r : IRels X h loc N kvs l) : (valueAt kvs k).isSome = (Mine.getK k l).isSome := by
  cases e : Mine.getK k l with
  | none => rw [r.none e]; rfl
  | some a => obtain ⟨v, h1, _⟩ := r.getK e; rw [h1]; rfl
theorem IRels.length {kvs : List (κ × Value)} {l : List (κ × AVal)} (r : IRels X h loc N kvs l) : kvs.length = l.length := by
  induction r with
  | nil => rfl
  | cons _ _ ih => simp [ih]
theorem IRels.keys {kvs : List (κ × Value)} {l : List (κ × AVal)} (r : IRels X h loc N kvs l) : kvs.map (·.1) = l.map (·.1) := by
  induction r with
  | nil => rfl
  | cons _ _ ih => simp [ih]
theorem stored_cons_ne {j k : κ} {u v : Value} {kvs : List (κ × Value)} (q : j ≠ k) : stored ((j, u) :: kvs) k v = (j, u) :: stored kvs k v := by
  unfold stored
  by_cases hh : (kvs.any fun kv => decide (kv.1 = k)) = true
  · simp [q, hh]
  · simp [q, hh]
theorem stored_cons_eq {k : κ} {u v : Value} {kvs : List (κ × Value)} (hn : k ∉ kvs.map (·.1)) : stored ((k, u) :: kvs) k v = (k, v) :: kvs := by
  unfold stored
  simp only [List.any_cons, decide_true, Bool.true_or, if_true, List.map_cons]
  rw [map_store_of_not_mem kvs k v hn]
theorem IRels.put {k : κ} {v : Value} {a : AVal} {kvs : List (κ × Value)} {l : List (κ × AVal)} (r : IRels X h loc N kvs l) (hn : (kvs.map (·.1)).Nodup) (hv : VRel X h loc N v a) : IRels X h loc N (stored kvs k v) (putK k a l) := by
  induction r with
  | nil => exact .cons hv .nil
  | @cons j u b kvs l rv r ih =>
    rw [List.map_cons, List.nodup_cons] at hn
    unfold putK
    by_cases q : j = k
    · subst q
      rw [if_pos rfl, stored_cons_eq hn.1]
      exact .cons hv r
    · rw [if_neg q, stored_cons_ne q]
      exact .cons rv (ih hn.2)
theorem IRels.del {k : κ} {kvs : List (κ × Value)} {l : List (κ × AVal)} (r : IRels X h loc N kvs l) : IRels X h loc N (without kvs k) (delK k l) := by
  induction r with
  | nil => exact .nil
  | @cons j u b kvs l rv r ih =>
    unfold without delK at *
    by_cases q : j = k
    · subst q; simpa using ih
    · simp only [List.filter_cons, ne_eq, q, not_false_eq_true, decide_true, if_true]
      exact .cons rv ih
theorem putK_keys {α : Type} {k : κ} {v : α} : ∀ {l : List (κ × α)}, (putK k v l).map (·.1) = if k ∈ l.map (·.1) then l.map (·.1) else l.map (·.1) ++ [k]
  | [] => rfl
  | (j, w) :: r => by
    unfold putK
    by_cases q : j = k
    · subst q; simp
    · rw [if_neg q, List.map_cons, putK_keys]
      have q' : k ≠ j := Ne.symm q
      by_cases hm : k ∈ r.map (·.1)
      · simp only [List.map_cons, List.mem_cons, hm, or_true, if_true]
      · simp only [List.map_cons, List.mem_cons, q', hm, or_self, if_false, List.cons_append]
theorem putK_nodup {α : Type} {k : κ} {v : α} {l : List (κ × α)} (hn : (l.map (·.1)).Nodup) : ((putK k v l).map (·.1)).Nodup := by
  rw [putK_keys]
  by_cases hm : k ∈ l.map (·.1)
  · rw [if_pos hm]; exact hn
  · rw [if_neg hm]
    exact List.nodup_append.mpr ⟨hn, by simp, fun a ha b hb => by
      rw [List.mem_singleton] at hb; subst hb
      exact fun q => hm (q ▸ ha)⟩

theorem VRels.get {vs : List Value} {l : List AVal} (r : VRels X h loc N vs l) : ∀ {i : Nat} {a : AVal}, l[i]? = some a → ∃ v, vs[i]? = some v ∧ VRel X h loc N v a := by
  induction l generalizing vs with
  | nil => intro i a e; simp at e
  | cons b l ih =>
    intro i a e
    cases r with
    | cons rv r =>
      cases i with
      | zero => simp only [List.getElem?_cons_zero, Option.some.injEq] at e; subst e; exact ⟨_, rfl, rv⟩
      | succ i => simp only [List.getElem?_cons_succ] at e ⊢; exact ih r e
theorem VRels.length {vs : List Value} {l : List AVal} (r : VRels X h loc N vs l) : vs.length = l.length := by
  induction l generalizing vs with
  | nil => cases r; rfl
  | cons b l ih => cases r with | cons rv r => simp [ih r]
theorem VRels.append {vs ws : List Value} {l m : List AVal} (r : VRels X h loc N vs l) (q : VRels X h loc N ws m) : VRels X h loc N (vs ++ ws) (l ++ m) := by
  induction l generalizing vs with
  | nil => cases r; exact q
  | cons b l ih => cases r with | cons rv r => exact .cons rv (ih r)
theorem VRels.set {vs : List Value} {l : List AVal} {v : Value} {a : AVal} (r : VRels X h loc N vs l) (hv : VRel X h loc N v a) (i : Nat) : VRels X h loc N (vs.set i v) (l.set i a) := by
  induction l generalizing vs i with
  | nil => cases r; exact .nil
  | cons b l ih =>
    cases r with
    | cons rv r =>
      cases i with
      | zero => exact .cons hv r
      | succ i => exact .cons rv (ih r i)
theorem VRels.take {vs : List Value} {l : List AVal} (r : VRels X h loc N vs l) (i : Nat) : VRels X h loc N (vs.take i) (l.take i) := by
  induction l generalizing vs i with
  | nil => cases r; simp; exact .nil
  | cons b l ih =>
    cases r with
    | cons rv r =>
      cases i with
      | zero => exact .nil
      | succ i => exact .cons rv (ih r i)
theorem VRels.dropLast {vs : List Value} {l : List AVal} (r : VRels X h loc N vs l) : VRels X h loc N vs.dropLast l.dropLast := by
  rw [List.dropLast_eq_take, List.dropLast_eq_take, r.length]; exact r.take _
theorem VRels.reverse {vs : List Value} {l : List AVal} (r : VRels X h loc N vs l) : VRels X h loc N vs.reverse l.reverse := by
  induction l generalizing vs with
  | nil => cases r; exact .nil
  | cons b l ih => cases r with | cons rv r => rw [List.reverse_cons, List.reverse_cons]; exact (ih r).append (.cons rv .nil)

theorem SRels.getL {x : Str} {a : AVal} {es : List DictEntry} {l : List (Str × AVal)} (r : SRels X h loc N es l) (e : Mine.getK x l = some a) : ∃ v, getL x es = some (some v) ∧ VRel X h loc N v a := by
  induction r with
  | nil => cases e
  | @cons y t v b es l rv _ ih =>
    rw [getK_cons] at e
    by_cases q : y = x
    · subst q
      rw [if_pos rfl] at e
      cases e
      exact ⟨v, by simp [PySem.W.getL, Value.isStr], rv⟩
    · rw [if_neg q] at e
      obtain ⟨u, h1, h2⟩ := ih e
      refine ⟨u, ?_, h2⟩
      unfold PySem.W.getL at h1 ⊢
      have q2 : (y == x) = false := by simp [q]
      have q3 : (Value.str y t).isStr x = false := q2
      rw [List.find?_cons]
      simp only [q3]
      split at h1
      · rename_i e' he; rw [he]; exact h1
      · exfalso; split at h1 <;> cases h1
theorem SRels.noRef {es : List DictEntry} {l : List (Str × AVal)} (r : SRels X h loc N es l) : es.any (·.refKey) = false := by
  induction r with
  | nil => rfl
  | cons _ _ ih => rw [List.any_cons, ih]; rfl
theorem SRels.getSome {x : Str} {es : List DictEntry} {l : List (Str × AVal)} (r : SRels X h loc N es l) : (PySem.W.getL x es).isSome = true := by
  unfold PySem.W.getL
  split
  · rfl
  · rw [r.noRef]; rfl
theorem SRels.put {x : Str} {t : Tok} {v : Value} {a : AVal} {es : List DictEntry} {l : List (Str × AVal)} (r : SRels X h loc N es l) (hv : VRel X h loc N v a) :
    SRels X h loc N (putL x (PyData.keyHash X.w.params x) (.str x t) v es) (putK x a l) := by
  induction r with
  | nil => exact .cons hv .nil
  | @cons y u w b es l rv r ih =>
    unfold putL putK
    by_cases q : y = x
    · subst q
      simp only [Value.isStr, beq_self_eq_true, if_true]
      exact .cons hv r
    · have q2 : (y == x) = false := by simp [q]
      simp only [Value.isStr, q2, Bool.false_eq_true, if_false, q]
      exact .cons rv ih
theorem VRel.handed {v : Value} {a : AVal} (r : VRel X h loc N v a) : handedIn v = true := by cases r <;> rfl
theorem VRel.notElse {v : Value} {a : AVal} (r : VRel X h loc N v a) : ∀ i, v ≠ .builtin i := by intro i e; subst e; cases r
end
end
/-! AS4 -/
section
set_option autoImplicit false
set_option maxRecDepth 100000
open PySem PySem.W PyProof.Rows PySem.Calls

theorem M_pure {α : Type} {a b : α} {st st' : ASt} (h : (pure a : M α) st = some (b, st')) : b = a ∧ st' = st := by cases h; exact ⟨rfl, rfl⟩
theorem M_fail {α : Type} {b : α} {st st' : ASt} (h : (fail : M α) st = some (b, st')) : False := by cases h
theorem M_bind {α β : Type} {m : M α} {f : α → M β} {st st' : ASt} {b : β} (h : (m >>= f) st = some (b, st')) : ∃ a st₁, m st = some (a, st₁) ∧ f a st₁ = some (b, st') := by
  have e : (m >>= f) st = Option.bind (m st) (fun p => f p.1 p.2) := rfl
  rw [e] at h
  obtain ⟨p, h1, h2⟩ := Option.bind_eq_some_iff.mp h
  exact ⟨p.1, p.2, h1, h2⟩
theorem M_getD {id : Nat} {d : AData} {st st' : ASt} (h : getD id st = some (d, st')) : st' = st ∧ id < st.next ∧ (st.get id).data = d := by
  unfold getD ASt.obj? at h
  by_cases q : id < st.next
  · rw [if_pos q] at h; cases h; exact ⟨rfl, q, rfl⟩
  · rw [if_neg q] at h; cases h
theorem M_putD {id : Nat} {d : AData} {st st' : ASt} {u : Unit} (h : putD id d st = some (u, st')) : id < st.next ∧ st' = st.put id d := by
  unfold putD at h
  by_cases q : id < st.next
  · rw [if_pos q] at h; cases h; exact ⟨q, rfl⟩
  · rw [if_neg q] at h; cases h
theorem M_newD {d : AData} {st st' : ASt} {id : Nat} (h : newD d st = some (id, st')) : id = st.next ∧ st' = st.new d := by cases h; exact ⟨rfl, rfl⟩
theorem M_opt {α : Type} {x : Option α} {a : α} {st st' : ASt} (h : opt x st = some (a, st')) : x = some a ∧ st' = st := by
  cases x with
  | none => cases h
  | some b => cases h; exact ⟨rfl, rfl⟩
theorem M_ite {α : Type} {c : Prop} [Decidable c] {m m' : M α} {st : ASt} {r : Option (α × ASt)} (h : (if c then m else m') st = r) : (c ∧ m st = r) ∨ (¬ c ∧ m' st = r) := by
  by_cases q : c
  · rw [if_pos q] at h; exact .inl ⟨q, h⟩
  · rw [if_neg q] at h; exact .inr ⟨q, h⟩

def builtinsTab : List (Str × Value) := [("len", .builtin "len"), ("sum", .builtin "sum"), ("sorted", .builtin "sorted"), ("list", .type "list"), ("range", .type "range"), ("enumerate", .type "enumerate"), ("reversed", .type "reversed")]

structure StaticOK (X : Cx) : Prop where
  nolimit : X.h0.NoLimit
  g : X.h0.Ns mainGlobals X.mg
  b : X.h0.Ns builtinsNs X.mb
  bl : ∀ f v, (f, v) ∈ builtinsTab → X.mg f = none ∧ X.mb f = some v
  kin : X.K.In X.h0
  cls : ∀ c C, X.cls c = some C → ∀ x, x ∈ attrsOf c → plainGet X.K C x = true ∧ hasDictIn X.K C = true ∧ (∃ attr, findIn X.K (.ref C) x = some attr ∧ noGet X.K attr = true) ∧
    takerIn X.K C x = some none ∧ findIn X.K (.ref C) "__setattr__" = some (some (.builtin "object.__setattr__")) ∧ plainOver X.K C = true

section
variable {X : Cx} {A : Around} {E : Value → Shared → Prop} {s : Shared} {loc : Nat → Addr} {st st' : ASt}

theorem OK.notSys (G : OK X s loc st) {id : Nat} {l : List (Int × AVal)} (h : id < st.next) (hd : (st.get id).data = .idict l) : (loc id == sysModules) = false := by
  have R := G.rel id h
  rw [hd] at R
  obtain ⟨_, ⟨_, ns⟩, _⟩ := R
  simpa using ns
/-- what comes new is no table of modules -/
theorem OK.size_ne (G : OK X s loc st) (Z : StaticOK X) : s.heap.objs.size ≠ sysModules := by
  obtain ⟨o, _, _, ho, _⟩ := Z.g
  have h1 := Heap.lt_size (G.base _ _ ho)
  have h2 : sysModules < mainGlobals := by decide
  exact Nat.ne_of_gt (Nat.lt_trans h2 h1)
theorem OK.kin (G : OK X s loc st) (Z : StaticOK X) : X.K.In s.heap := fun a o e => G.base _ _ (Z.kin a o e)

/-! what == looks at -/
mutual
theorem reads_of (G : OK X s loc st) : ∀ (n : Nat) {v : Value} {a : AVal} {d : PyData}, VRel X s.heap loc st.next v a → dataOf st n a = some d → ∃ as, Reads s.heap v d as
  | n, _, _, _, .none, e => by cases n <;> (cases e; exact ⟨_, .none⟩)
  | n, _, _, _, .bool b, e => by cases n <;> (cases e; exact ⟨_, .bool b⟩)
  | n, _, _, _, .int i t, e => by cases n <;> (cases e; exact ⟨_, .int i t⟩)
  | n, _, _, _, .str x t, e => by cases n <;> (cases e; exact ⟨_, .str x t⟩)
  | 0, _, _, _, .tup .., e => by cases e
  | 0, _, _, _, .obj _, e => by cases e
  | n, _, _, _, .inst .., e => by cases n <;> cases e
  | n + 1, _, _, _, .tup (vs := vs) (l := l) he hc hd hr, e => by
    unfold dataOf at e
    obtain ⟨xs, hx, rfl⟩ := Option.map_eq_some_iff.mp e
    obtain ⟨as, ra⟩ := reads_all G n hr hx
    exact ⟨as, .tuple he hc hd ra⟩
  | n + 1, _, _, _, .obj (id := id) hid, e => by
    unfold dataOf ASt.obj? at e
    rw [if_pos hid] at e
    have R := G.rel id hid
    split at e
    · rename_i ver l hq
      have hd : (st.get id).data = .list l := by rw [Option.some.inj hq]
      rw [hd] at R
      obtain ⟨vs, k, hh, hr⟩ := R
      obtain ⟨xs, hx, rfl⟩ := Option.map_eq_some_iff.mp e
      obtain ⟨as, ra⟩ := reads_all G n hr hx
      exact ⟨_, .list hh rfl rfl ra⟩
    · cases e
theorem reads_all (G : OK X s loc st) : ∀ (n : Nat) {vs : List Value} {l : List AVal} {ds : List PyData}, VRels X s.heap loc st.next vs l → l.mapM (dataOf st n) = some ds → ∃ as, ReadsAll s.heap vs ds as
  | n, [], _, ds, hr, e => by
    cases hr
    simp only [List.mapM_nil, Option.pure_def, Option.some.injEq] at e
    subst e
    exact ⟨_, .nil⟩
  | n, v :: vs, a :: l, ds, hr, e => by
    cases hr with
    | cons rv r =>
      simp only [List.mapM_cons, Option.pure_def, Option.bind_eq_bind, Option.bind_eq_some_iff] at e
      obtain ⟨d, h1, ds', h2, h3⟩ := e
      cases h3
      obtain ⟨as, ra⟩ := reads_of G n rv h1
      obtain ⟨bs, rb⟩ := reads_all G n r h2
      exact ⟨_, .cons ra rb⟩
  | n, v :: vs, [], ds, hr, e => by cases hr
end
end

theorem depthAll_le {n : Nat} : ∀ {ds : List PyData}, (∀ d ∈ ds, d.depth ≤ n) → PyData.depthAll ds ≤ n
  | [], _ => Nat.zero_le _
  | d :: ds, h => by
    rw [PyData.depthAll]
    exact Nat.max_le.mpr ⟨h d (by simp), depthAll_le fun x hx => h x (by simp [hx])⟩
theorem mapM_mem {α β : Type} {f : α → Option β} : ∀ {l : List α} {ds : List β}, l.mapM f = some ds → ∀ d ∈ ds, ∃ a ∈ l, f a = some d
  | [], ds, e, d, hd => by
    simp only [List.mapM_nil, Option.pure_def, Option.some.injEq] at e
    subst e; cases hd
  | a :: l, ds, e, d, hd => by
    simp only [List.mapM_cons, Option.pure_def, Option.bind_eq_bind, Option.bind_eq_some_iff] at e
    obtain ⟨x, h1, ds', h2, h3⟩ := e
    cases h3
    rcases List.mem_cons.mp hd with rfl | hd
    · exact ⟨a, by simp, h1⟩
    · obtain ⟨b, hb, hf⟩ := mapM_mem h2 d hd
      exact ⟨b, by simp [hb], hf⟩
theorem depth_dataOf (st : ASt) : ∀ (n : Nat) {a : AVal} {d : PyData}, dataOf st n a = some d → d.depth ≤ n
  | n, .none, d, e => by cases n <;> (cases e; exact Nat.zero_le _)
  | n, .bool b, d, e => by cases n <;> (cases e; exact Nat.zero_le _)
  | n, .int i, d, e => by cases n <;> (cases e; exact Nat.zero_le _)
  | n, .str x, d, e => by cases n <;> (cases e; exact Nat.zero_le _)
  | 0, .tup _, _, e => by cases e
  | 0, .obj _, _, e => by cases e
  | n, .inst .., _, e => by cases n <;> cases e
  | n + 1, .tup l, d, e => by
    unfold dataOf at e
    obtain ⟨xs, hx, rfl⟩ := Option.map_eq_some_iff.mp e
    rw [PyData.depth]
    exact Nat.succ_le_succ (depthAll_le fun d hd => by obtain ⟨a, _, ha⟩ := mapM_mem hx d hd; exact depth_dataOf st n ha)
  | n + 1, .obj id, d, e => by
    unfold dataOf at e
    split at e
    · obtain ⟨xs, hx, rfl⟩ := Option.map_eq_some_iff.mp e
      rw [PyData.depth]
      exact Nat.succ_le_succ (depthAll_le fun d hd => by obtain ⟨a, _, ha⟩ := mapM_mem hx d hd; exact depth_dataOf st n ha)
    · cases e

section
variable {X : Cx} {A : Around} {E : Value → Shared → Prop} {s : Shared} {loc : Nat → Addr} {st st' : ASt} {va vb : Value} {a b : AVal}

theorem aeq_snd {c : Bool} (h : aeq a b st = some (c, st')) (G : OK X s loc st) (ra : VRel X s.heap loc st.next va a) (rb : VRel X s.heap loc st.next vb b) :
    st' = st ∧ ∃ da db as bs, Reads s.heap va da as ∧ Reads s.heap vb db bs ∧ da.canLay0 = true ∧ db.canLay0 = true ∧ da.depth ≤ 8 ∧ PyData.eqv da db = c := by
  unfold aeq at h
  split at h
  · rename_i da db hda hdb
    split at h
    · rename_i hc
      cases h
      obtain ⟨c1, c2⟩ := Bool.and_eq_true_iff.mp hc
      obtain ⟨as, r1⟩ := reads_of G 8 ra hda
      obtain ⟨bs, r2⟩ := reads_of G 8 rb hdb
      exact ⟨rfl, da, db, as, bs, r1, r2, c1, c2, depth_dataOf st 8 hda, rfl⟩
    · cases h
  · cases h

theorem truth_snd {c : Bool} {n : Nat} {Q : Bool → Shared → Prop} (h : truth a st = some (c, st')) (_Rm : Room A n) (G : OK X s loc st) (ra : VRel X s.heap loc st.next va a) (T : ThenB X s loc st c st' Q) :
    wpAny (model PW X.w) A (truthy va) Q E s := by
  cases ra with
  | bool b =>
    obtain ⟨rfl, rfl⟩ := M_pure h
    exact wpAny_truthy_bool (T s loc G (.refl ..))
  | obj hid =>
    obtain ⟨d, st₁, h1, h2⟩ := M_bind (m := getD _) h
    obtain ⟨rfl, _, hd⟩ := M_getD h1
    cases d with
    | list l =>
      rcases M_ite h2 with ⟨hle, h2⟩ | ⟨_, h2⟩
      · obtain ⟨rfl, rfl⟩ := M_pure h2
        have R := G.rel _ hid
        rw [hd] at R
        obtain ⟨vs, k, hh, hr⟩ := R
        have hl : s.heap.IsList (loc _) vs.toArray := ⟨_, hh, rfl, k, rfl⟩
        refine wpAny_truthy_list hl ?_ ?_
        · have := hr.length; simp only [List.size_toArray]; omega
        · have := hr.length
          have e : (!vs.toArray.isEmpty) = (!l.isEmpty) := by
            cases vs <;> cases l <;> first | rfl | simp at this
          rw [e]
          exact T _ loc G.tok.1 G.tok.2
      · cases h2
    | _ => cases h2
  | _ => cases h

end
end
/-! AS5 -/
section
set_option autoImplicit false
set_option maxRecDepth 100000
open PySem PySem.W PyProof.Rows PySem.Calls

theorem isTup_of {h : Heap} {a : Addr} {vs : List Value} {n : Nat} (e : h.get? a = some ⟨.type "tuple", none, .seq vs.toArray n, #[]⟩) : IsTup h a vs.toArray := ⟨_, e, rfl, n, rfl⟩
theorem isList_of {h : Heap} {a : Addr} {vs : List Value} {n : Nat} (e : h.get? a = some ⟨.type "list", none, .seq vs.toArray n, #[]⟩) : h.IsList a vs.toArray := ⟨_, e, rfl, n, rfl⟩
theorem million : 1000000 ≤ sizeLine := by rw [sizeLine_eq]; decide

section
variable {X : Cx} {A : Around} {E : Value → Shared → Prop} {s : Shared} {loc : Nat → Addr} {st st' : ASt} {vo vi vv : Value} {o i a b : AVal} {n : Nat}

theorem SRels.mapOf {h : Heap} {N : Nat} {id : Addr} {es : List DictEntry} {k : Nat} {l : List (Str × AVal)} (r : SRels X h loc N es l) (e : h.get? id = some (dictOf es k)) :
    h.MapOf (strKind PW X.w) id (fun x => (PySem.W.getL x es).join) := by
  refine ⟨_, es.toArray, k, e, ⟨rfl, rfl, rfl⟩, rfl, fun en he => ?_, fun x => ?_⟩
  · have : ∀ en ∈ es, ∃ x t, en.key = .str x t ∧ en.hash = PyData.keyHash X.w.params x := by
      clear e he
      induction r with
      | nil => intro en h; cases h
      | cons _ _ ih =>
        intro en h
        rcases List.mem_cons.mp h with rfl | h
        · exact ⟨_, _, rfl, rfl⟩
        · exact ih en h
    obtain ⟨x, t, h1, h2⟩ := this en (by simpa using he)
    exact ⟨x, by rw [h1]; exact strKind_is PW X.w x t, h2⟩
  · have q : (fun d : DictEntry => (strKind PW X.w).is x d.key) = fun d => d.key.isStr x := funext fun d => (isStr_of x d.key).symm
    unfold findBy PySem.W.getL
    rw [List.find?_toArray, q]
    show _ = (match es.find? (fun d : DictEntry => d.key.isStr x) with | some e => some (some e.val) | none => if (es.any (·.refKey)) = true then none else some none).join
    rw [r.noRef]
    cases h' : es.find? (fun d => d.key.isStr x) with
    | none => rfl
    | some e' => rfl

theorem SRels.pairs {h : Heap} {N : Nat} {es : List DictEntry} {l : List (Str × AVal)} (r : SRels X h loc N es l) : ∃ kvs, Pairs (strKind PW X.w) es kvs ∧ IRels X h loc N kvs l := by
  induction r with
  | nil => exact ⟨[], .nil, .nil⟩
  | @cons x t v b es l rv _ ih =>
    obtain ⟨kvs, h1, h2⟩ := ih
    exact ⟨(x, v) :: kvs, .cons (strKind_is PW X.w x t) rfl h1, .cons rv h2⟩
theorem SRels.keysOf {h : Heap} {N : Nat} {es : List DictEntry} {l : List (Str × AVal)} (r : SRels X h loc N es l) : KeysOf (strKind PW X.w) es.toArray := by
  intro en he
  have : ∀ en ∈ es, ∃ x t, en.key = .str x t ∧ en.hash = PyData.keyHash X.w.params x := by
    clear he
    induction r with
    | nil => intro en h; cases h
    | cons _ _ ih =>
      intro en h
      rcases List.mem_cons.mp h with rfl | h
      · exact ⟨_, _, rfl, rfl⟩
      · exact ih en h
  obtain ⟨x, t, h1, h2⟩ := this en (by simpa using he)
  exact ⟨x, by rw [h1]; exact strKind_is PW X.w x t, h2⟩
theorem SRels.dictOf {h : Heap} {N : Nat} {id : Addr} {es : List DictEntry} {k : Nat} {l : List (Str × AVal)} (r : SRels X h loc N es l) (hn : (l.map (·.1)).Nodup) (e : h.get? id = some (dictOf es k)) :
    ∃ kvs, h.DictOf (strKind PW X.w) id kvs ∧ IRels X h loc N kvs l := by
  obtain ⟨kvs, h1, h2⟩ := r.pairs
  exact ⟨kvs, ⟨_, es.toArray, k, e, ⟨rfl, rfl, rfl⟩, rfl, r.keysOf, by simpa using h1, by rw [h2.keys]; exact hn⟩, h2⟩
theorem SRels.of_pairs {h : Heap} {N : Nat} {l : List (Str × AVal)} {kvs : List (Str × Value)} : ∀ {es : List DictEntry}, Pairs (strKind PW X.w) es kvs → (∀ e ∈ es, ∃ k, (strKind PW X.w).is k e.key = true ∧ e.hash = (strKind PW X.w).hash k) → IRels X h loc N kvs l → SRels X h loc N es l := by
  intro es p
  induction p generalizing l with
  | nil => intro _ r; cases r; exact .nil
  | @cons e kv es kvs h1 h2 _ ih =>
    intro hk r
    cases r with
    | cons rv r =>
      obtain ⟨hs, ky, vl⟩ := e
      obtain ⟨t, rfl⟩ := Value.isStrOf_shape h1
      obtain ⟨k', h3, h4⟩ := hk _ (.head _)
      have e3 := (strKind PW X.w).inj _ _ _ h3 h1
      dsimp only at h2 h4
      subst h2 h4 e3
      exact .cons rv (ih (fun e he => hk e (.tail _ he)) r)
theorem DictOf.sRels {h : Heap} {N : Nat} {id : Addr} {l : List (Str × AVal)} {kvs : List (Str × Value)} (x : h.DictOf (strKind PW X.w) id kvs) (r : IRels X h loc N kvs l) :
    (l.map (·.1)).Nodup ∧ ∃ es n, h.get? id = some (dictOf es n) ∧ SRels X h loc N es l := by
  obtain ⟨o, es, ep, ho, hx, hd, hk, hp, hn⟩ := x
  refine ⟨by rw [← r.keys]; exact hn, es.toList, ep, ?_, SRels.of_pairs hp (fun e he => hk e (by simpa using he)) r⟩
  obtain ⟨c, d, dt, sl⟩ := o
  obtain ⟨e1, e2, e3⟩ := hx
  dsimp only at e1 e2 e3 hd
  subst e1 e2 e3 hd
  simpa using ho

/-- a list's item stored -/
theorem setItem_exact {l : Addr} {vs : List Value} {m : Nat} {k : Int} {t : Tok} {v : Value} {Q : Unit → Shared → Prop} (he : s.heap.get? l = some ⟨.type "list", none, .seq vs.toArray m, #[]⟩)
    (h0 : 0 ≤ k) (hfit : k < 2 ^ 63) (hn : k < vs.length)
    (hQ : Q () { s with heap := s.heap.update l (Obj.mapSeq (·.setIfInBounds k.toNat v)) }) : wpAny (model PW X.w) A (setItem (.ref l) (.int k t) v) Q E s := by
  have hl : s.heap.IsList l vs.toArray := ⟨_, he, rfl, m, rfl⟩
  unfold setItem
  refine wpAny_holding ?_
  refine wpAny_bind (wpAny_sequenceKey hl.typeIs (by decide) ?_)
  refine wpAny_bind (wpAny_callSpecial?_slot (name := Str.ofString "__setitem__") hl.typeIs slot_list_setitem (wpAny_call_entry slot_list_setitem hl.typeIs entry_list_setitem ?_ (args_list_setitem _ _ _)))
  show wpAny _ _ (Builtin.List.listSubscript? (.int k t) >>= _) _ _ s
  refine wpAny_bind (wpAny_listSubscript_int (fitsIndex_of h0 hfit) ?_)
  clear hfit
  obtain ⟨j, rfl⟩ := Int.eq_ofNat_of_zero_le h0
  have hj : j < vs.toArray.size := by simp only [List.size_toArray]; omega
  show wpAny _ _ ((seqItemAt l j >>= fun r => pure (r.map (j, ·))) >>= _) _ _ s
  refine wpAny_bind (wpAny_bind (wpAny_seqItemAt he rfl (wpAny_pure ?_)))
  rw [Array.getElem?_eq_getElem hj]
  show wpAny _ _ (setSeqItemAt l j v >>= _) _ _ s
  refine wpAny_bind (wpAny_setSeqItemAt he rfl ?_)
  first
    | exact wpAny_bind (wpAny_pure (wpAny_pure ⟨.none, rfl, wpAny_pure hQ⟩))
    | exact wpAny_pure ⟨.none, rfl, wpAny_pure hQ⟩

theorem itemGet_snd {Q : Value → Shared → Prop} (h : itemGet o i st = some (a, st')) (G : OK X s loc st) (ro : VRel X s.heap loc st.next vo o) (ri : VRel X s.heap loc st.next vi i) (T : Then X s loc st a st' Q) :
    wpAny (model PW X.w) A (getItem vo vi) Q E s := by
  cases ro with
  | @tup ad ob vs m l he htc htd hr =>
    cases ri with
    | int k t =>
      rcases M_ite h with ⟨hb, h⟩ | ⟨_, h⟩
      · obtain ⟨hx, rfl⟩ := M_opt h
        obtain ⟨v, h1, h2⟩ := hr.get hx
        have hlt := (List.getElem?_eq_some_iff.mp h1).1
        refine PyProof.Rows.getItem_tuple ⟨_, he, htc, m, htd⟩ (by omega) (by omega) (j := k.toNat) ?_ (by simpa using h1) (T.here G h2)
        have c : (decide (0 ≤ k) && decide (k < (vs.toArray.size : Int))) = true := by
          simp only [Bool.and_eq_true, decide_eq_true_eq, List.size_toArray]; omega
        unfold seqIndex?
        simp only [if_neg (show ¬ k < 0 by omega), c, if_true]
      · cases h
    | _ => cases h
  | obj hid =>
    have R := G.rel _ hid
    cases ri with
    | int k t =>
      obtain ⟨d, st₁, h1, h2⟩ := M_bind (m := getD _) h
      obtain ⟨rfl, _, hd⟩ := M_getD h1
      rw [hd] at R
      cases d with
      | list l =>
        rcases M_ite h2 with ⟨hb, h2⟩ | ⟨_, h2⟩
        · obtain ⟨hx, rfl⟩ := M_opt h2
          obtain ⟨vs, m, hh, hr⟩ := R
          obtain ⟨v, h3, h4⟩ := hr.get hx
          exact wpAny_getItem_list (isList_of hh) hb.1 (by omega) (by simpa using h3) (T.here G h4)
        · cases h2
      | idict l =>
        obtain ⟨hx, rfl⟩ := M_opt h2
        obtain ⟨kvs, ⟨hk, hns⟩, hr⟩ := R
        obtain ⟨v, h3, h4⟩ := hr.getK hx
        exact wpAny_getItem_of (intKind_is PW X.w k t) hk.mapOf h3 (T.tok G h4)
      | sdict l => cases h2
    | str x t =>
      obtain ⟨d, st₁, h1, h2⟩ := M_bind (m := getD _) h
      obtain ⟨rfl, _, hd⟩ := M_getD h1
      rw [hd] at R
      cases d with
      | sdict l =>
        obtain ⟨hx, rfl⟩ := M_opt h2
        obtain ⟨_, es, m, hh, hr⟩ := R
        obtain ⟨v, h3, h4⟩ := hr.getL hx
        exact wpAny_getItem_of (strKind_is PW X.w x t) (hr.mapOf hh) (by show (PySem.W.getL x es).join = some v; rw [h3]; rfl) (T.tok G h4)
      | _ => cases h2
    | _ => cases h
  | _ => cases h

theorem DictOf.nodup {h : Heap} {a : Addr} {kvs : List (Int × Value)} (x : h.DictOf (intKind PW X.w) a kvs) : (kvs.map (·.1)).Nodup := by
  obtain ⟨_, _, _, _, _, _, _, _, hn⟩ := x; exact hn

theorem itemSet_snd {Q : Unit → Shared → Prop} {u : Unit} (h : itemSet o i a st = some (u, st')) (G : OK X s loc st) (ro : VRel X s.heap loc st.next vo o) (ri : VRel X s.heap loc st.next vi i) (ra : VRel X s.heap loc st.next vv a)
    (T : ThenU X s loc st st' Q) : wpAny (model PW X.w) A (setItem vo vi vv) Q E s := by
  cases ro with
  | @obj id hid =>
    have R := G.rel _ hid
    have rest : ∀ {d : AData} {h' : Heap} {tk : Tok}, Heap.SameBut (loc id) s.heap h' → ORel X h' loc st.next (loc id) d → st' = st.put id d → Q () { s with heap := h', toks := tk } := fun {d h' tk} hs hr e => by
      subst e
      have P := G.put (t := tk) hid (fun b o hb e => hs.extBut b o hb e) hr
      exact T _ loc P.1 P.2
    have imm : ∀ {h' : Heap}, Heap.SameBut (loc id) s.heap h' → ∀ b o, s.heap.get? b = some o → Imm o = true → h'.get? b = some o := fun hs b o e hi => by
      obtain ⟨ox, hox, hoi⟩ := (G.rel _ hid).live
      exact hs.extBut b o (fun q => by rw [q, hox] at e; cases e; rw [hoi] at hi; cases hi) e
    cases ri with
    | int k t =>
      obtain ⟨d, st₁, h1, h2⟩ := M_bind (m := getD _) h
      obtain ⟨rfl, _, hd⟩ := M_getD h1
      rw [hd] at R
      cases d with
      | list l =>
        rcases M_ite h2 with ⟨hb, h2⟩ | ⟨_, h2⟩
        · obtain ⟨_, e⟩ := M_putD h2
          obtain ⟨vs, m, hh, hr⟩ := R
          have hlen := hr.length
          refine setItem_exact hh hb.1 (by omega) (by omega) ?_
          have hs := Heap.SameBut.update s.heap (loc id) (Obj.mapSeq (·.setIfInBounds k.toNat vv))
          have e1 := Heap.get?_update_self (Obj.mapSeq (·.setIfInBounds k.toNat vv)) hh rfl
          simp only [Obj.mapSeq, List.setIfInBounds_toArray] at e1
          refine rest (d := .list (l.set k.toNat a)) hs ⟨vs.set k.toNat vv, _, e1, ?_⟩ e
          · exact VRels.set (hr.mono (imm hs) (fun _ _ => rfl) (Nat.le_refl _)) (ra.mono (imm hs) (fun _ _ => rfl) (Nat.le_refl _)) _
        · cases h2
      | idict l =>
        rcases M_ite h2 with ⟨hb, h2⟩ | ⟨_, h2⟩
        · obtain ⟨_, e⟩ := M_putD h2
          obtain ⟨kvs, ⟨hk, hns⟩, hr⟩ := R
          refine wpAny_setItem_pairs (intKind_is PW X.w k t) hk (fun h' hk' hs => rest (d := .idict (putK k a l)) hs ⟨_, ⟨hk', hns⟩, ?_⟩ e) (by rw [hr.length]; exact Nat.le_trans hb million)
          exact IRels.put (hr.mono (imm hs) (fun _ _ => rfl) (Nat.le_refl _)) (DictOf.nodup hk) (ra.mono (imm hs) (fun _ _ => rfl) (Nat.le_refl _))
        · cases h2
      | sdict l => cases h2
    | str x t =>
      obtain ⟨d, st₁, h1, h2⟩ := M_bind (m := getD _) h
      obtain ⟨rfl, _, hd⟩ := M_getD h1
      rw [hd] at R
      cases d with
      | sdict l =>
        rcases M_ite h2 with ⟨hb, h2⟩ | ⟨_, h2⟩
        · obtain ⟨_, e⟩ := M_putD h2
          obtain ⟨nd, es, m, hh, hr⟩ := R
          obtain ⟨kvs, hk, hr'⟩ := SRels.dictOf hr nd hh
          refine wpAny_setItem_pairs (strKind_is PW X.w x t) hk (fun h' hk' hs => rest (d := .sdict (putK x a l)) hs ?_ e) (by rw [hr'.length]; exact Nat.le_trans (by omega) million)
          have q := IRels.put (k := x) (hr'.mono (imm hs) (fun _ _ => rfl) (Nat.le_refl _)) (by obtain ⟨_, _, _, _, _, _, _, _, hn⟩ := hk; exact hn) (ra.mono (imm hs) (fun _ _ => rfl) (Nat.le_refl _))
          exact DictOf.sRels hk' q
        · cases h2
      | _ => cases h2
    | _ => cases h
  | _ => cases h

theorem delItem_dict {d : Addr} {kvs : List (Int × Value)} {k : Int} {key : Value} {Q : Unit → Shared → Prop} (hkey : (intKind PW X.w).is k key = true) (hd : s.heap.DictOf (intKind PW X.w) d kvs) (hz : kvs.length ≤ sizeLine)
    (hv : (valueAt kvs k).isSome = true) (hQ : ∀ h', h'.DictOf (intKind PW X.w) d (without kvs k) → Heap.SameBut d s.heap h' → Q () { s with heap := h', toks := s.toks + 1 }) :
    wpAny (model PW X.w) A (delItem (.ref d) key) Q E s :=
  wpAny_delItem_slot hd.typeIs (by decide) PySem.F.slot_dict_delitem
    (call_meetsIn PySem.F.slot_dict_delitem hd.typeIs PySem.F.entry_dict_delitem (PySem.F.args_dict_delitem_2 _ _) (meets_dict_delitem_pairs (intKind PW X.w) d hkey) ⟨kvs, hd, hz, hv, fun h' a b => hQ h' a b⟩)

theorem itemDel_snd {Q : Unit → Shared → Prop} {u : Unit} (h : itemDel o i st = some (u, st')) (G : OK X s loc st) (ro : VRel X s.heap loc st.next vo o) (ri : VRel X s.heap loc st.next vi i)
    (T : ThenU X s loc st st' Q) : wpAny (model PW X.w) A (delItem vo vi) Q E s := by
  cases ro with
  | @obj id hid =>
    have R := G.rel _ hid
    cases ri with
    | int k t =>
      obtain ⟨d, st₁, h1, h2⟩ := M_bind (m := getD _) h
      obtain ⟨rfl, _, hd⟩ := M_getD h1
      rw [hd] at R
      cases d with
      | idict l =>
        rcases M_ite h2 with ⟨hb, h2⟩ | ⟨_, h2⟩
        · obtain ⟨_, rfl⟩ := M_putD h2
          obtain ⟨kvs, ⟨hk, hns⟩, hr⟩ := R
          refine delItem_dict (intKind_is PW X.w k t) hk (by rw [hr.length]; exact Nat.le_trans hb.2 million) (by rw [hr.isSome]; exact hb.1) fun h' hk' hs => ?_
          have imm : ∀ b o, s.heap.get? b = some o → Imm o = true → h'.get? b = some o := fun b o e hi => by
            obtain ⟨ox, hox, hoi⟩ := (G.rel _ hid).live
            exact hs.extBut b o (fun q => by rw [q, hox] at e; cases e; rw [hoi] at hi; cases hi) e
          have P := G.put (t := s.toks + 1) (d := .idict (delK k l)) hid (fun b o hb e => hs.extBut b o hb e) ⟨_, ⟨hk', hns⟩, IRels.del (hr.mono imm (fun _ _ => rfl) (Nat.le_refl _))⟩
          exact T _ loc P.1 P.2
        · cases h2
      | _ => cases h2
    | _ => cases h
  | _ => cases h

theorem inst_at {Z : StaticOK X} {id : Nat} {C : Addr} {va : Addr} {es : List DictEntry} {m : Nat} (e : s.heap.get? va = some (instObj C (loc id))) (hh : s.heap.get? (loc id) = some (dictOf es m)) :
    InstAt s.heap va (instObj C (loc id)) C (some (dictOf es m)) := ⟨e, rfl, rfl, hh⟩

theorem attrGet_snd {Q : Value → Shared → Prop} {x : Str} {expr : Bool} (Z : StaticOK X) (h : attrGet o x st = some (a, st')) (G : OK X s loc st) (ro : VRel X s.heap loc st.next vo o) (T : Then X s loc st a st' Q) :
    wpAny (model PW X.w) A (getAttr vo x expr) Q E s := by
  cases ro with
  | @inst c C va id hid hc he =>
    rcases M_ite h with ⟨hb, h⟩ | ⟨_, h⟩
    · obtain ⟨d, st₁, h1, h2⟩ := M_bind (m := getD _) h
      obtain ⟨rfl, _, hd⟩ := M_getD h1
      have R := G.rel _ hid
      rw [hd] at R
      cases d with
      | sdict l =>
        obtain ⟨hx, rfl⟩ := M_opt h2
        obtain ⟨_, es, m, hh, hr⟩ := R
        obtain ⟨v, h3, h4⟩ := hr.getL hx
        obtain ⟨z1, z2, ⟨attr, z3, z4⟩, _⟩ := Z.cls c C hc x (by simpa using hb)
        exact get_value (G.kin Z) (inst_at (Z := Z) he hh) (plainGet_of z1).1 (findObj_own z2 z3 z4 h3) h4.handed (T.tok G h4)
      | _ => cases h2
    · cases h
  | _ => cases h

theorem attrSet_snd {Q : Unit → Shared → Prop} {x : Str} {u : Unit} (Z : StaticOK X) (h : attrSet o x a st = some (u, st')) (G : OK X s loc st) (ro : VRel X s.heap loc st.next vo o) (ra : VRel X s.heap loc st.next vv a)
    (T : ThenU X s loc st st' Q) : wpAny (model PW X.w) A (setAttr vo x vv) Q E s := by
  cases ro with
  | @inst c C va id hid hc he =>
    rcases M_ite h with ⟨hb, h⟩ | ⟨_, h⟩
    · obtain ⟨d, st₁, h1, h2⟩ := M_bind (m := getD _) h
      obtain ⟨rfl, _, hd⟩ := M_getD h1
      have R := G.rel _ hid
      rw [hd] at R
      cases d with
      | sdict l =>
        rcases M_ite h2 with ⟨hz, h2⟩ | ⟨_, h2⟩
        · obtain ⟨_, rfl⟩ := M_putD h2
          obtain ⟨nd, es, m, hh, hr⟩ := R
          obtain ⟨z1, z2, _, z5, z6, z7⟩ := Z.cls c C hc x (by simpa using hb)
          have X' := G.kin Z
          refine set_plain X' (inst_at (Z := Z) he hh) z6 ?_
          refine osa_open (s := { s with toks := s.toks + 1 }) X' (inst_at (Z := Z) he hh) z7 z5 fun b => ?_
          obtain ⟨cd, hcd, hd'⟩ := any_some z2
          refine wpAny_bind (wpAny_pure (wpAny_bind (wpAny_bind (wpAny_loadPart he (wpAny_bind ((looks_clsIn X' hcd).at ?_))))))
          rw [hd']
          refine wpAny_pure (a := some (loc id)) (wpAny_bind (wpAny_pure (wpAny_bind ?_)))
          unfold nsSet
          refine wpAny_bind (wpAny_bind (wpAny_askSetting (wpAny_pure (wpAny_bind (wpAny_mkText (wpAny_bind (wpAny_loadPart hh ?_)))))))
          have c : (!es.toArray.any (·.key.isStr x) && es.toArray.any (·.refKey)) = false := by
            rw [← Array.any_toList, ← Array.any_toList, hr.noRef, Bool.and_false]
          show wpAny _ _ (if aRefKeyMayBeTheName x es.toArray = true then _ else _) _ _ _
          rw [aRefKeyMayBeTheName_at, c, if_neg (by decide)]
          refine wpAny_updatePart hh ?_
          have e1 := Heap.get?_update_self (Obj.putName x (PyData.keyHash X.w.params x) (.str x (s.toks + 1)) vv) hh (by rw [putName_dict]; rfl)
          rw [putName_dict] at e1
          have hs := Heap.SameBut.update s.heap (loc id) (Obj.putName x (PyData.keyHash X.w.params x) (.str x (s.toks + 1)) vv)
          have imm : ∀ b o, s.heap.get? b = some o → Imm o = true → (s.heap.update (loc id) (Obj.putName x (PyData.keyHash X.w.params x) (.str x (s.toks + 1)) vv)).get? b = some o := fun b o e hi => by
            obtain ⟨ox, hox, hoi⟩ := (G.rel _ hid).live
            exact hs.extBut b o (fun q => by rw [q, hox] at e; cases e; rw [hoi] at hi; cases hi) e
          have hr' := SRels.put (t := s.toks + 1) (x := x) (hr.mono imm (fun _ _ => rfl) (Nat.le_refl _)) (ra.mono imm (fun _ _ => rfl) (Nat.le_refl _))
          have hlen : ∀ {es : List DictEntry} {l : List (Str × AVal)} {h : Heap} {N : Nat}, SRels X h loc N es l → es.length = l.length := by
            intro es l h N r
            induction r with
            | nil => rfl
            | cons _ _ ih => simp [ih]
          have hput : (putK x a l).length ≤ l.length + 1 := by
            have := congrArg List.length (putK_keys (k := x) (v := a) (l := l))
            simp only [List.length_map] at this
            rw [this]
            split <;> simp
          refine wpAny_bind (wpAny_lookBehind e1 (pastItsLine_dict (by rw [List.size_toArray, hlen hr', sizeLine_eq]; omega)) ?_)
          have P := G.put (t := s.toks + 1 + 1) (d := .sdict (putK x a l)) hid (fun b o hb e => hs.extBut b o hb e) ⟨putK_nodup nd, _, _, e1, hr'⟩
          exact wpAny_pure (T _ loc P.1 P.2)
        · cases h2
      | _ => cases h2
    · cases h
  | _ => cases h
end
end
/-! AS6 -/
section
set_option autoImplicit false
set_option maxRecDepth 100000
open PySem PySem.W PyProof.Rows PySem.Calls

section
variable {X : Cx} {A : Around} {E : Value → Shared → Prop} {s : Shared} {loc : Nat → Addr} {st st' : ASt} {va vb : Value} {a b : AVal} {n : Nat}

theorem cmp_snd {Q : Value → Shared → Prop} {op : CmpOp} {c : Bool} (Z : StaticOK X) (h : cmp op a b st = some (c, st')) (Rm : Room A n) (G : OK X s loc st) (ra : VRel X s.heap loc st.next va a) (rb : VRel X s.heap loc st.next vb b)
    (T : Then X s loc st (.bool c) st' Q) : wpAny (model PW X.w) A (compareOp op va vb) Q E s := by
  have hu : ∀ {k : Nat}, k ≤ 8 → ∀ m, A.units + min k m < cLine := fun {k} hk m => by have := Rm.units; have := Nat.min_le_left k m; omega
  cases op with
  | Eq =>
    obtain ⟨rfl, da, db, as, bs, r1, r2, c1, c2, hd, rfl⟩ := aeq_snd h G ra rb
    exact SeqAt.compareEq_reads r1 r2 c1 c2 (hu hd _) (T.here G (.bool _))
  | NotEq =>
    obtain ⟨e, st₁, h1, h2⟩ := M_bind (m := aeq a b) h
    obtain ⟨rfl, da, db, as, bs, r1, r2, c1, c2, hd, rfl⟩ := aeq_snd h1 G ra rb
    obtain ⟨rfl, rfl⟩ := M_pure h2
    exact SeqAt.compareNe_reads r1 r2 c1 c2 (hu hd _) (T.here G (.bool _))
  | Is =>
    cases rb <;> try (cases h; done)
    cases ra <;> try (cases h; done)
    all_goals (obtain ⟨rfl, rfl⟩ := M_pure h; exact is_none (T.here G (.bool _)))
  | IsNot =>
    cases rb <;> try (cases h; done)
    cases ra <;> try (cases h; done)
    all_goals (obtain ⟨rfl, rfl⟩ := M_pure h; exact isNot_none (T.here G (.bool _)))
  | Lt =>
    cases ra <;> try (cases h; done)
    cases rb <;> try (cases h; done)
    obtain ⟨rfl, rfl⟩ := M_pure h
    exact PyProof.Rows.lt_int (T.here G (.bool _))
  | Gt =>
    cases ra <;> try (cases h; done)
    cases rb <;> try (cases h; done)
    obtain ⟨rfl, rfl⟩ := M_pure h
    exact PyProof.Rows.gt_int (T.here G (.bool _))
  | In =>
    cases rb with
    | tup he htc htd hr =>
      have h' : isIn a _ st = some (c, st') := h
      unfold isIn at h'
      split at h'
      · rename_i xs d hx hd
        split at h'
        · rename_i hc
          cases h'
          obtain ⟨c1, c2⟩ := Bool.and_eq_true_iff.mp hc
          obtain ⟨as, r1⟩ := reads_of G 8 (.tup he htc htd hr) hx
          obtain ⟨bs, r2⟩ := reads_of G 8 ra hd
          refine SeqAt.in_tuple_reads r1 r2 c1 c2 ?_ (T.here G (.bool _))
          have h8 := depth_dataOf _ 8 hd
          have := Rm.units
          have := Nat.min_le_right (PyData.depthAll xs) d.depth
          omega
        · cases h'
      · cases h'
    | @obj id hid =>
      cases ra <;> try (cases h; done)
      rename_i k t
      obtain ⟨d, st₁, h1, h2⟩ := M_bind (m := getD _) h
      obtain ⟨rfl, _, hd⟩ := M_getD h1
      have R := G.rel _ hid
      rw [hd] at R
      cases d with
      | idict l =>
        obtain ⟨rfl, rfl⟩ := M_pure h2
        obtain ⟨kvs, ⟨hk, hns⟩, hr⟩ := R
        exact wpAny_in_of (intKind_is PW X.w k t) (G.notSys hid hd) hk.mapOf (by rw [hr.isSome]; exact T.tok G (.bool _))
      | _ => cases h2
    | _ => cases ra <;> cases h
  | NotIn =>
    cases rb with
    | @obj id hid =>
      cases ra <;> try (cases h; done)
      rename_i k t
      obtain ⟨d, st₁, h1, h2⟩ := M_bind (m := getD _) h
      obtain ⟨rfl, _, hd⟩ := M_getD h1
      have R := G.rel _ hid
      rw [hd] at R
      cases d with
      | idict l =>
        obtain ⟨rfl, rfl⟩ := M_pure h2
        obtain ⟨kvs, ⟨hk, hns⟩, hr⟩ := R
        exact wpAny_notIn_of (intKind_is PW X.w k t) (G.notSys hid hd) hk.mapOf (by rw [hr.isSome]; exact T.tok G (.bool _))
      | _ => cases h2
    | _ => cases ra <;> cases h
  | _ => cases h

theorem newList_snd {Q : Value → Shared → Prop} {vs : List Value} {l : List AVal} (G : OK X s loc st) (r : VRels X s.heap loc st.next vs l) (T : Then X s loc st (.obj st.next) (st.new (.list l)) Q) :
    Q (.ref s.heap.objs.size) { s with heap := s.heap.push { cls := .type "list", data := .seq vs.toArray } } := by
  have hk : ∀ b o, s.heap.get? b = some o → (s.heap.push { cls := .type "list", data := .seq vs.toArray }).get? b = some o := fun b o e => Heap.get?_push_of_some _ e
  have P := G.new' (t := s.toks) (h' := s.heap.push { cls := .type "list", data := .seq vs.toArray }) (d := .list l) (size_none s.heap) hk
    ⟨vs, 0, Heap.get?_push_size _ rfl, r.mono (fun a o e _ => hk a o e) (fun i hi => by unfold locN; rw [if_neg (Nat.ne_of_lt hi)]) (Nat.le_succ _)⟩
  have := T (.ref (locN loc st.next s.heap.objs.size st.next)) _ _ P.1 P.2 (.obj (Nat.lt_succ_self _))
  rwa [show locN loc st.next s.heap.objs.size st.next = s.heap.objs.size from by unfold locN; rw [if_pos rfl]] at this

theorem bin_snd {Q : Value → Shared → Prop} {op : Operator} {c : AVal} (h : bin op a b st = some (c, st')) (G : OK X s loc st) (ra : VRel X s.heap loc st.next va a) (rb : VRel X s.heap loc st.next vb b)
    (T : Then X s loc st c st' Q) : wpAny (model PW X.w) A (binaryOp op va vb) Q E s := by
  cases ra with
  | int i t =>
    cases rb with
    | int j u =>
      cases op with
      | Add =>
        obtain ⟨rfl, rfl⟩ := M_pure h
        exact PyProof.Rows.add_int (T.tok G (.int _ _))
      | Sub =>
        obtain ⟨rfl, rfl⟩ := M_pure h
        exact PyProof.Rows.sub_int (T.tok G (.int _ _))
      | Mult =>
        rcases M_ite h with ⟨hc, h⟩ | ⟨_, h⟩
        · obtain ⟨rfl, rfl⟩ := M_pure h
          exact PyProof.Rows.mul_int (T.tok G (.int _ _)) (IntMulOk.of_left hc)
        · cases h
      | FloorDiv =>
        rcases M_ite h with ⟨hc, h⟩ | ⟨hc, h⟩
        · cases h
        · obtain ⟨rfl, rfl⟩ := M_pure h
          rw [not_or] at hc
          exact PyProof.Rows.floordiv_int hc.1 (T.tok G (.int _ _)) (.inl (by simpa using hc.2))
      | Mod =>
        rcases M_ite h with ⟨hc, h⟩ | ⟨hc, h⟩
        · cases h
        · obtain ⟨rfl, rfl⟩ := M_pure h
          exact PyProof.Rows.mod_int' hc (T.tok G (.int _ _))
      | Pow =>
        rcases M_ite h with ⟨hc, h⟩ | ⟨hc, h⟩
        · obtain ⟨rfl, rfl⟩ := M_pure h
          obtain ⟨rfl, h0, h1⟩ := hc
          refine PyProof.Rows.pow_int h0 ?_ (T.tok G (.int _ _))
          rw [show Builtin.Int.intBits 5 = 3 from by decide +kernel]
          omega
        · cases h
      | _ => cases h
    | _ => cases op <;> cases h
  | @obj id hid =>
    cases rb with
    | @obj jd hjd =>
      cases op <;> try (cases h; done)
      obtain ⟨d, st₁, h1, h2⟩ := M_bind (m := getD _) h
      obtain ⟨rfl, _, hd⟩ := M_getD h1
      obtain ⟨d', st₂, h3, h4⟩ := M_bind (m := getD _) h2
      obtain ⟨rfl, _, hd'⟩ := M_getD h3
      have R := G.rel _ hid
      have R' := G.rel _ hjd
      rw [hd] at R
      rw [hd'] at R'
      cases d <;> try (cases h4; done)
      cases d' <;> try (cases h4; done)
      rcases M_ite h4 with ⟨hc, h4⟩ | ⟨_, h4⟩
      · obtain ⟨k, st₃, h5, h6⟩ := M_bind (m := newD _) h4
        obtain ⟨rfl, rfl⟩ := M_newD h5
        obtain ⟨rfl, rfl⟩ := M_pure h6
        obtain ⟨vs, m, hh, hr⟩ := R
        obtain ⟨vs', m', hh', hr'⟩ := R'
        refine PySem.P.add_list hh hh' ?_ (by have := hr.length; have := hr'.length; simp only [List.size_toArray]; exact Nat.le_trans (by omega) million)
        rw [show vs.toArray ++ vs'.toArray = (vs ++ vs').toArray by simp]
        exact newList_snd G (hr.append hr') T
      · cases h4
    | _ => cases op <;> cases h
  | _ => cases op <;> cases h

theorem aug_snd {Q : Value → Shared → Prop} {op : Operator} {c : AVal} (h : aug op a b st = some (c, st')) (G : OK X s loc st) (ra : VRel X s.heap loc st.next va a) (rb : VRel X s.heap loc st.next vb b)
    (T : Then X s loc st c st' Q) : wpAny (model PW X.w) A (inplaceOp op va vb) Q E s := by
  cases ra with
  | int i t =>
    cases rb with
    | int j u =>
      cases op with
      | Add =>
        obtain ⟨rfl, rfl⟩ := M_pure h
        exact wpAny_iadd_int (T.tok G (.int _ _))
      | Sub =>
        obtain ⟨rfl, rfl⟩ := M_pure h
        exact isub_int (T.tok G (.int _ _))
      | _ => cases h
    | _ => cases op <;> cases h
  | _ => cases op <;> cases h

theorem neg_snd {Q : Value → Shared → Prop} {c : AVal} (h : unary .USub a st = some (c, st')) (G : OK X s loc st) (ra : VRel X s.heap loc st.next va a) (T : Then X s loc st c st' Q) :
    wpAny (model PW X.w) A (unaryOp .USub va) Q E s := by
  cases ra with
  | int i t =>
    obtain ⟨rfl, rfl⟩ := M_pure h
    exact PyProof.Rows.neg_int (T.tok G (.int _ _))
  | _ => cases h
theorem not_snd {Q : Value → Shared → Prop} {c : AVal} (h : unary .Not a st = some (c, st')) (Rm : Room A n) (G : OK X s loc st) (ra : VRel X s.heap loc st.next va a) (T : Then X s loc st c st' Q) :
    wpAny (model PW X.w) A (unaryOp .Not va) Q E s := by
  obtain ⟨t, st₁, h1, h2⟩ := M_bind (m := truth a) h
  obtain ⟨rfl, rfl⟩ := M_pure h2
  refine PyProof.Rows.not_of ?_
  exact truth_snd h1 Rm G ra (fun s' loc' G' X' => T _ s' loc' G' X' (.bool _))
end
end
/-! AS7 -/
section
set_option autoImplicit false
set_option maxRecDepth 100000
open PySem PySem.W PyProof.Rows PySem.Calls

section
variable {X : Cx} {A : Around} {E : Value → Shared → Prop} {s : Shared} {loc : Nat → Addr} {st st' : ASt} {va vb : Value} {a b : AVal} {n : Nat}

theorem put_list {id : Nat} {vs ws : List Value} {m : Nat} {l : List AVal} {f : Array Value → Array Value} {t : Tok} (G : OK X s loc st) (hid : id < st.next) (hh : s.heap.get? (loc id) = some ⟨.type "list", none, .seq vs.toArray m, #[]⟩)
    (hf : f vs.toArray = ws.toArray) (hr : VRels X s.heap loc st.next ws l) :
    OK X { s with heap := s.heap.update (loc id) (Obj.mapSeq f), toks := t } loc (st.put id (.list l)) ∧ Ext NoW s loc st { s with heap := s.heap.update (loc id) (Obj.mapSeq f), toks := t } loc (st.put id (.list l)) := by
  have hs := Heap.SameBut.update s.heap (loc id) (Obj.mapSeq f)
  have e1 := Heap.get?_update_self (Obj.mapSeq f) hh rfl
  simp only [Obj.mapSeq, hf] at e1
  refine G.put hid (fun b o hb e => hs.extBut b o hb e) ⟨ws, _, e1, hr.mono (fun b o e hi => ?_) (fun _ _ => rfl) (Nat.le_refl _)⟩
  exact hs.extBut b o (fun q => by rw [q, hh] at e; cases e; cases hi) e

theorem OK.listAt {id : Nat} {l : List AVal} (G : OK X s loc st) (hid : id < st.next) (hd : (st.get id).data = .list l) : ∃ vs m, s.heap.get? (loc id) = some ⟨.type "list", none, .seq (List.toArray vs) m, #[]⟩ ∧ VRels X s.heap loc st.next vs l := by
  have R := G.rel id hid; rw [hd] at R; exact R
theorem OK.idictAt {id : Nat} {l : List (Int × AVal)} (G : OK X s loc st) (hid : id < st.next) (hd : (st.get id).data = .idict l) : ∃ kvs : List (Int × Value), s.heap.DictOf (intKind PW X.w) (loc id) kvs ∧ IRels X s.heap loc st.next kvs l := by
  have R := G.rel id hid; rw [hd] at R; obtain ⟨kvs, ⟨a, _⟩, b⟩ := R; exact ⟨kvs, a, b⟩

theorem append_snd {Q : Value → Shared → Prop} {id : Nat} {l : List AVal} {c : AVal} (h : mAppend id l a st = some (c, st')) (G : OK X s loc st) (hid : id < st.next) (hd : (st.get id).data = .list l) (ra : VRel X s.heap loc st.next va a)
    (T : Then X s loc st c st' Q) : wpAny (model PW X.w) A (call (.builtin "list.append") [.ref (loc id), va]) Q E s := by
  obtain ⟨vs, m, hh, hr⟩ := G.listAt hid hd
  rcases M_ite h with ⟨hb, h⟩ | ⟨_, h⟩
  · obtain ⟨u, st₁, h1, h2⟩ := M_bind (m := putD _ _) h
    obtain ⟨_, rfl⟩ := M_putD h1
    obtain ⟨rfl, rfl⟩ := M_pure h2
    have P := put_list (t := s.toks) (f := fun x => x.push va) (ws := vs ++ [va]) G hid hh (by simp) (hr.append (.cons ra .nil))
    exact call_meetsIn PySem.F.slot_list_append (isList_of hh).typeIs PySem.F.entry_list_append (PySem.F.args_list_append_2 _ _) ((list_append (loc id) vs.toArray m va (by have := hr.length; rw [List.size_toArray]; exact Nat.le_trans (by omega) million)).inModel PW X.w)
      ⟨hh, T _ _ loc P.1 P.2 .none⟩
  · cases h
theorem extend_snd {Q : Value → Shared → Prop} {id : Nat} {l : List AVal} {c : AVal} (h : mExtend id l a st = some (c, st')) (G : OK X s loc st) (hid : id < st.next) (hd : (st.get id).data = .list l) (ra : VRel X s.heap loc st.next va a)
    (T : Then X s loc st c st' Q) : wpAny (model PW X.w) A (call (.builtin "list.extend") [.ref (loc id), va]) Q E s := by
  obtain ⟨vs, m, hh, hr⟩ := G.listAt hid hd
  cases ra with
  | @obj jd hjd =>
    rcases M_ite h with ⟨_, h⟩ | ⟨hne, h⟩
    · cases h
    · obtain ⟨d, st₁, h1, h2⟩ := M_bind (m := getD _) h
      obtain ⟨rfl, _, hd'⟩ := M_getD h1
      cases d with
      | list k =>
        rcases M_ite h2 with ⟨hb, h2⟩ | ⟨_, h2⟩
        · obtain ⟨u, st₁, h1, h2⟩ := M_bind (m := putD _ _) h2
          obtain ⟨_, rfl⟩ := M_putD h1
          obtain ⟨rfl, rfl⟩ := M_pure h2
          obtain ⟨ws, m', hh', hr'⟩ := G.listAt hjd hd'
          have := hr.length
          have := hr'.length
          have hz := million
          have P := put_list (t := s.toks) (f := fun x => x ++ ws.toArray) (ws := vs ++ ws) G hid hh (by simp) (hr.append hr')
          refine call_meetsIn PySem.F.slot_list_extend (isList_of hh).typeIs PySem.F.entry_list_extend (PySem.F.args_list_extend_2 _ _)
            ((AutoSeq1.list_extend_list_list_0 (loc id) vs.toArray m (loc jd) ws.toArray m' ?_ ?_ ?_).inModel PW X.w) ⟨hh, hh', T _ _ loc P.1 P.2 .none⟩
          · simp only [List.size_toArray, Builtin.List.listTooLong, Bool.and_eq_true, decide_eq_true_eq, not_and]; intro _; omega
          · rw [List.size_toArray]; omega
          · rw [List.size_toArray, List.size_toArray]; omega
        · cases h2
      | _ => cases h2
  | _ => cases h

theorem ints_of {h : Heap} {N : Nat} {vs : List Value} {l : List AVal} (r : VRels X h loc N vs l) (hi : l.all isIntA = true) : ∀ v ∈ vs, ∃ k t, v = .int k t := by
  induction l generalizing vs with
  | nil => cases r; intro v hv; cases hv
  | cons b l ih =>
    cases r with
    | cons rv r =>
      rw [List.all_cons, Bool.and_eq_true] at hi
      intro v hv
      rcases List.mem_cons.mp hv with rfl | hv
      · cases rv <;> first | exact ⟨_, _, rfl⟩ | cases hi.1
      · exact ih r hi.2 v hv
def eqV (k : Int) : Value → Bool
  | .int j _ => j == k
  | _ => false
theorem eqV_eq {h : Heap} {N : Nat} {v : Value} {a : AVal} (r : VRel X h loc N v a) (k : Int) : eqV k v = eqIntA k a := by cases r <;> rfl
theorem erase_rel {h : Heap} {N : Nat} {vs : List Value} {l : List AVal} (r : VRels X h loc N vs l) (k : Int) : VRels X h loc N (vs.eraseP (eqV k)) (l.eraseP (eqIntA k)) := by
  induction l generalizing vs with
  | nil => cases r; exact .nil
  | cons b l ih =>
    cases r with
    | cons rv r =>
      rw [List.eraseP_cons, List.eraseP_cons, eqV_eq rv k]
      cases eqIntA k b with
      | true => exact r
      | false => exact .cons rv (ih r)
theorem first_of (k : Int) : ∀ {vs : List Value}, (vs.any (eqV k)) = true → ∃ j, ∃ hj : j < vs.length, eqV k vs[j] = true ∧ (∀ m (hm : m < vs.length), m < j → eqV k vs[m] = false) ∧ vs.eraseIdx j = vs.eraseP (eqV k)
  | [], h => by cases h
  | v :: vs, h => by
    cases q : eqV k v with
    | true => exact ⟨0, by simp, q, fun m _ hm => absurd hm (Nat.not_lt_zero _), by rw [List.eraseP_cons, q]; rfl⟩
    | false =>
      rw [List.any_cons, q, Bool.false_or] at h
      obtain ⟨j, hj, h1, h2, h3⟩ := first_of k h
      refine ⟨j + 1, by simpa using hj, by simpa using h1, fun m hm hlt => ?_, by rw [List.eraseP_cons, q, List.eraseIdx_cons_succ, h3]; rfl⟩
      cases m with
      | zero => exact q
      | succ m => exact h2 m (by simpa using hm) (by omega)
theorem remove_snd {Q : Value → Shared → Prop} {id : Nat} {l : List AVal} {c : AVal} (h : mRemove id l a st = some (c, st')) (G : OK X s loc st) (hid : id < st.next) (hd : (st.get id).data = .list l) (ra : VRel X s.heap loc st.next va a)
    (T : Then X s loc st c st' Q) : wpAny (model PW X.w) A (call (.builtin "list.remove") [.ref (loc id), va]) Q E s := by
  obtain ⟨vs, m, hh, hr⟩ := G.listAt hid hd
  cases ra with
  | int k t =>
    rcases M_ite h with ⟨hb, h⟩ | ⟨_, h⟩
    · obtain ⟨u, st₁, h1, h2⟩ := M_bind (m := putD _ _) h
      obtain ⟨_, rfl⟩ := M_putD h1
      obtain ⟨rfl, rfl⟩ := M_pure h2
      simp only [Bool.and_eq_true, decide_eq_true_eq] at hb
      obtain ⟨⟨hb1, hb2⟩, hb3⟩ := hb
      have hany : vs.any (eqV k) = true := by
        have : ∀ {vs : List Value} {l : List AVal}, VRels X s.heap loc st.next vs l → vs.any (eqV k) = l.any (eqIntA k) := by
          intro vs l r
          induction l generalizing vs with
          | nil => cases r; rfl
          | cons b l ih => cases r with | cons rv r => rw [List.any_cons, List.any_cons, ih r, eqV_eq rv k]
        rw [this hr]; exact hb2
      obtain ⟨j, hj, h1, h2, h3⟩ := first_of k hany
      have P := put_list (t := s.toks) (f := fun xs => xs.eraseIdxIfInBounds j) (ws := vs.eraseP (eqV k)) G hid hh (by rw [← h3]; simp [List.eraseIdxIfInBounds_toArray]) (erase_rel hr k)
      have hints := ints_of hr hb1
      refine call_meetsIn PySem.F.slot_list_remove (isList_of hh).typeIs PySem.F.entry_list_remove (PySem.F.args_list_remove_2 _ _)
        ((MeetsSeq.list_remove (loc id) vs.toArray m (.int k t) (eqV k) (fun y hy => ?_) j (by simpa using hj) (by simpa using h1) (fun m hm hlt => by simpa using h2 m (by simpa using hm) hlt) ?_).inModel PW X.w) ⟨hh, T _ _ loc P.1 P.2 .none⟩
      · obtain ⟨i, u, rfl⟩ := hints y (by simpa using hy)
        exact MeetsSeq.EqGives.int i k u t
      · have := hr.length; rw [List.size_toArray]; exact Nat.le_trans (by omega) million
    · cases h
  | _ => cases h

theorem erase_last {α : Type} : ∀ {l : List α}, l.length - 1 < l.length → (l.eraseIdx (l.length - 1)) = l.dropLast
  | [_], _ => rfl
  | a :: b :: r, _ => by
    have := erase_last (l := b :: r) (by simp)
    simp only [List.length_cons, Nat.add_sub_cancel, List.eraseIdx_cons_succ, List.dropLast_cons₂] at this ⊢
    rw [this]
theorem popL_snd {Q : Value → Shared → Prop} {id : Nat} {l : List AVal} {c : AVal} (h : mPop id l st = some (c, st')) (G : OK X s loc st) (hid : id < st.next) (hd : (st.get id).data = .list l)
    (T : Then X s loc st c st' Q) : wpAny (model PW X.w) A (call (.builtin "list.pop") [.ref (loc id)]) Q E s := by
  obtain ⟨vs, m, hh, hr⟩ := G.listAt hid hd
  cases hv : l.getLast? with
  | none => unfold mPop at h; rw [hv] at h; cases h
  | some v =>
    unfold mPop at h
    rw [hv] at h
    rcases M_ite h with ⟨hb, h⟩ | ⟨_, h⟩
    · obtain ⟨u, st₁, h1, h2⟩ := M_bind (m := putD _ _) h
      obtain ⟨_, rfl⟩ := M_putD h1
      obtain ⟨rfl, rfl⟩ := M_pure h2
      have hlen := hr.length
      rw [List.getLast?_eq_getElem?] at hv
      obtain ⟨w, h3, h4⟩ := hr.get hv
      rw [← hlen] at h3
      have P := put_list (t := s.toks) (f := fun xs => xs.eraseIdxIfInBounds (vs.toArray.size - 1)) (ws := vs.dropLast) G hid hh
        (by simp only [List.size_toArray, List.eraseIdxIfInBounds_toArray]; rw [erase_last (List.getElem?_eq_some_iff.mp h3).1]) hr.dropLast
      exact call_meetsIn PySem.F.slot_list_pop (isList_of hh).typeIs PySem.F.entry_list_pop (PySem.F.args_list_pop_1 _) ((MeetsSeq.list_pop_last (loc id) vs.toArray m w (by simpa using h3) (by rw [List.size_toArray]; exact Nat.le_trans (by omega) million)).inModel PW X.w)
        ⟨hh, T _ _ loc P.1 P.2 (h4.ext P.2)⟩
    · cases h

theorem get_snd {Q : Value → Shared → Prop} {id : Nat} {l : List (Int × AVal)} {k : Int} {t : Tok} {rest : List AVal} {vs : List Value} {c : AVal} (Z : StaticOK X) (h : mGet l k rest st = some (c, st')) (G : OK X s loc st) (hid : id < st.next) (hd : (st.get id).data = .idict l)
    (rr : VRels X s.heap loc st.next vs rest) (T : Then X s loc st c st' Q) : wpAny (model PW X.w) A (call (.builtin "dict.get") (.ref (loc id) :: .int k t :: vs)) Q E s := by
  obtain ⟨kvs, hk, hr⟩ := G.idictAt hid hd
  cases rest with
  | nil =>
    cases rr
    obtain ⟨rfl, rfl⟩ := M_pure h
    refine call_meetsIn PySem.F.slot_dict_get hk.typeIs PySem.F.entry_dict_get (PySem.F.args_dict_get_2 _ _) (meets_dict_get (intKind PW X.w) (loc id) (intKind_is PW X.w k t) (G.notSys hid hd)) ⟨_, hk.mapOf, ?_⟩
    cases e : getK k l with
    | none => rw [hr.none e]; rw [e] at T; exact T.tok G .none
    | some a => obtain ⟨v, h1, h2⟩ := hr.getK e; rw [h1]; rw [e] at T; exact T.tok G h2
  | cons d rest =>
    cases rest with
    | nil =>
      cases rr with
      | cons rd rr =>
        cases rr
        obtain ⟨rfl, rfl⟩ := M_pure h
        refine call_meetsIn PySem.F.slot_dict_get hk.typeIs PySem.F.entry_dict_get (PySem.F.args_dict_get_3 _ _ _) (meets_dict_get_default (intKind PW X.w) (loc id) (intKind_is PW X.w k t) (G.notSys hid hd) _) ⟨_, hk.mapOf, ?_⟩
        cases e : getK k l with
        | none => rw [hr.none e]; rw [e] at T; exact T.tok G rd
        | some a => obtain ⟨v, h1, h2⟩ := hr.getK e; rw [h1]; rw [e] at T; exact T.tok G h2
    | cons _ _ => cases h

theorem popK_snd {Q : Value → Shared → Prop} {id : Nat} {l : List (Int × AVal)} {k : Int} {t : Tok} {rest : List AVal} {vs : List Value} {c : AVal} (h : mPopK id l k rest st = some (c, st')) (G : OK X s loc st) (hid : id < st.next) (hd : (st.get id).data = .idict l)
    (rr : VRels X s.heap loc st.next vs rest) (T : Then X s loc st c st' Q) : wpAny (model PW X.w) A (call (.builtin "dict.pop") (.ref (loc id) :: .int k t :: vs)) Q E s := by
  obtain ⟨kvs, hk, hr⟩ := G.idictAt hid hd
  cases hv : getK k l with
  | none => unfold mPopK at h; rw [hv] at h; cases rest <;> cases h
  | some v =>
    unfold mPopK at h
    rw [hv] at h
    cases rr <;> try (cases h; done)
    rcases M_ite h with ⟨hb, h⟩ | ⟨_, h⟩
    · obtain ⟨u, st₁, h1, h2⟩ := M_bind (m := putD _ _) h
      obtain ⟨_, rfl⟩ := M_putD h1
      obtain ⟨rfl, rfl⟩ := M_pure h2
      obtain ⟨w, h3, h4⟩ := hr.getK hv
      refine call_meetsIn PySem.F.slot_dict_pop hk.typeIs PySem.F.entry_dict_pop (PySem.F.args_dict_pop_2 _ _) (meets_dict_pop_there (intKind PW X.w) (loc id) (intKind_is PW X.w k t) [] (.inl rfl) rfl) ⟨kvs, w, hk, by rw [hr.length]; exact Nat.le_trans hb million, h3, fun h' hk' hs => ?_⟩
      have imm : ∀ b o, s.heap.get? b = some o → Imm o = true → h'.get? b = some o := fun b o e hi => by
        obtain ⟨ox, hox, hoi⟩ := (G.rel _ hid).live
        exact hs.extBut b o (fun q => by rw [q, hox] at e; cases e; rw [hoi] at hi; cases hi) e
      have P := G.put (t := s.toks + 1) (d := .idict (delK k l)) hid (fun b o hb e => hs.extBut b o hb e) ⟨_, ⟨hk', by simpa using G.notSys hid hd⟩, IRels.del (hr.mono imm (fun _ _ => rfl) (Nat.le_refl _))⟩
      exact T _ _ loc P.1 P.2 (h4.ext P.2)
    · cases h
end
end
/-! AS8 -/
section
set_option autoImplicit false
set_option maxRecDepth 100000
open PySem PySem.W PyProof.Rows PySem.Calls

section
variable {X : Cx} {A : Around} {E : Value → Shared → Prop} {s : Shared} {loc : Nat → Addr} {st st' : ASt} {va vb : Value} {a b : AVal} {n : Nat}

/-- a new list at an address that was free -/
theorem new_list {h' : Heap} {t : Tok} {B : Addr} {m : Nat} {vs : List Value} {l : List AVal} {Q : Value → Shared → Prop} (G : OK X s loc st) (hB : s.heap.get? B = none) (hk : ∀ b o, s.heap.get? b = some o → h'.get? b = some o)
    (e : h'.get? B = some ⟨.type "list", none, .seq vs.toArray m, #[]⟩) (r : VRels X h' loc st.next vs l) (T : Then X s loc st (.obj st.next) (st.new (.list l)) Q) : Q (.ref B) { s with heap := h', toks := t } := by
  have P := G.new' (t := t) (d := .list l) hB hk ⟨vs, m, e, r.mono (fun a o e _ => e) (fun i hi => by unfold locN; rw [if_neg (Nat.ne_of_lt hi)]) (Nat.le_succ _)⟩
  have := T (.ref (locN loc st.next B st.next)) _ _ P.1 P.2 (.obj (Nat.lt_succ_self _))
  rwa [show locN loc st.next B st.next = B from by unfold locN; rw [if_pos rfl]] at this
theorem none_ge (h : Heap) {a : Addr} (ha : h.objs.size ≤ a) : h.get? a = none := by
  cases q : h.get? a with
  | none => rfl
  | some o => exact absurd (Heap.lt_size q) (Nat.not_lt.mpr ha)

theorem len_snd {Q : Value → Shared → Prop} {c : AVal} (h : builtinA "len" a st = some (c, st')) (G : OK X s loc st) (ra : VRel X s.heap loc st.next va a) (T : Then X s loc st c st' Q) :
    wpAny (model PW X.w) A (call (.builtin "len") [va]) Q E s := by
  unfold builtinA at h
  rw [if_pos (by decide)] at h
  cases ra with
  | @obj id hid =>
    obtain ⟨d, st₁, h1, h2⟩ := M_bind (m := getD _) h
    obtain ⟨rfl, _, hd⟩ := M_getD h1
    cases d with
    | list l =>
      rcases M_ite h2 with ⟨hb, h2⟩ | ⟨_, h2⟩
      · obtain ⟨rfl, rfl⟩ := M_pure h2
        obtain ⟨vs, m, hh, hr⟩ := G.listAt hid hd
        have hl := hr.length
        refine call_len_list (isList_of hh) (by simp only [List.size_toArray]; omega) ?_
        simp only [List.size_toArray, hl]
        exact T.tok G (.int _ _)
      · cases h2
    | _ => cases h2
  | _ => cases h

theorem ints_val {h : Heap} {N : Nat} : ∀ {vs : List Value} {l : List AVal} {ns : List Int}, VRels X h loc N vs l → l.mapM asInt = some ns → IntsAre vs ns
  | [], _, ns, r, e => by
    cases r
    simp only [List.mapM_nil, Option.pure_def, Option.some.injEq] at e
    subst e; exact .nil
  | v :: vs, a :: l, ns, r, e => by
    cases r with
    | cons rv r =>
      simp only [List.mapM_cons, Option.pure_def, Option.bind_eq_bind, Option.bind_eq_some_iff] at e
      obtain ⟨x, h1, ms, h2, h3⟩ := e
      cases h3
      cases rv <;> try (cases h1; done)
      cases h1
      exact .cons _ _ (ints_val r h2)
  | v :: vs, [], ns, r, e => by cases r
theorem ints_get {vs : List Value} {ns : List Int} (r : IntsAre vs ns) : ∀ {i : Nat} {v : Value}, vs[i]? = some v → ∃ t, v = .int (ns.getD i 0) t := by
  induction r with
  | nil => intro i v e; simp at e
  | cons k t _ ih =>
    intro i v e
    cases i with
    | zero => simp only [List.getElem?_cons_zero, Option.some.injEq] at e; subst e; exact ⟨t, rfl⟩
    | succ i => simp only [List.getElem?_cons_succ] at e; exact ih e
theorem ints_length {vs : List Value} {ns : List Int} (r : IntsAre vs ns) : vs.length = ns.length := by
  induction r with
  | nil => rfl
  | cons _ _ _ ih => simp [ih]
theorem ints_rel {h : Heap} {N : Nat} {vs : List Value} {ns : List Int} (r : IntsAre vs ns) : VRels X h loc N vs (ns.map .int) := by
  induction r with
  | nil => exact .nil
  | cons k t _ ih => exact .cons (.int k t) ih
theorem preSum_add (val : Nat → Int) : ∀ n, preSum val (n + 1) = val 0 + preSum (fun i => val (i + 1)) n
  | 0 => by simp [preSum]
  | n + 1 => by rw [preSum, preSum_add val n, preSum]; omega
theorem preSum_sum : ∀ ns : List Int, preSum (fun i => ns.getD i 0) ns.length = ns.sum
  | [] => rfl
  | k :: ns => by
    rw [List.length_cons, preSum_add, List.sum_cons, ← preSum_sum ns]
    rfl

theorem sum_snd {Q : Value → Shared → Prop} {c : AVal} (h : builtinA "sum" a st = some (c, st')) (Rm : Room A n) (G : OK X s loc st) (ra : VRel X s.heap loc st.next va a) (T : Then X s loc st c st' Q) :
    wpAny (model PW X.w) A (call (.builtin "sum") [va]) Q E s := by
  unfold builtinA at h
  rw [if_neg (by decide), if_pos (by decide)] at h
  cases ra with
  | @obj id hid =>
    obtain ⟨d, st₁, h1, h2⟩ := M_bind (m := getD _) h
    obtain ⟨rfl, _, hd⟩ := M_getD h1
    cases d with
    | list l =>
      obtain ⟨ns, st₂, h3, h4⟩ := M_bind (m := opt _) h2
      obtain ⟨hns, rfl⟩ := M_opt h3
      obtain ⟨rfl, rfl⟩ := M_pure h4
      obtain ⟨vs, m, hh, hr⟩ := G.listAt hid hd
      have hi := ints_val hr hns
      have hne : loc id ≠ s.heap.objs.size := Nat.ne_of_lt (Heap.lt_size hh)
      have hold : ∀ b o, s.heap.get? b = some o → (s.heap.push { cls := .type "list_iterator", data := .fields #[.ref (loc id), .int 0 0] }).get? b = some o := fun b o e => Heap.get?_push_of_some _ e
      have W := Walks.list (prog := PW) (w := X.w) (A := A.in1) Rm.handled s.heap.objs.size (loc id) hne vs.toArray
      refine call_sum_walkG (wpAny_pyIter_list (isList_of hh) ⟨s.heap.objs.size, _, _, _, _, _, fun i => ns.getD i 0, rfl, W,
        ⟨⟨_, Heap.get?_push_size _ rfl, rfl, rfl⟩, (isList_of (hold _ _ hh))⟩, fun b hb => ?_, fun i v hv => ints_get hi (by simpa using hv), fun h' tk t' hk => ?_⟩)
      · rw [Heap.size_push]
        simp only [List.mem_cons, List.not_mem_nil, or_false] at hb
        rcases hb with rfl | rfl
        · exact Nat.lt_succ_self _
        · exact Nat.lt_succ_of_lt (Heap.lt_size hh)
      · rw [List.size_toArray, ints_length hi, preSum_sum]
        have P := G.keeps (h' := h') (t := tk) (fun b o e => hk b o (by simp only [List.mem_singleton]; exact Nat.ne_of_lt (Heap.lt_size e)) (hold b o e))
        exact T _ _ loc P.1 P.2 (.int _ _)
    | _ => cases h2
  | _ => cases h

theorem insI_perm (a : Int) : ∀ l : List Int, (insI a l).Perm (a :: l)
  | [] => .refl _
  | b :: r => by
    unfold insI
    split
    · exact .refl _
    · exact ((insI_perm a r).cons b).trans (.swap a b r)
theorem sortI_perm : ∀ l : List Int, (sortI l).Perm l
  | [] => .refl _
  | a :: r => (insI_perm a _).trans ((sortI_perm r).cons a)
theorem insI_sorted (a : Int) : ∀ {l : List Int}, l.Pairwise (· ≤ ·) → (insI a l).Pairwise (· ≤ ·)
  | [], _ => List.pairwise_singleton _ _
  | b :: r, h => by
    unfold insI
    split
    · rename_i hab
      exact List.pairwise_cons.mpr ⟨fun c hc => by
        rcases List.mem_cons.mp hc with rfl | hc
        · exact hab
        · exact Int.le_trans hab ((List.pairwise_cons.mp h).1 c hc), h⟩
    · rename_i hab
      refine List.pairwise_cons.mpr ⟨fun c hc => ?_, insI_sorted a (List.pairwise_cons.mp h).2⟩
      rcases List.mem_cons.mp ((insI_perm a r).mem_iff.mp hc) with rfl | hc
      · omega
      · exact (List.pairwise_cons.mp h).1 c hc
theorem sortI_sorted : ∀ l : List Int, (sortI l).Pairwise (· ≤ ·)
  | [] => .nil
  | a :: r => insI_sorted a (sortI_sorted r)
theorem sorted_unique : ∀ {l m : List Int}, l.Pairwise (· ≤ ·) → m.Pairwise (· ≤ ·) → l.Perm m → l = m
  | [], m, _, _, p => by rw [List.nil_perm.mp p]
  | a :: l, [], _, _, p => by have := p.length_eq; simp at this
  | a :: l, b :: m, h, k, p => by
    obtain ⟨h1, h2⟩ := List.pairwise_cons.mp h
    obtain ⟨k1, k2⟩ := List.pairwise_cons.mp k
    have hab : a = b := by
      have ha : a ∈ b :: m := p.mem_iff.mp (.head _)
      have hb : b ∈ a :: l := p.mem_iff.mpr (.head _)
      rcases List.mem_cons.mp ha with e | ha
      · exact e
      · rcases List.mem_cons.mp hb with e | hb
        · exact e.symm
        · have := h1 b hb
          have := k1 a ha
          omega
    subst hab
    rw [sorted_unique h2 k2 ((List.perm_cons a).mp p)]

theorem sorted_snd {Q : Value → Shared → Prop} {c : AVal} (h : builtinA "sorted" a st = some (c, st')) (G : OK X s loc st) (ra : VRel X s.heap loc st.next va a) (T : Then X s loc st c st' Q) :
    wpAny (model PW X.w) A (call (.builtin "sorted") [va]) Q E s := by
  unfold builtinA at h
  rw [if_neg (by decide), if_neg (by decide), if_pos (by decide)] at h
  cases ra with
  | @obj id hid =>
    obtain ⟨d, st₁, h1, h2⟩ := M_bind (m := getD _) h
    obtain ⟨rfl, _, hd⟩ := M_getD h1
    cases d with
    | list l =>
      obtain ⟨ns, st₂, h3, h4⟩ := M_bind (m := opt _) h2
      obtain ⟨hns, rfl⟩ := M_opt h3
      rcases M_ite h4 with ⟨hb, h4⟩ | ⟨_, h4⟩
      · obtain ⟨k, st₃, h5, h6⟩ := M_bind (m := newD _) h4
        obtain ⟨rfl, rfl⟩ := M_newD h5
        obtain ⟨rfl, rfl⟩ := M_pure h6
        obtain ⟨vs, m, hh, hr⟩ := G.listAt hid hd
        have hi := ints_val hr hns
        refine PyProof.Rows.sorted_ints (isList_of hh) hi (by rw [hr.length]; exact hb) fun out ns' a1 a2 a3 => ?_
        obtain ⟨e, he⟩ := sortedAll_at s.heap vs out
        obtain rfl : ns' = sortI ns := sorted_unique a3 (sortI_sorted ns) (a2.trans (sortI_perm ns).symm)
        exact new_list (t := s.toks) (vs := out.toList) (l := (sortI ns).map .int) G (none_ge _ (Nat.le_succ _)) (fun _ _ => sortedAll_old) (by simpa [seqObj] using he) (ints_rel a1) T
      · cases h4
    | _ => cases h2
  | _ => cases h
end
end
/-! AS9 -/
section
set_option autoImplicit false
set_option maxRecDepth 100000
open PySem PySem.W PyProof.Rows PySem.Calls

theorem setv_lookup (x y : Str) (v : AVal) : ∀ l : List (Str × AVal), (setv x v l).lookup y = if y = x then some v else l.lookup y
  | [] => by
    unfold setv
    rw [List.lookup_cons]
    by_cases q : y = x
    · subst q; simp
    · have : (y == x) = false := by simp [q]
      rw [this, if_neg q]
  | (z, w) :: r => by
    unfold setv
    by_cases q : z = x
    · subst q
      simp only [beq_self_eq_true, if_true, List.lookup_cons]
      by_cases q' : y = z
      · subst q'; simp
      · have : (y == z) = false := by simp [q']
        rw [this, if_neg q']
    · have q2 : (z == x) = false := by simp [q]
      simp only [q2, Bool.false_eq_true, if_false, List.lookup_cons]
      by_cases q' : y = z
      · subst q'; simp [q]
      · have : (y == z) = false := by simp [q']
        rw [this]; exact setv_lookup x y v r

theorem Ext.trans' {W W' W'' : Addr → Prop} {s s' s'' : Shared} {loc loc' loc'' : Nat → Addr} {st st' st'' : ASt} (x : Ext W s loc st s' loc' st') (y : Ext W' s' loc' st' s'' loc'' st'')
    (h1 : ∀ b, W b → W'' b ∨ s.heap.get? b = none) (h2 : ∀ b, W' b → W'' b ∨ s.heap.get? b = none) : Ext W'' s loc st s'' loc'' st'' := by
  have x' : Ext (fun b => W b ∨ W' b) s loc st s' loc' st' := x.mono fun _ => .inl
  have y' : Ext (fun b => W b ∨ W' b) s' loc' st' s'' loc'' st'' := y.mono fun _ => .inr
  have z := x'.trans y'
  refine ⟨z.le, z.at_, z.fresh, fun b o e hn hw => z.keep b o e hn fun q => ?_, z.live, z.imm, z.verLe, z.ver, z.gens, z.os⟩
  rcases q with q | q
  · rcases h1 b q with q | q
    · exact hw q
    · rw [q] at e; cases e
  · rcases h2 b q with q | q
    · exact hw q
    · rw [q] at e; cases e

section
variable {X : Cx} {A : Around} {E : Value → Shared → Prop} {s : Shared} {loc : Nat → Addr} {st st' : ASt} {env : Env} {ae ae' : AEnv} {va : Value} {a : AVal}

theorem OK.notLive {W : Addr → Prop} (G : OK X s loc st) {i : Nat} (hi : i < st.next) {c : Addr} {o : Obj} {v : Option Value} (e : s.heap.get? c = some o) (hd : o.data = .cell v) : loc i ≠ c :=
  fun q => notCell_of_ORel (G.rel i hi) (by rw [q]; exact e) hd

theorem EnvOK.live (V : EnvOK X env ae s.heap loc st.next) {b : Addr} (h : Wr env b) (hx : ∀ x, env.cells.lookup x = some b → env.kindOf x = some .cell ∨ env.kindOf x = some .free) : ∃ o, s.heap.get? b = some o := by
  rcases h with rfl | ⟨x, h⟩
  · obtain ⟨m, ⟨o, _, _, e, _⟩, _⟩ := V.ns; exact ⟨o, e⟩
  · obtain ⟨c, hc, o, v, e, _⟩ := V.cell x (hx x h)
    rw [h] at hc; cases hc; exact ⟨o, e⟩

/-- what a store of names of this scope may write -/
structure WOK (sc : Scope) (env : Env) (W : Addr → Prop) : Prop where
  l : W env.locals
  c : ∀ x b, sc.names.lookup x = some .cell → env.cells.lookup x = some b → W b
theorem WOK.wr (sc : Scope) : WOK sc env (Wr env) := ⟨.inl rfl, fun x b _ h => .inr ⟨x, h⟩⟩

theorem storeName_snd {W : Addr → Prop} {x : Str} {Q : Unit → Shared → Prop} (wo : WOK ae.sc env W) (h : ae.set x a = some ae') (G : OK X s loc st) (V : EnvOK X env ae s.heap loc st.next) (ra : VRel X s.heap loc st.next va a)
    (hQ : ∀ s', OK X s' loc st → Ext W s loc st s' loc st → EnvOK X env ae' s'.heap loc st.next → Q () s') : wpAny (model PW X.w) A (storeName env x va) Q E s := by
  unfold AEnv.set at h
  cases hk : ae.sc.names.lookup x with
  | none => rw [hk] at h; cases h
  | some k =>
    rw [hk] at h
    have hp : (env.scope.kind == .class || (env.scope.kind == .module && env.locals != env.globals)) = false := by rw [V.kind]; rfl
    cases k with
    | «local» =>
      cases h
      have hl : env.kindOf x = some .local := by
        rcases V.kindOf x _ hk with q | q
        · exact q
        · cases q.1
      obtain ⟨m, hm, hr⟩ := V.ns
      obtain ⟨oL, esL, epL, hoL, hdL, hL2⟩ := hm
      refine wpAny_storeName_local hl ⟨oL, esL, epL, hoL, hdL, hL2⟩ (fun h' hn hs => ?_) hp
      have P := G.but (h' := h') (t := s.toks + 1) V.apart V.newL hoL (Imm.notDict hdL) (let ⟨o, _, _, e, _⟩ := hn; ⟨o, e⟩) (fun b o hb e => hs.extBut b o hb e)
      have x' := P.2.mono (W' := W) (fun b q => q ▸ wo.l)
      refine hQ _ P.1 x' ⟨V.kind, V.glob, V.blt, V.kindOf, ⟨_, hn, fun y c hy hky => ?_⟩, fun y hy => ?_, V.inj, V.apart, V.newL, V.newC, V.celled⟩
      · dsimp only at hy
        rw [setv_lookup] at hy
        by_cases q : y = x
        · rw [if_pos q] at hy; cases hy
          exact ⟨va, if_pos q, ra.ext x'⟩
        · rw [if_neg q] at hy
          obtain ⟨v, h1, h2⟩ := hr y c hy hky
          exact ⟨v, (if_neg q).trans h1, h2.ext x'⟩
      · obtain ⟨c, hc, o, v, ho, hd, hv⟩ := V.cell y hy
        have hcl : c ≠ env.locals := fun q => by rw [q, hoL] at ho; cases ho; rw [hdL] at hd; cases hd
        refine ⟨c, hc, o, v, hs.extBut c o hcl ho, hd, fun b hb => ?_⟩
        dsimp only at hb
        rw [setv_lookup] at hb
        by_cases q : y = x
        · subst q
          rw [hl] at hy
          rcases hy with hy | hy <;> cases hy
        · rw [if_neg q] at hb
          obtain ⟨u, h1, h2⟩ := hv b hb
          exact ⟨u, h1, h2.ext x'⟩
    | cell =>
      cases h
      have hl : env.kindOf x = some .cell := by
        rcases V.kindOf x _ hk with q | q
        · exact q
        · cases q.1
      obtain ⟨c, hc, o, v, ho, hd, hv⟩ := V.cell x (.inl hl)
      refine wpAny_storeName_cell V.kind hl hc ⟨o, ho, hd⟩ fun h' hv' hs => ?_
      obtain ⟨o', ho', hd'⟩ := hv'
      have P := G.but (h' := h') (t := s.toks) (fun i hi => G.notLive (W := NoW) hi ho hd) (V.newC x c hc) ho (Imm.notCell hd) ⟨o', ho'⟩ (fun b o hb e => hs.extBut b o hb e)
      have x' := P.2.mono (W' := W) (fun b q => wo.c x b hk (by rw [q]; exact hc))
      refine hQ _ P.1 x' ⟨V.kind, V.glob, V.blt, V.kindOf, ?_, fun y hy => ?_, V.inj, V.apart, V.newL, V.newC, V.celled⟩
      · obtain ⟨m, ⟨oL, esL, epL, hoL, hdL, hL2⟩, hr⟩ := V.ns
        have hcl : env.locals ≠ c := fun q => by rw [q, ho] at hoL; cases hoL; rw [hd] at hdL; cases hdL
        refine ⟨m, ⟨oL, esL, epL, hs.extBut _ _ hcl hoL, hdL, hL2⟩, fun y b hy hky => ?_⟩
        dsimp only at hy
        rw [setv_lookup] at hy
        by_cases q : y = x
        · subst q; rw [hl] at hky; cases hky
        · rw [if_neg q] at hy
          obtain ⟨u, h1, h2⟩ := hr y b hy hky
          exact ⟨u, h1, h2.ext x'⟩
      · by_cases q : y = x
        · subst q
          refine ⟨c, hc, o', _, ho', hd', fun b hb => ?_⟩
          dsimp only at hb
          rw [setv_lookup, if_pos rfl] at hb
          cases hb
          exact ⟨va, rfl, ra.ext x'⟩
        · obtain ⟨d, hdc, od, u, hod, hdd, hu⟩ := V.cell y hy
          have hne : d ≠ c := fun e => q (V.inj y x c (e ▸ hdc) hc)
          refine ⟨d, hdc, od, u, hs.extBut d od hne hod, hdd, fun b hb => ?_⟩
          dsimp only at hb
          rw [setv_lookup, if_neg q] at hb
          obtain ⟨w, h1, h2⟩ := hu b hb
          exact ⟨w, h1, h2.ext x'⟩
    | _ => cases h

theorem bindName_snd {W : Addr → Prop} {x : Str} {Q : Unit → Shared → Prop} (wo : WOK ae.sc env W) (h : ae.set x a = some ae') (G : OK X s loc st) (V : EnvOK X env ae s.heap loc st.next) (ra : VRel X s.heap loc st.next va a)
    (hQ : ∀ s', OK X s' loc st → Ext W s loc st s' loc st → EnvOK X env ae' s'.heap loc st.next → Q () s') : wpAny (model PW X.w) A (bindName env x va) Q E s := by
  unfold bindName
  refine wpAny_bind (wpAny_holding (wpAny_point (wpAny_bind (storeName_snd wo h G V ra fun s' a b c => wpAny_point (hQ s' a b c)))))
end
end
/-! AS10 -/
section
set_option autoImplicit false
set_option maxRecDepth 100000
open PySem PySem.W PyProof.Rows PySem.Calls

inductive FlowRel (X : Cx) (h : Heap) (loc : Nat → Addr) (N : Nat) : Flow → Out → Prop
  | next : FlowRel X h loc N .next .next
  | ret {v : Value} {a : AVal} : VRel X h loc N v a → FlowRel X h loc N (.ret v) (.ret a)

structure Snd (X : Cx) (r : Rec) (n : Nat) : Prop where
  ev : ∀ {e : Expr} {ae : AEnv} {st st' : ASt} {a : AVal}, r.ev e ae st = some (a, st') → ∀ {A : Around} {env : Env} {s : Shared} {loc : Nat → Addr} {E : Value → Shared → Prop} {Q : Value → Shared → Prop},
    Room A n → OK X s loc st → EnvOK X env ae s.heap loc st.next → Then X s loc st a st' Q → wpAny (model PW X.w) A (eval e env) Q E s
  tr : ∀ {e : Expr} {ae : AEnv} {st st' st'' : ASt} {a : AVal} {c : Bool}, r.ev e ae st = some (a, st') → truth a st' = some (c, st'') → ∀ {A : Around} {env : Env} {s : Shared} {loc : Nat → Addr} {E : Value → Shared → Prop} {Q : Bool → Shared → Prop},
    Room A n → OK X s loc st → EnvOK X env ae s.heap loc st.next → ThenB X s loc st c st'' Q → wpAny (model PW X.w) A (isTrue e env (eval e env)) Q E s
  ex : ∀ {t : Stmt} {ae ae' : AEnv} {st st' : ASt} {o : Out}, r.ex t ae st = some ((o, ae'), st') → ∀ {A : Around} {env : Env} {s : Shared} {loc : Nat → Addr} {E : Value → Shared → Prop} {Q : Flow → Shared → Prop},
    Room A n → OK X s loc st → EnvOK X env ae s.heap loc st.next →
    (∀ fl s' loc', OK X s' loc' st' → Ext (Wr env) s loc st s' loc' st' → EnvOK X env ae' s'.heap loc' st'.next → FlowRel X s'.heap loc' st'.next fl o → Q fl s') → wpAny (model PW X.w) A (exec t env) Q E s
  call : ∀ {f : Str} {args : List AVal} {st st' : ASt} {a : AVal}, r.call f args st = some (a, st') → ∀ {A : Around} {s : Shared} {loc : Nat → Addr} {vs : List Value} {fv : Value} {E : Value → Shared → Prop} {Q : Value → Shared → Prop},
    Room A n → OK X s loc st → VRels X s.heap loc st.next vs args → X.mg f = some fv → Then X s loc st a st' Q → wpAny (model PW X.w) A (call fv vs []) Q E s
  fn : ∀ {f : Str} {args : List AVal} {st : ASt} {y : AVal × ASt}, r.call f args st = some y → ∃ fv, X.mg f = some fv ∧ keepIn X.K fv = true
  use : ∀ {elt : Expr} {gens : List Comprehension} {sc : Scope} {pos : Pos} {ae : AEnv} {st st' : ASt} {a : AVal}, r.ev (.ListComp elt gens sc pos) ae st = some (a, st') → ∀ {A : Around} {env : Env} {s : Shared} {loc : Nat → Addr} {E : Value → Shared → Prop} {u : Value → Sem Unit} {Q : Unit → Shared → Prop},
    Room A n → OK X s loc st → EnvOK X env ae s.heap loc st.next →
    (∀ D C s' loc', OK X s' loc' st' → Ext NoW s loc st s' loc' st' → VRel X s'.heap loc' st'.next (.ref D) a → (∃ m, s'.heap.Ns C m) → s.heap.get? C = none → (∀ i, i < st'.next → loc' i ≠ C) → X.h0.get? C = none →
      wpAny (model PW X.w) A (u (.ref D)) (fun _ s'' => ∃ m, s''.heap.Ns C m ∧ ∀ h', Heap.SameBut C s''.heap h' → Q () { s'' with heap := h' }) E s') → wpAny (model PW X.w) A (evalThenUse (.ListComp elt gens sc pos) env u) Q E s
  wh : ∀ {step : (AEnv × ASt) → Option (Sum (AEnv × ASt) ((Out × AEnv) × ASt))} {x : AEnv × ASt} {b : (Out × AEnv) × ASt}, r.wh step x = some b → ∃ k, whN step k x = some b

section
variable {X : Cx} {r : Rec} {n : Nat} {A : Around} {E : Value → Shared → Prop} {s : Shared} {loc : Nat → Addr} {st st' : ASt} {env : Env} {ae ae' : AEnv}

theorem Then.after {s₁ : Shared} {loc₁ : Nat → Addr} {st₁ : ASt} {a : AVal} {Q : Value → Shared → Prop} (T : Then X s loc st a st' Q) (x : Ext NoW s loc st s₁ loc₁ st₁) : Then X s₁ loc₁ st₁ a st' Q :=
  fun v s' loc' G x' r => T v s' loc' G (x.trans x') r
theorem ThenB.after {s₁ : Shared} {loc₁ : Nat → Addr} {st₁ : ASt} {c : Bool} {Q : Bool → Shared → Prop} (T : ThenB X s loc st c st' Q) (x : Ext NoW s loc st s₁ loc₁ st₁) : ThenB X s₁ loc₁ st₁ c st' Q :=
  fun s' loc' G x' => T s' loc' G (x.trans x')
theorem ThenU.after {s₁ : Shared} {loc₁ : Nat → Addr} {st₁ : ASt} {Q : Unit → Shared → Prop} (T : ThenU X s loc st st' Q) (x : Ext NoW s loc st s₁ loc₁ st₁) : ThenU X s₁ loc₁ st₁ st' Q :=
  fun s' loc' G x' => T s' loc' G (x.trans x')

theorem starEach_plain {e : Expr} {rest : List Expr} (h : notStar e = true) : starEach (e :: rest) env = (false, eval e env) :: starEach rest env := by cases e <;> first | rfl | cases h

theorem evs_snd (S : Snd X r n) : ∀ {es : List Expr} {st st' : ASt} {vs : List AVal}, evs r ae es st = some (vs, st') → es.all notStar = true → ∀ {pos : Pos} {s : Shared} {loc : Nat → Addr} {Q : List Value → Shared → Prop}, Room A n → OK X s loc st → EnvOK X env ae s.heap loc st.next →
    (∀ ws s' loc', OK X s' loc' st' → Ext NoW s loc st s' loc' st' → VRels X s'.heap loc' st'.next ws vs → Q ws s') → wpAny (model PW X.w) A (spliced (backTo pos (starEach es env))) Q E s
  | [], st, st', vs, h, _, pos, s, loc, Q, Rm, G, V, hQ => by
    obtain ⟨rfl, rfl⟩ := M_pure h
    exact spliced_nil (hQ [] s loc G (.refl ..) .nil)
  | e :: es, st, st', vs, h, hns, pos, s, loc, Q, Rm, G, V, hQ => by
    rw [List.all_cons, Bool.and_eq_true] at hns
    obtain ⟨v, st₁, h1, h2⟩ := M_bind (m := r.ev e ae) h
    obtain ⟨us, st₂, h3, h4⟩ := M_bind (m := evs r ae es) h2
    obtain ⟨rfl, rfl⟩ := M_pure h4
    rw [starEach_plain hns.1]
    refine spliced_cons (S.ev h1 Rm G V fun w s₁ loc₁ G₁ x₁ r₁ => ?_)
    refine evs_snd S h3 hns.2 Rm G₁ (V.ext G x₁) fun ws s₂ loc₂ G₂ x₂ r₂ => ?_
    exact hQ _ s₂ loc₂ G₂ (x₁.trans x₂) (.cons (r₁.ext x₂) r₂)

theorem args_snd (S : Snd X r n) {es : List Expr} {pos : Pos} {f : Value} {vs : List AVal} {Q : Args → Shared → Prop} (h : evs r ae es st = some (vs, st')) (hns : es.all notStar = true) (Rm : Room A n) (G : OK X s loc st) (V : EnvOK X env ae s.heap loc st.next)
    (hQ : ∀ ws s' loc', OK X s' loc' st' → Ext NoW s loc st s' loc' st' → VRels X s'.heap loc' st'.next ws vs → Q ⟨ws, []⟩ s') : wpAny (model PW X.w) A (evalArgs f true (backTo pos (starEach es env)) []) Q E s := by
  cases es with
  | nil =>
    obtain ⟨rfl, rfl⟩ := M_pure h
    exact PySem.evalArgs_none (hQ [] s loc G (.refl ..) .nil)
  | cons e es =>
    have hns' := hns
    rw [List.all_cons, Bool.and_eq_true] at hns'
    have := evs_snd (E := E) (pos := pos) (Q := fun vs s' => Q ⟨vs, []⟩ s') S h hns Rm G V hQ
    rw [starEach_plain hns'.1] at this ⊢
    exact evalArgs_plain this

theorem plainAny {es : List Expr} {pos : Pos} (hns : es.all notStar = true) : (backTo pos (starEach es env)).any (·.1) = false := by
  induction es with
  | nil => rfl
  | cons e es ih =>
    rw [List.all_cons, Bool.and_eq_true] at hns
    rw [starEach_plain hns.1]
    show (false || _) = false
    exact ih hns.2

theorem globKind {f : Str} (hg : isGlob ae f = true) (V : EnvOK X env ae s.heap loc st.next) : env.kindOf f = some .globalImplicit ∧ (f == ("__debug__" : Str)) = false := by
  unfold isGlob at hg
  obtain ⟨h1, h2⟩ := Bool.and_eq_true_iff.mp hg
  refine ⟨?_, by simpa using h2⟩
  have hk : ae.sc.names.lookup f = some .globalImplicit := by simpa using h1
  rcases V.kindOf f _ hk with q | q
  · exact q
  · cases q.1
theorem globFn {f : Str} {fv : Value} {pos : Pos} {Q : Value → Shared → Prop} (Z : StaticOK X) (hg : isGlob ae f = true) (G : OK X s loc st) (V : EnvOK X env ae s.heap loc st.next) (hv : X.mg f = some fv) (h : Q fv s) :
    wpAny (model PW X.w) A (eval (.Name f pos) env) Q E s := by
  obtain ⟨h1, h2⟩ := globKind hg V
  exact Name_function_global V.kind h1 (loadGlobal_global (by rw [V.glob]; exact Z.g.keeps G.base) hv h) h2
theorem globBl {f : Str} {fv : Value} {pos : Pos} {Q : Value → Shared → Prop} (Z : StaticOK X) (hg : isGlob ae f = true) (G : OK X s loc st) (V : EnvOK X env ae s.heap loc st.next) (hv : (f, fv) ∈ builtinsTab) (h : Q fv s) :
    wpAny (model PW X.w) A (eval (.Name f pos) env) Q E s := by
  obtain ⟨h1, h2⟩ := globKind hg V
  obtain ⟨m1, m2⟩ := Z.bl f fv hv
  exact Name_function_global V.kind h1 (loadGlobal_builtin (by rw [V.glob]; exact Z.g.keeps G.base) m1 (by rw [V.blt]; exact Z.b.keeps G.base) m2 h) h2

/-- a call of a builtin type by its name -/
theorem callType_snd {f : Str} {T : String} {p pos : Pos} {es : List Expr} {Q : Value → Shared → Prop} {vs : List AVal} {st₁ : ASt} (Z : StaticOK X) (S : Snd X r n) (hg : isGlob ae f = true) (hv : (f, Value.type T) ∈ builtinsTab) (h : evs r ae es st = some (vs, st₁)) (hns : es.all notStar = true)
    (Rm : Room A n) (G : OK X s loc st) (V : EnvOK X env ae s.heap loc st.next)
    (k : ∀ ws s' loc', OK X s' loc' st₁ → Ext NoW s loc st s' loc' st₁ → VRels X s'.heap loc' st₁.next ws vs → wpAny (model PW X.w) A (call (.type T) ws []) Q E s') :
    wpAny (model PW X.w) A (eval (.Call (.Name f p) es [] pos) env) Q E s := by
  refine wpAny_Call_NameR (globBl Z hg G V hv ?_)
  refine PySem.callWith_type (plainAny hns) (args_snd S h hns Rm G V fun ws s' loc' G' x' r' => k ws s' loc' G' x' r')
theorem callBlt_snd {f : Str} {T : String} {p pos : Pos} {es : List Expr} {Q : Value → Shared → Prop} {vs : List AVal} {st₁ : ASt} (Z : StaticOK X) (S : Snd X r n) (hg : isGlob ae f = true) (hv : (f, Value.builtin T) ∈ builtinsTab) (h : evs r ae es st = some (vs, st₁)) (hns : es.all notStar = true)
    (Rm : Room A n) (G : OK X s loc st) (V : EnvOK X env ae s.heap loc st.next)
    (k : ∀ ws s' loc', OK X s' loc' st₁ → Ext NoW s loc st s' loc' st₁ → VRels X s'.heap loc' st₁.next ws vs → wpAny (model PW X.w) A (call (.builtin T) ws []) Q E s') :
    wpAny (model PW X.w) A (eval (.Call (.Name f p) es [] pos) env) Q E s := by
  refine wpAny_Call_NameR (globBl Z hg G V hv ?_)
  refine callWith_builtin (plainAny hns) (args_snd S h hns Rm G V fun ws s' loc' G' x' r' => k ws s' loc' G' x' r')

theorem base_snd {o : Expr} {m : Str} (h : notSuper o = true) : attributeBase o m env (eval o env) = eval o env := by
  unfold attributeBase
  split
  · rename_i id _ _
    have : (id != ("super" : Str)) = true := h
    simp [this]
  · rfl
end
end
/-! AS11 -/
section
set_option autoImplicit false
set_option maxRecDepth 100000
open PySem PySem.W PyProof.Rows PySem.Calls

inductive SVal (X : Cx) (h0 : Heap) (h : Heap) (loc : Nat → Addr) (st : ASt) : Value → Src → Prop
  | keys {id : Nat} {l : List (Int × AVal)} : id < st.next → (st.get id).data = .idict l → SVal X h0 h loc st (.ref (loc id)) (.keys id)
  | lst {id : Nat} {l : List AVal} : id < st.next → (st.get id).data = .list l → SVal X h0 h loc st (.ref (loc id)) (.lst id)
  | values {v : Addr} {id : Nat} {l : List (Int × AVal)} : id < st.next → (st.get id).data = .idict l → h.IsValuesView v (loc id) → SVal X h0 h loc st (.ref v) (.values id)
  | items {v : Addr} {id : Nat} {l : List (Int × AVal)} : id < st.next → (st.get id).data = .idict l → h.IsItemsView v (loc id) → SVal X h0 h loc st (.ref v) (.items id)
  | rev {it : Addr} {id : Nat} {l : List AVal} : id < st.next → (st.get id).data = .list l → h0.get? it = none → h.IsRevIter it (loc id) ((l.length : Int) - 1) → SVal X h0 h loc st (.ref it) (.rev id)
  | range {rr : Addr} {a b : Int} {t u v : Tok} : IsRange h rr a b 1 t u v → SVal X h0 h loc st (.ref rr) (.range a b)
  | enum {e it : Addr} {id : Nat} {l : List AVal} : id < st.next → (st.get id).data = .list l → h0.get? e = none → h0.get? it = none → e ≠ it → IsEnum h e it 0 .none → h.IsListIter it (loc id) 0 → SVal X h0 h loc st (.ref e) (.enum id)

section
variable {X : Cx} {r : Rec} {n : Nat} {A : Around} {E : Value → Shared → Prop} {s : Shared} {loc : Nat → Addr} {st st' : ASt} {env : Env} {ae ae' : AEnv}

/-- a method without arguments, of a dict -/
theorem view_snd {o : Expr} {m : Str} {id : String} {apos pos : Pos} {Q : Value → Shared → Prop} {i : Nat} {l : List (Int × AVal)} {st₁ : ASt} (S : Snd X r n) (hs : notSuper o = true) (hl : (apos.endLine == pos.line) = true)
    (slot : Slot "dict" m id) (ty : typeOf (.builtin id) = pure (.type "method_descriptor")) (h : r.ev o ae st = some (.obj i, st₁)) (hd : (st₁.get i).data = .idict l)
    (Rm : Room A n) (G : OK X s loc st) (V : EnvOK X env ae s.heap loc st.next)
    (k : ∀ s' loc' kvs, OK X s' loc' st₁ → Ext NoW s loc st s' loc' st₁ → i < st₁.next → s'.heap.DictOf (intKind PW X.w) (loc' i) kvs → wpAny (model PW X.w) A (call (.builtin id) [.ref (loc' i)] []) Q E s') :
    wpAny (model PW X.w) A (eval (.Call (.Attribute o m apos) [] [] pos) env) Q E s := by
  refine wpAny_Call_method0_late (base_snd hs) hl (S.ev h Rm G V fun vo s₁ loc₁ G₁ x₁ r₁ => ?_)
  cases r₁ with
  | obj hi =>
    obtain ⟨kvs, hk, hr⟩ := G₁.idictAt hi hd
    refine ⟨"dict", id, PySem.F.plainAttrs_dict, slot, ty, hk.typeIs, fun a e => ?_, ?_⟩
    · cases e
      obtain ⟨o, _, _, ho, hx, _⟩ := hk
      exact ⟨o, ho, hx.2.1⟩
    · exact callWith_builtin rfl (PySem.evalArgs_none (k s₁ loc₁ kvs G₁ x₁ hi hk))

theorem srcOf_snd {e : Expr} {src : Src} {Q : Value → Shared → Prop} (Z : StaticOK X) (S : Snd X r n) (h : srcOf r ae e st = some (src, st')) (Rm : Room A n) (G : OK X s loc st) (V : EnvOK X env ae s.heap loc st.next)
    (hQ : ∀ x s' loc', OK X s' loc' st' → Ext NoW s loc st s' loc' st' → SVal X s.heap s'.heap loc' st' x src → Q x s') : wpAny (model PW X.w) A (eval e env) Q E s := by
  have plain : ∀ {e : Expr}, (do match ← r.ev e ae with
      | .obj id => do match ← getD id with | .list _ => pure (.lst id) | .idict _ => pure (.keys id) | _ => fail
      | _ => fail : M Src) st = some (src, st') → wpAny (model PW X.w) A (eval e env) Q E s := by
    intro e h
    obtain ⟨v, st₁, h1, h2⟩ := M_bind (m := r.ev e ae) h
    refine S.ev h1 Rm G V fun vo s₁ loc₁ G₁ x₁ r₁ => ?_
    cases r₁ with
    | obj hi =>
      obtain ⟨d, st₂, h3, h4⟩ := M_bind (m := getD _) h2
      obtain ⟨rfl, _, hd⟩ := M_getD h3
      cases d with
      | list l => obtain ⟨rfl, rfl⟩ := M_pure h4; exact hQ _ s₁ loc₁ G₁ x₁ (.lst hi hd)
      | idict l => obtain ⟨rfl, rfl⟩ := M_pure h4; exact hQ _ s₁ loc₁ G₁ x₁ (.keys hi hd)
      | sdict l => cases h4
    | _ => cases h2
  unfold srcOf at h
  split at h
  · rename_i o m apos pos
    rcases M_ite h with ⟨_, h⟩ | ⟨hc, h⟩
    · cases h
    · simp only [Bool.not_eq_true, Bool.not_eq_false', Bool.and_eq_true] at hc
      obtain ⟨hs, hl⟩ := hc
      rcases M_ite h with ⟨hm, h⟩ | ⟨_, h⟩
      · have hm : m = ("values" : Str) := by simpa using hm
        subst hm
        obtain ⟨v, st₁, h1, h2⟩ := M_bind (m := r.ev o ae) h
        cases v <;> try (cases h2; done)
        rename_i iid
        obtain ⟨d, st₂, h3, h4⟩ := M_bind (m := getD _) h2
        obtain ⟨rfl, _, hd⟩ := M_getD h3
        cases d <;> try (cases h4; done)
        obtain ⟨rfl, rfl⟩ := M_pure h4
        refine view_snd S hs hl PySem.F.slot_dict_values PySem.F.type_dict_values h1 hd Rm G V fun s₁ loc₁ kvs G₁ x₁ hi hk => ?_
        refine call_meetsIn PySem.F.slot_dict_values hk.typeIs PySem.F.entry_dict_values (PySem.F.args_dict_values_1 _) (meets_dict_values (intKind PW X.w) _ (G₁.notSys hi hd)) ⟨⟨kvs, hk⟩, ?_⟩
        have P := G₁.keeps (h' := s₁.heap.push { cls := .type "dict_values", data := .fields #[.ref (loc₁ iid)] }) (t := s₁.toks) (fun b o e => Heap.get?_push_of_some _ e)
        exact hQ _ _ loc₁ P.1 (x₁.trans P.2) (.values hi hd ⟨_, Heap.get?_push_size _ rfl, rfl, rfl⟩)
      · rcases M_ite h with ⟨hm, h⟩ | ⟨_, h⟩
        · have hm : m = ("items" : Str) := by simpa using hm
          subst hm
          obtain ⟨v, st₁, h1, h2⟩ := M_bind (m := r.ev o ae) h
          cases v <;> try (cases h2; done)
          rename_i iid
          obtain ⟨d, st₂, h3, h4⟩ := M_bind (m := getD _) h2
          obtain ⟨rfl, _, hd⟩ := M_getD h3
          cases d <;> try (cases h4; done)
          obtain ⟨rfl, rfl⟩ := M_pure h4
          refine view_snd S hs hl PySem.F.slot_dict_items PySem.F.type_dict_items h1 hd Rm G V fun s₁ loc₁ kvs G₁ x₁ hi hk => ?_
          refine call_meetsIn PySem.F.slot_dict_items hk.typeIs PySem.F.entry_dict_items (PySem.F.args_dict_items_1 _) (meets_dict_items (intKind PW X.w) _ (G₁.notSys hi hd)) ⟨⟨kvs, hk⟩, ?_⟩
          have P := G₁.keeps (h' := s₁.heap.push { cls := .type "dict_items", data := .fields #[.ref (loc₁ iid)] }) (t := s₁.toks) (fun b o e => Heap.get?_push_of_some _ e)
          exact hQ _ _ loc₁ P.1 (x₁.trans P.2) (.items hi hd ⟨_, Heap.get?_push_size _ rfl, rfl, rfl⟩)
        · cases h
  · rename_i f p e pos
    rcases M_ite h with ⟨_, h⟩ | ⟨hc, h⟩
    · cases h
    · simp only [Bool.not_eq_true, Bool.not_eq_false', Bool.and_eq_true] at hc
      obtain ⟨hg, hns⟩ := hc
      have hns' : [e].all notStar = true := by simp [hns]
      have one : ∀ {v : AVal} {st₁ : ASt}, r.ev e ae st = some (v, st₁) → evs r ae [e] st = some ([v], st₁) := fun {v st₁} h1 => by
        show (do let v ← r.ev e ae; let vs ← (pure [] : M (List AVal)); pure (v :: vs) : M (List AVal)) st = _
        show Option.bind (r.ev e ae st) _ = _
        rw [h1]; rfl
      rcases M_ite h with ⟨hf, h⟩ | ⟨_, h⟩
      · have hf : f = ("reversed" : Str) := by simpa using hf
        subst hf
        obtain ⟨v, st₁, h1, h2⟩ := M_bind (m := r.ev e ae) h
        cases v <;> try (cases h2; done)
        rename_i iid
        obtain ⟨d, st₂, h3, h4⟩ := M_bind (m := getD _) h2
        obtain ⟨rfl, _, hd⟩ := M_getD h3
        cases d <;> try (cases h4; done)
        obtain ⟨rfl, rfl⟩ := M_pure h4
        refine callType_snd (T := "reversed") Z S hg (by simp [builtinsTab]) (one h1) hns' Rm G V fun ws s₁ loc₁ G₁ x₁ r₁ => ?_
        cases r₁ with
        | cons rv r₁ =>
          cases r₁
          cases rv with
          | obj hi =>
            obtain ⟨vs, m, hh, hr⟩ := G₁.listAt hi hd
            refine call_reversed_list (isList_of hh) ?_
            have P := G₁.keeps (h' := s₁.heap.push (revObj (loc₁ iid) ((vs.toArray.size : Int) - 1))) (t := s₁.toks) (fun b o e => Heap.get?_push_of_some _ e)
            refine hQ _ _ loc₁ P.1 (x₁.trans P.2) (.rev hi hd ?_ ⟨_, Heap.get?_push_size _ rfl, rfl, ?_⟩)
            · cases q : s.heap.get? s₁.heap.objs.size with
              | none => rfl
              | some o => obtain ⟨o', q'⟩ := x₁.live _ _ q; rw [size_none] at q'; cases q'
            · rw [List.size_toArray, hr.length]; rfl
      · rcases M_ite h with ⟨hf, h⟩ | ⟨_, h⟩
        · have hf : f = ("enumerate" : Str) := by simpa using hf
          subst hf
          obtain ⟨v, st₁, h1, h2⟩ := M_bind (m := r.ev e ae) h
          cases v <;> try (cases h2; done)
          rename_i iid
          obtain ⟨d, st₂, h3, h4⟩ := M_bind (m := getD _) h2
          obtain ⟨rfl, _, hd⟩ := M_getD h3
          cases d <;> try (cases h4; done)
          obtain ⟨rfl, rfl⟩ := M_pure h4
          refine callType_snd (T := "enumerate") Z S hg (by simp [builtinsTab]) (one h1) hns' Rm G V fun ws s₁ loc₁ G₁ x₁ r₁ => ?_
          cases r₁ with
          | cons rv r₁ =>
            cases r₁
            cases rv with
            | obj hi =>
              obtain ⟨vs, m, hh, hr⟩ := G₁.listAt hi hd
              refine call_enumerate_list (isList_of hh) fun h' he hit hsz hk => ?_
              have P := G₁.keeps (h' := h') (t := s₁.toks) hk
              have dead : ∀ b, s₁.heap.objs.size ≤ b → s.heap.get? b = none := fun b hb => by
                cases q : s.heap.get? b with
                | none => rfl
                | some o => obtain ⟨o', q'⟩ := x₁.live _ _ q; rw [none_ge _ hb] at q'; cases q'
              exact hQ _ _ loc₁ P.1 (x₁.trans P.2) (.enum hi hd (dead _ (Nat.le_succ _)) (dead _ (Nat.le_refl _)) (Nat.succ_ne_self _) he hit)
        · rcases M_ite h with ⟨hf, h⟩ | ⟨_, h⟩
          · have hf : f = ("range" : Str) := by simpa using hf
            subst hf
            obtain ⟨v, st₁, h1, h2⟩ := M_bind (m := r.ev e ae) h
            cases v <;> try (cases h2; done)
            rename_i b
            obtain ⟨rfl, rfl⟩ := M_pure h2
            refine callType_snd (T := "range") Z S hg (by simp [builtinsTab]) (one h1) hns' Rm G V fun ws s₁ loc₁ G₁ x₁ r₁ => ?_
            cases r₁ with
            | cons rv r₁ =>
              cases r₁
              cases rv with
              | int _ t =>
                refine call_range_1 ?_
                have P := G₁.keeps (h' := s₁.heap.push { cls := .type "range", data := .fields #[.int 0 s₁.toks, .int b t, .int 1 (s₁.toks + 1)] }) (t := s₁.toks + 1 + 1) (fun b o e => Heap.get?_push_of_some _ e)
                exact hQ _ _ loc₁ P.1 (x₁.trans P.2) (.range (Heap.get?_push_size _ rfl))
          · exact plain h
  · rename_i f p e e' pos
    rcases M_ite h with ⟨_, h⟩ | ⟨hc, h⟩
    · cases h
    · simp only [Bool.not_eq_true, Bool.not_eq_false', Bool.and_eq_true] at hc
      obtain ⟨⟨hg, hns⟩, hns2⟩ := hc
      have hns' : [e, e'].all notStar = true := by simp [hns, hns2]
      rcases M_ite h with ⟨hf, h⟩ | ⟨_, h⟩
      · have hf : f = ("range" : Str) := by simpa using hf
        subst hf
        obtain ⟨v, st₁, h1, h2⟩ := M_bind (m := r.ev e ae) h
        obtain ⟨v', st₂, h3, h4⟩ := M_bind (m := r.ev e' ae) h2
        have two : evs r ae [e, e'] st = some ([v, v'], st₂) := by
          show Option.bind (r.ev e ae st) _ = _
          rw [h1]
          show Option.bind (Option.bind (r.ev e' ae st₁) _) _ = _
          rw [h3]; rfl
        cases v <;> try (cases h4; done)
        cases v' <;> try (cases h4; done)
        rename_i a b
        obtain ⟨rfl, rfl⟩ := M_pure h4
        refine callType_snd (T := "range") Z S hg (by simp [builtinsTab]) two hns' Rm G V fun ws s₁ loc₁ G₁ x₁ r₁ => ?_
        cases r₁ with
        | cons rv r₁ =>
          cases r₁ with
          | cons rv' r₁ =>
            cases r₁
            cases rv with
            | int _ t =>
              cases rv' with
              | int _ u =>
                refine call_range_2 ?_
                have P := G₁.keeps (h' := s₁.heap.push { cls := .type "range", data := .fields #[.int a t, .int b u, .int 1 s₁.toks] }) (t := s₁.toks + 1) (fun b o e => Heap.get?_push_of_some _ e)
                exact hQ _ _ loc₁ P.1 (x₁.trans P.2) (.range (Heap.get?_push_size _ rfl))
      · cases h
  · exact plain h
end
end
/-! AS12 -/
section
set_option autoImplicit false
set_option maxRecDepth 100000
open PySem PySem.W PyProof.Rows PySem.Calls

theorem VRels.of_get {X : Cx} {h : Heap} {loc : Nat → Addr} {N : Nat} : ∀ {vs : List Value} {l : List AVal}, vs.length = l.length → (∀ (i : Nat) (v : Value) (a : AVal), vs[i]? = some v → l[i]? = some a → VRel X h loc N v a) → VRels X h loc N vs l
  | [], [], _, _ => .nil
  | v :: vs, a :: l, hl, H => .cons (H 0 v a rfl rfl) (VRels.of_get (by simpa using hl) fun i w b h1 h2 => H (i + 1) w b (by simpa using h1) (by simpa using h2))
  | [], _ :: _, hl, _ => by simp at hl
  | _ :: _, [], hl, _ => by simp at hl
theorem IRels.get {κ : Type} {X : Cx} {h : Heap} {loc : Nat → Addr} {N : Nat} {kvs : List (κ × Value)} {l : List (κ × AVal)} (r : IRels X h loc N kvs l) : ∀ {i : Nat} {k : κ} {v : Value}, kvs[i]? = some (k, v) → ∃ a, l[i]? = some (k, a) ∧ VRel X h loc N v a := by
  induction r with
  | nil => intro i k v e; simp at e
  | cons rv _ ih =>
    intro i k v e
    cases i with
    | zero => simp only [List.getElem?_cons_zero, Option.some.injEq] at e; cases e; exact ⟨_, rfl, rv⟩
    | succ i => simp only [List.getElem?_cons_succ] at e ⊢; exact ih e
theorem IRels.len {κ : Type} {X : Cx} {h : Heap} {loc : Nat → Addr} {N : Nat} {kvs : List (κ × Value)} {l : List (κ × AVal)} (r : IRels X h loc N kvs l) : kvs.length = l.length := by
  induction r with
  | nil => rfl
  | cons _ _ ih => simp [ih]

section
variable {X : Cx} {A : Around} {E : Value → Shared → Prop} {s : Shared} {loc : Nat → Addr} {st st' : ASt} {n : Nat} {h0 : Heap}

theorem listOf_snd {x : Value} {src : Src} {items : List AVal} {Q : Value → Shared → Prop} (Z : StaticOK X) (Rm : Room A n) (G : OK X s loc st) (sv : SVal X h0 s.heap loc st x src) (hi : srcItems src st = some (items, st')) (hl : listable src = true) (hz : items.length ≤ 1000000)
    (T : Then X s loc st (.obj st.next) (st.new (.list items)) Q) : wpAny (model PW X.w) A (call (.type "list") [x] []) Q E s := by
  cases sv with
  | @keys id l hid hd =>
    obtain ⟨d, st₁, h1, h2⟩ := M_bind (m := getD _) hi
    obtain ⟨rfl, _, hd'⟩ := M_getD h1
    rw [hd] at hd'; subst hd'
    obtain ⟨rfl, rfl⟩ := M_pure h2
    obtain ⟨kvs, hk, hr⟩ := G.idictAt hid hd
    obtain ⟨ep, hat⟩ := hk.dictAt
    refine kdl_call (kdl_dict (knd := intKind PW X.w) (kvs := kvs) (ep := ep) (G.notSys hid hd)) Rm.handled hat (by rw [hr.len]; simp at hz; exact Nat.le_trans hz million) fun h' tk acc' c' hkeep hh hit => ?_
    refine new_list (t := tk) (vs := acc'.toList) (m := c') G (size_none _) hkeep (by simpa using hh) (VRels.of_get ?_ fun i v a h3 h4 => ?_) T
    · have := hit.1; have := hr.len; simp; omega
    · obtain ⟨k, w, h5, h6⟩ := hit.2 i v (by simpa using h3)
      obtain ⟨b, h7, _⟩ := hr.get h5
      rw [List.getElem?_map, h7] at h4
      cases h4
      obtain ⟨t, rfl⟩ := Value.isInt_shape h6
      exact .int _ _
  | @values v id l hid hd hv =>
    obtain ⟨d, st₁, h1, h2⟩ := M_bind (m := getD _) hi
    obtain ⟨rfl, _, hd'⟩ := M_getD h1
    rw [hd] at hd'; subst hd'
    obtain ⟨rfl, rfl⟩ := M_pure h2
    obtain ⟨kvs, hk, hr⟩ := G.idictAt hid hd
    obtain ⟨ep, hat⟩ := hk.dictAt
    refine kdl_call (kdl_values (knd := intKind PW X.w) (kvs := kvs) (ep := ep)) Rm.handled ⟨hv, hat⟩ (by rw [hr.len]; simp at hz; exact Nat.le_trans hz million) fun h' tk acc' c' hkeep hh hit => ?_
    refine new_list (t := tk) (vs := acc'.toList) (m := c') G (size_none _) hkeep (by simpa using hh) (VRels.of_get ?_ fun i v a h3 h4 => ?_) T
    · have := hit.1; have := hr.len; simp; omega
    · obtain ⟨k, h5⟩ := hit.2 i v (by simpa using h3)
      obtain ⟨b, h7, h8⟩ := hr.get h5
      rw [List.getElem?_map, h7] at h4
      cases h4
      exact h8.mono (fun a o e _ => hkeep a o e) (fun _ _ => rfl) (Nat.le_refl _)
  | @items v id l hid hd hv =>
    obtain ⟨d, st₁, h1, h2⟩ := M_bind (m := getD _) hi
    obtain ⟨rfl, _, hd'⟩ := M_getD h1
    rw [hd] at hd'; subst hd'
    obtain ⟨rfl, rfl⟩ := M_pure h2
    obtain ⟨kvs, hk, hr⟩ := G.idictAt hid hd
    obtain ⟨ep, hat⟩ := hk.dictAt
    refine kdx_call (knd := intKind PW X.w) (kvs := kvs) (ep := ep) Rm.handled hv hat (by rw [hr.len]; simp at hz; exact Nat.le_trans hz million) fun h' tk acc c as hkeep hh hlen hG hacc => ?_
    refine new_list (t := tk) (vs := acc.toList) (m := c) G (size_none _) hkeep (by simpa using hh) (VRels.of_get ?_ fun i v a h3 h4 => ?_) T
    · have := hr.len; rw [hacc]; simp; omega
    · rw [hacc, List.getElem?_map] at h3
      obtain ⟨ad, h5, rfl⟩ := Option.map_eq_some_iff.mp h3
      obtain ⟨key, k, w, h6, h7, h8⟩ := hG.pairs i ad h5
      obtain ⟨b, h9, h10⟩ := hr.get h6
      rw [List.getElem?_map, h9] at h4
      cases h4
      obtain ⟨t, rfl⟩ := Value.isInt_shape h7
      exact .tup (vs := [.int k t, w]) h8 rfl rfl (.cons (.int _ _) (.cons (h10.mono (fun a o e _ => hkeep a o e) (fun _ _ => rfl) (Nat.le_refl _)) .nil))
  | @lst id l hid hd =>
    obtain ⟨d, st₁, h1, h2⟩ := M_bind (m := getD _) hi
    obtain ⟨rfl, _, hd'⟩ := M_getD h1
    rw [hd] at hd'; subst hd'
    obtain ⟨rfl, rfl⟩ := M_pure h2
    obtain ⟨vs, m, hh, hr⟩ := G.listAt hid hd
    refine PySem.call_list_seq (loc id) (.inl rfl) hh rfl rfl (fun h' c' hkeep hh' => ?_) (by have := hr.length; rw [List.size_toArray]; exact Nat.le_trans (by omega) million)
    exact new_list (t := s.toks) (vs := vs) (m := c') G (size_none _) hkeep hh' (hr.mono (fun a o e _ => hkeep a o e) (fun _ _ => rfl) (Nat.le_refl _)) T
  | rev _ _ _ _ => cases hl
  | range _ => cases hl
  | enum _ _ _ _ _ _ _ => cases hl
end
end
/-! AS13 -/
section
set_option autoImplicit false
set_option maxRecDepth 100000
open PySem PySem.W PyProof.Rows PySem.Calls

structure Itr (X : Cx) (A : Around) (target : Expr) (I : Addr) (fp wr : List Addr) (items : List AVal) (num : Nat) (P Md : Nat → Value → Heap → Prop) (St : Nat → Heap → Prop) (s₀ : Shared) (loc₀ : Nat → Addr) (st₀ : ASt) : Prop where
  turns : KTurns PW X.w A target I fp wr num P Md St
  len : num = items.length
  fields : ∀ (i : Nat) (h : Heap), St i h → ∀ b ∈ wr, ∃ o vs, h.get? b = some o ∧ o.data = .fields vs
  rel : ∀ (s : Shared) (loc : Nat → Addr) (st : ASt) (i : Nat) (v : Value), (∀ b o, s₀.heap.get? b = some o → Imm o = true → s.heap.get? b = some o) → (∀ j, j < st₀.next → loc j = loc₀ j) → st₀.next ≤ st.next → i < num → P i v s.heap → ∃ a, items[i]? = some a ∧ VRel X s.heap loc st.next v a
  self : ∀ (i : Nat) (s : Shared) (Q : Value → Shared → Prop) (E : Value → Shared → Prop), St i s.heap → Q (.ref I) s → wpAny (model PW X.w) A (pyIter (.ref I)) Q E s

section
variable {X : Cx} {A : Around} {E : Value → Shared → Prop} {s : Shared} {loc : Nat → Addr} {st st' : ASt} {n : Nat} {h0 : Heap}

theorem go_name {target : Expr} {I : Addr} (h : isNameE target = true) {v : Value} {s : Shared} {Q : Unit → Shared → Prop} {E : Value → Shared → Prop} (hQ : Q () s) : wpAny (model PW X.w) A (letOwnedTupleGo target (.ref I) v) Q E s := by
  cases target <;> first | exact wpAny_pure hQ | cases h

theorem go_lst {target : Expr} {I l : Addr} {i : Nat} (h : (isNameE target || isTupE target) = true) {v : Value} {s : Shared} {Q : Unit → Shared → Prop} {E : Value → Shared → Prop} (hit : s.heap.IsListIter I l i) (hQ : Q () s) :
    wpAny (model PW X.w) A (letOwnedTupleGo target (.ref I) v) Q E s := by
  rcases Bool.or_eq_true_iff.mp h with h | h
  · exact go_name h hQ
  · cases target <;> try (cases h; done)
    cases v <;> first | exact wpAny_letOwnedTupleGo_listiter hit hQ | exact wpAny_pure hQ

theorem isTupE_elim {t : Expr} (h : isTupE t = true) : ∃ ts k p, t = .Tuple ts k p ∧ ts.all isNameE = true ∧ ts.length < 8 := by
  cases t <;> try (cases h; done)
  simp only [isTupE, Bool.and_eq_true, decide_eq_true_eq] at h
  exact ⟨_, _, _, rfl, h.1, h.2⟩

theorem pyIter_snd {x : Value} {src : Src} {items : List AVal} {target : Expr} {Q : Value → Shared → Prop} (Z : StaticOK X) (Rm : Room A n) (G : OK X s loc st) (sv : SVal X h0 s.heap loc st x src) (hi : srcItems src st = some (items, st')) (ht : tgtOk src target = true)
    (live0 : ∀ b o, h0.get? b = some o → ∃ o', s.heap.get? b = some o')
    (hQ : ∀ I fp wr num P Md St s', st' = st → OK X s' loc st → Ext NoW s loc st s' loc st → Itr X A target I fp wr items num P Md St s' loc st → St 0 s'.heap → (∀ b ∈ wr, h0.get? b = none ∧ ∃ o vs, s'.heap.get? b = some o ∧ o.data = .fields vs) →
      (∀ b ∈ fp, b ∈ wr ∨ ∃ id, src.id? = some id ∧ id < st.next ∧ b = loc id) → (∀ b ∈ fp, ∃ o, s'.heap.get? b = some o) → Q (.ref I) s') : wpAny (model PW X.w) A (pyIter x) Q E s := by
  have dead : h0.get? s.heap.objs.size = none := by
    cases q : h0.get? s.heap.objs.size with
    | none => rfl
    | some o => obtain ⟨o', q'⟩ := live0 _ _ q; rw [size_none] at q'; cases q'
  cases sv with
  | @keys id l hid hd =>
    obtain ⟨d, st₁, h1, h2⟩ := M_bind (m := getD _) hi
    obtain ⟨rfl, _, hd'⟩ := M_getD h1
    rw [hd] at hd'; subst hd'
    obtain ⟨rfl, rfl⟩ := M_pure h2
    obtain ⟨kvs, hk, hr⟩ := G.idictAt hid hd
    obtain ⟨ep, hat⟩ := hk.dictAt
    have hlt := hat.lt_size
    refine wpAny_pyIter_dict (G.notSys hid hd) hat ?_
    have hold : ∀ b o, s.heap.get? b = some o → (s.heap.push { cls := .type "dict_keyiterator", data := .fields #[.ref (loc id), .int 0 0, .int kvs.length 0, .int ep 0] }).get? b = some o := fun b o e => Heap.get?_push_of_some _ e
    have PP := G.keeps (t := s.toks) hold
    have hlen : kvs.length = (l.map fun p => AVal.int p.1).length := by rw [hr.len, List.length_map]
    refine hQ s.heap.objs.size [s.heap.objs.size, loc id] [s.heap.objs.size] _ _ _ _ _ rfl PP.1 PP.2 ⟨KTurns.ofWalks (Walks.dictKeys (knd := intKind PW X.w) Rm.handled s.heap.objs.size (loc id) (Nat.ne_of_lt hlt) kvs ep) (fun i v s Q E _ hq => go_name ht hq), hlen, (fun i h hs b hb => by rw [List.mem_singleton] at hb; subst hb; obtain ⟨o, e, _, hd⟩ := hs.1; exact ⟨o, _, e, hd⟩), fun s' loc' st' i v x1 x2 x3 hin hp => ?_, fun i s' Q E hs hq => wpAny_pyIter_keyiter hs.1 hq⟩
      ⟨⟨_, Heap.get?_push_size _ rfl, rfl, rfl⟩, hat.push _⟩ (fun b hb => ?_) (fun b hb => ?_) (fun b hb => ?_)
    · obtain ⟨k, w, h5, h6⟩ := hp
      obtain ⟨b, h7, _⟩ := hr.get h5
      obtain ⟨t, rfl⟩ := Value.isInt_shape h6
      exact ⟨_, by rw [List.getElem?_map, h7]; rfl, .int _ _⟩
    · rw [List.mem_singleton] at hb; subst hb; exact ⟨dead, _, _, Heap.get?_push_size _ rfl, rfl⟩
    · simp only [List.mem_cons, List.not_mem_nil, or_false] at hb
      rcases hb with rfl | rfl
      · exact .inl (.head _)
      · exact .inr ⟨id, rfl, hid, rfl⟩
    · simp only [List.mem_cons, List.not_mem_nil, or_false] at hb
      rcases hb with rfl | rfl
      · exact ⟨_, Heap.get?_push_size _ rfl⟩
      · obtain ⟨o, e, _⟩ := (PP.1.rel id hid).live; exact ⟨o, e⟩
  | @values v id l hid hd hv =>
    obtain ⟨d, st₁, h1, h2⟩ := M_bind (m := getD _) hi
    obtain ⟨rfl, _, hd'⟩ := M_getD h1
    rw [hd] at hd'; subst hd'
    obtain ⟨rfl, rfl⟩ := M_pure h2
    obtain ⟨kvs, hk, hr⟩ := G.idictAt hid hd
    obtain ⟨ep, hat⟩ := hk.dictAt
    have hlt := hat.lt_size
    refine wpAny_pyIter_values hv hat ?_
    have hold : ∀ b o, s.heap.get? b = some o → (s.heap.push { cls := .type "dict_valueiterator", data := .fields #[.ref (loc id), .int 0 0, .int kvs.length 0, .int ep 0] }).get? b = some o := fun b o e => Heap.get?_push_of_some _ e
    have PP := G.keeps (t := s.toks) hold
    have hlen : kvs.length = (l.map fun p => p.2).length := by rw [hr.len, List.length_map]
    refine hQ s.heap.objs.size [s.heap.objs.size, loc id] [s.heap.objs.size] _ _ _ _ _ rfl PP.1 PP.2 ⟨KTurns.ofWalks (Walks.dictValues (knd := intKind PW X.w) Rm.handled s.heap.objs.size (loc id) (Nat.ne_of_lt hlt) kvs ep) (fun i v s Q E _ hq => go_name ht hq), hlen, (fun i h hs b hb => by rw [List.mem_singleton] at hb; subst hb; obtain ⟨o, e, _, hd⟩ := hs.1; exact ⟨o, _, e, hd⟩), fun s' loc' st' i v x1 x2 x3 hin hp => ?_, fun i s' Q E hs hq => wpAny_pyIter_valiter hs.1 hq⟩
      ⟨⟨_, Heap.get?_push_size _ rfl, rfl, rfl⟩, hat.push _⟩ (fun b hb => ?_) (fun b hb => ?_) (fun b hb => ?_)
    · obtain ⟨k, h5⟩ := hp
      obtain ⟨b, h7, h8⟩ := hr.get h5
      exact ⟨_, by rw [List.getElem?_map, h7]; rfl, (h8.ext PP.2).mono x1 x2 x3⟩
    · rw [List.mem_singleton] at hb; subst hb; exact ⟨dead, _, _, Heap.get?_push_size _ rfl, rfl⟩
    · simp only [List.mem_cons, List.not_mem_nil, or_false] at hb
      rcases hb with rfl | rfl
      · exact .inl (.head _)
      · exact .inr ⟨id, rfl, hid, rfl⟩
    · simp only [List.mem_cons, List.not_mem_nil, or_false] at hb
      rcases hb with rfl | rfl
      · exact ⟨_, Heap.get?_push_size _ rfl⟩
      · obtain ⟨o, e, _⟩ := (PP.1.rel id hid).live; exact ⟨o, e⟩
  | items _ _ _ => cases ht
  | @lst id l hid hd =>
    obtain ⟨d, st₁, h1, h2⟩ := M_bind (m := getD _) hi
    obtain ⟨rfl, _, hd'⟩ := M_getD h1
    rw [hd] at hd'; subst hd'
    obtain ⟨rfl, rfl⟩ := M_pure h2
    obtain ⟨vs, m, hh, hr⟩ := G.listAt hid hd
    have hlt := Heap.lt_size hh
    refine wpAny_pyIter_list (isList_of hh) ?_
    have hold : ∀ b o, s.heap.get? b = some o → (s.heap.push { cls := .type "list_iterator", data := .fields #[.ref (loc id), .int 0 0] }).get? b = some o := fun b o e => Heap.get?_push_of_some _ e
    have PP := G.keeps (t := s.toks) hold
    have hlen : vs.toArray.size = items.length := by rw [List.size_toArray, hr.length]
    refine hQ s.heap.objs.size [s.heap.objs.size, loc id] [s.heap.objs.size] _ _ _ _ _ rfl PP.1 PP.2 ⟨KTurns.ofWalks (Walks.list Rm.handled s.heap.objs.size (loc id) (Nat.ne_of_lt hlt) vs.toArray) (fun i v s Q E hst hq => go_lst ht hst.1 hq), hlen, (fun i h hs b hb => by rw [List.mem_singleton] at hb; subst hb; obtain ⟨o, e, _, hd⟩ := hs.1; exact ⟨o, _, e, hd⟩), fun s' loc' st' i v x1 x2 x3 hin hp => ?_, fun i s' Q E hs hq => wpAny_pyIter_listiter hs.1 hq⟩
      ⟨⟨_, Heap.get?_push_size _ rfl, rfl, rfl⟩, isList_of (hold _ _ hh)⟩ (fun b hb => ?_) (fun b hb => ?_) (fun b hb => ?_)
    · have hp' : vs[i]? = some v := by simpa using hp
      have hlt' := (List.getElem?_eq_some_iff.mp hp').1
      rw [hr.length] at hlt'
      obtain ⟨w, h3, h4⟩ := hr.get (List.getElem?_eq_getElem hlt')
      rw [hp'] at h3; cases h3
      exact ⟨_, List.getElem?_eq_getElem hlt', (h4.ext PP.2).mono x1 x2 x3⟩
    · rw [List.mem_singleton] at hb; subst hb; exact ⟨dead, _, _, Heap.get?_push_size _ rfl, rfl⟩
    · simp only [List.mem_cons, List.not_mem_nil, or_false] at hb
      rcases hb with rfl | rfl
      · exact .inl (.head _)
      · exact .inr ⟨id, rfl, hid, rfl⟩
    · simp only [List.mem_cons, List.not_mem_nil, or_false] at hb
      rcases hb with rfl | rfl
      · exact ⟨_, Heap.get?_push_size _ rfl⟩
      · exact ⟨_, hold _ _ hh⟩
  | @rev it id l hid hd hz hit =>
    obtain ⟨d, st₁, h1, h2⟩ := M_bind (m := getD _) hi
    obtain ⟨rfl, _, hd'⟩ := M_getD h1
    rw [hd] at hd'; subst hd'
    obtain ⟨rfl, rfl⟩ := M_pure h2
    obtain ⟨vs, m, hh, hr⟩ := G.listAt hid hd
    have hne : loc id ≠ it := fun q => by
      obtain ⟨o, e, hc, hdd⟩ := hit
      rw [q, e] at hh; cases hh; cases hdd
    have hlen : vs.toArray.size = l.reverse.length := by rw [List.size_toArray, hr.length, List.length_reverse]
    have hit' := hit
    obtain ⟨oi, hoi, hci, hdi⟩ := hit'
    refine wpAny_pyIter_revIter hit (hQ it [it, loc id] [it] _ _ _ _ s rfl G (.refl ..) ⟨KTurns.ofWalks (Walks.listRev Rm.handled it (loc id) hne vs.toArray) (fun i v s Q E hst hq => go_name ht hq), hlen, (fun i h hs b hb => by rw [List.mem_singleton] at hb; subst hb; obtain ⟨o, e, _, hd⟩ := hs.2.1; exact ⟨o, _, e, hd⟩), fun s' loc' st' i v x1 x2 x3 hin hp => ?_, fun i s' Q E hs hq => wpAny_pyIter_revIter hs.2.1 hq⟩
      ⟨Nat.zero_le _, ?_, isList_of hh⟩ (fun b hb => ?_) (fun b hb => ?_) (fun b hb => ?_))
    · have hp' : vs[vs.length - 1 - i]? = some v := by simpa using hp
      have hlt' := (List.getElem?_eq_some_iff.mp hp').1
      rw [List.size_toArray] at hin
      have hlt2 : vs.length - 1 - i < l.length := by rw [← hr.length]; exact hlt'
      obtain ⟨w, h3, h4⟩ := hr.get (List.getElem?_eq_getElem hlt2)
      rw [hp'] at h3; cases h3
      refine ⟨_, ?_, h4.mono x1 x2 x3⟩
      have hl := hr.length
      rw [List.getElem?_reverse (by omega), List.getElem?_eq_getElem (by omega)]
      simp only [hl]
    · rw [List.size_toArray, hr.length]; simpa using hit
    · rw [List.mem_singleton] at hb; subst hb; exact ⟨hz, _, _, hoi, hdi⟩
    · simp only [List.mem_cons, List.not_mem_nil, or_false] at hb
      rcases hb with rfl | rfl
      · exact .inl (.head _)
      · exact .inr ⟨id, rfl, hid, rfl⟩
    · simp only [List.mem_cons, List.not_mem_nil, or_false] at hb
      rcases hb with rfl | rfl
      · exact ⟨_, hoi⟩
      · exact ⟨_, hh⟩
  | @range rr a b t u v hrr =>
    rcases M_ite hi with ⟨hb, hi⟩ | ⟨_, hi⟩
    · obtain ⟨rfl, rfl⟩ := M_pure hi
      have hlen : (b - a).toNat = ((List.range (b - a).toNat).map fun (k : Nat) => AVal.int (a + (k : Int))).length := by simp
      have hrs : Builtin.Range.rangeSize a b 1 = ((b - a).toNat : Int) := by rw [rangeSize_one]; split <;> omega
      refine wpAny_pyIter_range hrr (small_one (by omega) (by omega) (by omega) (by omega)) ?_
      rw [hrs]
      have hold : ∀ b' o, s.heap.get? b' = some o → (s.heap.push { cls := .type "range_iterator", data := .fields #[rawInt a, rawInt ((b - a).toNat : Int), rawInt 1] }).get? b' = some o := fun b' o e => Heap.get?_push_of_some _ e
      have PP := G.keeps (t := s.toks) hold
      refine hQ s.heap.objs.size [s.heap.objs.size] [s.heap.objs.size] _ _ _ _ _ rfl PP.1 PP.2 ⟨KTurns.ofWalks (Walks.range Rm.handled s.heap.objs.size a 1 (b - a).toNat) (fun i v s Q E hst hq => go_name (by cases target <;> first | rfl | cases ht) hq), hlen, (fun i h hs b hb => by rw [List.mem_singleton] at hb; subst hb; exact ⟨_, _, hs, rfl⟩), fun s' loc' st' i v x1 x2 x3 hin hp => ?_, fun i s' Q E hs hq => wpAny_pyIter_rangeiter hs hq⟩
          ?_ (fun b hb => ?_) (fun b hb => ?_) (fun b hb => ?_)
      · obtain ⟨t, rfl⟩ := hp
        refine ⟨.int (a + (i : Int)), by simp [hin], ?_⟩
        rw [Int.mul_one]; exact .int _ _
      · have := Heap.get?_push_size s.heap (o := { cls := .type "range_iterator", data := .fields #[rawInt a, rawInt ((b - a).toNat : Int), rawInt 1] }) rfl
        simpa [IsRangeIter] using this
      · rw [List.mem_singleton] at hb; subst hb; exact ⟨dead, _, _, Heap.get?_push_size _ rfl, rfl⟩
      · exact .inl hb
      · rw [List.mem_singleton] at hb; subst hb; exact ⟨_, Heap.get?_push_size _ rfl⟩
    · cases hi
  | @enum e it id l hid hd hz1 hz2 hne he hit =>
    obtain ⟨d, st₁, h1, h2⟩ := M_bind (m := getD _) hi
    obtain ⟨rfl, _, hd'⟩ := M_getD h1
    rw [hd] at hd'; subst hd'
    obtain ⟨rfl, rfl⟩ := M_pure h2
    obtain ⟨vs, m, hh, hr⟩ := G.listAt hid hd
    obtain ⟨ts, k, p, rfl, _, _⟩ := isTupE_elim ht
    have hit' := hit
    obtain ⟨oi, hoi, hci, hdi⟩ := hit'
    have hne1 : loc id ≠ e := fun q => by rw [q] at hh; unfold IsEnum at he; rw [hh] at he; simp at he
    have hne2 : loc id ≠ it := fun q => by rw [q, hoi] at hh; cases hh; cases hdi
    have hlen : vs.toArray.size = (l.zipIdx.map fun p => AVal.tup [.int (p.2 : Int), p.1]).length := by rw [List.size_toArray, hr.length]; simp
    refine wpAny_pyIter_enum he (hQ e [e, it, loc id] [e, it] _ _ _ _ s rfl G (.refl ..) ⟨KTurns.ofWalksU (WalksT.enumerate Rm.handled e it (loc id) hne hne1 hne2 vs.toArray).toU, hlen, (fun i h hs b hb => by
      simp only [List.mem_cons, List.not_mem_nil, or_false] at hb
      rcases hb with rfl | rfl
      · obtain ⟨old, e⟩ := hs.1; exact ⟨_, _, e, rfl⟩
      · obtain ⟨o, e, _, hd⟩ := hs.2.1; exact ⟨o, _, e, hd⟩), fun s' loc' st' i v x1 x2 x3 hin hp => ?_, fun i s' Q E hs hq => ?_⟩
      ⟨⟨_, he⟩, hit, isList_of hh⟩ (fun b hb => ?_) (fun b hb => ?_) (fun b hb => ?_))
    · obtain ⟨T, vals, rfl, ⟨t, w, h3, rfl⟩, hT⟩ := hp
      have hp' : vs[i]? = some w := by simpa using h3
      have hlt' := (List.getElem?_eq_some_iff.mp hp').1
      rw [hr.length] at hlt'
      obtain ⟨w', h5, h6⟩ := hr.get (List.getElem?_eq_getElem hlt')
      rw [hp'] at h5; cases h5
      obtain ⟨o, ho, hc, mm, hd⟩ := hT
      exact ⟨_, by rw [List.getElem?_map, List.getElem?_zipIdx, List.getElem?_eq_getElem hlt']; simp, .tup (vs := [.int (i : Int) t, w]) ho hc hd (.cons (.int _ _) (.cons (h6.mono x1 x2 x3) .nil))⟩
    · obtain ⟨⟨old, he'⟩, _⟩ := hs
      exact wpAny_pyIter_enum he' hq
    · simp only [List.mem_cons, List.not_mem_nil, or_false] at hb
      rcases hb with rfl | rfl
      · exact ⟨hz1, _, _, he, rfl⟩
      · exact ⟨hz2, _, _, hoi, hdi⟩
    · simp only [List.mem_cons, List.not_mem_nil, or_false] at hb
      rcases hb with rfl | rfl | rfl
      · exact .inl (.head _)
      · exact .inl (.tail _ (.head _))
      · exact .inr ⟨id, rfl, hid, rfl⟩
    · simp only [List.mem_cons, List.not_mem_nil, or_false] at hb
      rcases hb with rfl | rfl | rfl
      · exact ⟨_, he⟩
      · exact ⟨_, hoi⟩
      · exact ⟨_, hh⟩
end
end
/-! AS14 -/
section
set_option autoImplicit false
set_option maxRecDepth 100000
open PySem PySem.W PyProof.Rows PySem.Calls

/-- what is wanted behind a store that leaves the names ae' and the state st' -/
def ThenA (X : Cx) (W : Addr → Prop) (env : Env) (ae' : AEnv) (s : Shared) (loc : Nat → Addr) (st st' : ASt) (Q : Unit → Shared → Prop) : Prop :=
  ∀ s' loc', OK X s' loc' st' → Ext W s loc st s' loc' st' → EnvOK X env ae' s'.heap loc' st'.next → Q () s'

section
variable {X : Cx} {r : Rec} {n : Nat} {A : Around} {E : Value → Shared → Prop} {s : Shared} {loc : Nat → Addr} {st st' : ASt} {env : Env} {ae ae' : AEnv}

theorem ThenA.after {W W' : Addr → Prop} {s₁ : Shared} {loc₁ : Nat → Addr} {st₁ : ASt} {Q : Unit → Shared → Prop} (T : ThenA X W env ae' s loc st st' Q) (x : Ext W' s loc st s₁ loc₁ st₁) (hw : ∀ b, W' b → W b) : ThenA X W env ae' s₁ loc₁ st₁ st' Q :=
  fun s' loc' G x' V => T s' loc' G ((x.mono hw).trans x') V

theorem bindT_snd {W : Addr → Prop} (Z : StaticOK X) (S : Snd X r n) (wo : WOK ae.sc env W) : ∀ {t : Expr} {va : Value} {a : AVal} {Q : Unit → Shared → Prop} (_ : bindT r t ae a st = some (ae', st')) (_ : Room A n) (_ : OK X s loc st) (_ : EnvOK X env ae s.heap loc st.next) (_ : VRel X s.heap loc st.next va a)
    (_ : ThenA X W env ae' s loc st st' Q), wpAny (model PW X.w) A (assign t env va) Q E s := by
  intro t va a Q h Rm G V ra T
  cases t <;> try (cases h; done)
  case Name x p =>
    obtain ⟨h1, rfl⟩ := M_opt (show (opt (ae.set x a) : M AEnv) st = _ from h)
    exact wpAny_assign_Name (storeName_snd wo h1 G V ra fun s' a b c => T s' loc a b c)
  case Attribute o x p =>
    obtain ⟨ov, st₁, h1, h2⟩ := M_bind (m := r.ev o ae) h
    obtain ⟨u, st₂, h3, h4⟩ := M_bind (m := attrSet ov x a) h2
    obtain ⟨rfl, rfl⟩ := M_pure h4
    rw [assign_Attribute]
    refine wpAny_bind (wpAny_holding (S.ev h1 Rm G V fun vo s₁ loc₁ G₁ x₁ r₁ => wpAny_bind (wpAny_standAt (wpAny_bind (wpAny_holding ?_)))))
    refine attrSet_snd Z h3 G₁ r₁ (ra.ext x₁) fun s₂ loc₂ G₂ x₂ => wpAny_release ?_
    have x' := x₁.trans x₂
    exact T s₂ loc₂ G₂ (x'.mono fun _ q => q.elim) (V.ext G x')
  case Subscript o i p =>
    obtain ⟨ov, st₁, h1, h2⟩ := M_bind (m := r.ev o ae) h
    obtain ⟨iv, st₂, h3, h4⟩ := M_bind (m := r.ev i ae) h2
    obtain ⟨u, st₃, h5, h6⟩ := M_bind (m := itemSet ov iv a) h4
    obtain ⟨rfl, rfl⟩ := M_pure h6
    rw [assign_Subscript]
    refine wpAny_bind (wpAny_holding (S.ev h1 Rm G V fun vo s₁ loc₁ G₁ x₁ r₁ => wpAny_bind (wpAny_holding (S.ev h3 Rm G₁ (V.ext G x₁) fun vi s₂ loc₂ G₂ x₂ r₂ => wpAny_bind (wpAny_standAt (wpAny_bind (wpAny_holding ?_)))))))
    have x := x₁.trans x₂
    refine itemSet_snd h5 G₂ (r₁.ext x₂) r₂ (ra.ext x) fun s₃ loc₃ G₃ x₃ => wpAny_release ?_
    have x' := x.trans x₃
    exact T s₃ loc₃ G₃ (x'.mono fun _ q => q.elim) (V.ext G x')

theorem bindT_plain {t : Expr} {st : ASt} {a : AVal} {y : AEnv × ASt} (h : bindT r t ae a st = some y) : (∀ e p, t ≠ .Starred e p) := by
  intro e p q; subst q; cases h

theorem assignEach_plain {t : Expr} {ts : List Expr} (h : ∀ e p, t ≠ .Starred e p) : assignEach (t :: ts) env = (false, assign t env) :: assignEach ts env := by
  cases t <;> first | rfl | exact absurd rfl (h _ _)

theorem bindTs_len : ∀ {ts : List Expr} {vs : List AVal} {ae : AEnv} {st : ASt} {y : AEnv × ASt}, bindTs r ts ae vs st = some y → ts.length = vs.length ∧ (assignEach ts env).length = vs.length ∧ (assignEach ts env).findIdx? (·.1) = none
  | [], [], _, _, _, _ => ⟨rfl, rfl, rfl⟩
  | [], _ :: _, _, _, _, h => by cases h
  | _ :: _, [], _, _, _, h => by cases h
  | t :: ts, v :: vs, ae, st, y, h => by
    obtain ⟨u, st₁, h1, h2⟩ := M_bind (m := bindT r t ae v) h
    obtain ⟨e1, e2, e3⟩ := bindTs_len (ts := ts) (vs := vs) h2
    rw [assignEach_plain (bindT_plain h1)]
    refine ⟨by simp [e1], by simp [e2], ?_⟩
    rw [List.findIdx?_cons]
    simp [e3]

theorem bindT_sc {t : Expr} {st st' : ASt} {a : AVal} (h : bindT r t ae a st = some (ae', st')) : ae'.sc = ae.sc := by
  cases t <;> try (cases h; done)
  case Name x p =>
    obtain ⟨h1, rfl⟩ := M_opt (show (opt (ae.set x a) : M AEnv) st = _ from h)
    unfold AEnv.set at h1
    split at h1
    · cases h1; rfl
    · cases h1
  case Attribute o x p =>
    obtain ⟨ov, st₁, h1, h2⟩ := M_bind (m := r.ev o ae) h
    obtain ⟨u, st₂, h3, h4⟩ := M_bind (m := attrSet ov x a) h2
    obtain ⟨rfl, rfl⟩ := M_pure h4
    rfl
  case Subscript o i p =>
    obtain ⟨ov, st₁, h1, h2⟩ := M_bind (m := r.ev o ae) h
    obtain ⟨iv, st₂, h3, h4⟩ := M_bind (m := r.ev i ae) h2
    obtain ⟨u, st₃, h5, h6⟩ := M_bind (m := itemSet ov iv a) h4
    obtain ⟨rfl, rfl⟩ := M_pure h6
    rfl

theorem bindTs_snd {W : Addr → Prop} (Z : StaticOK X) (S : Snd X r n) : ∀ {ts : List Expr} {ws : List Value} {vs : List AVal} {ae ae' : AEnv} {st st' : ASt} {s : Shared} {loc : Nat → Addr} {Q : Unit → Shared → Prop} (_ : WOK ae.sc env W) (_ : bindTs r ts ae vs st = some (ae', st')) (_ : Room A n) (_ : OK X s loc st) (_ : EnvOK X env ae s.heap loc st.next) (_ : VRels X s.heap loc st.next ws vs)
    (_ : ThenA X W env ae' s loc st st' Q), wpAny (model PW X.w) A (assignInOrder ((assignEach ts env).map (·.2)) ws) Q E s
  | [], ws, [], ae, ae', st, st', s, loc, Q, wo, h, Rm, G, V, rw, T => by
    obtain ⟨rfl, rfl⟩ := M_pure (show (pure ae : M AEnv) st = _ from h)
    exact wpAny_pure (T s loc G (.refl ..) V)
  | [], _, _ :: _, _, _, _, _, _, _, _, _, h, _, _, _, _, _ => by cases h
  | _ :: _, _, [], _, _, _, _, _, _, _, _, h, _, _, _, _, _ => by cases h
  | t :: ts, ws, v :: vs, ae, ae', st, st', s, loc, Q, wo, h, Rm, G, V, rw, T => by
    obtain ⟨u, st₁, h1, h2⟩ := M_bind (m := bindT r t ae v) h
    cases rw with
    | cons rv rw =>
      rw [assignEach_plain (bindT_plain h1)]
      refine assignInOrder_cons (bindT_snd Z S wo h1 Rm G V rv fun s₁ loc₁ G₁ x₁ V₁ => ?_)
      exact bindTs_snd Z S (bindT_sc h1 ▸ wo) h2 Rm G₁ V₁ (rw.ext x₁) (T.after x₁ fun _ q => q)

theorem assignT_snd {W : Addr → Prop} (Z : StaticOK X) (S : Snd X r n) (wo : WOK ae.sc env W) {t : Expr} {va : Value} {a : AVal} {Q : Unit → Shared → Prop} (h : assignT r t ae a st = some (ae', st')) (Rm : Room A n) (G : OK X s loc st) (V : EnvOK X env ae s.heap loc st.next) (ra : VRel X s.heap loc st.next va a)
    (T : ThenA X W env ae' s loc st st' Q) : wpAny (model PW X.w) A (assign t env va) Q E s := by
  by_cases ht : ∃ ts k p, t = .Tuple ts k p
  · obtain ⟨ts, k, p, rfl⟩ := ht
    cases ra with
    | @tup ad ob vs m l he htc htd hr =>
      have h : bindTs r ts ae l st = some (ae', st') := h
      obtain ⟨e1, e2, e3⟩ := bindTs_len (env := env) h
      refine assign_Tuple_tuple Rm.handled ⟨_, he, htc, m, htd⟩ (by rw [e2, List.size_toArray, hr.length]) e3 fun h' hx => ?_
      have P := G.keeps (h' := h') (t := s.toks) (fun b o e => hx b o (Nat.ne_of_lt (Heap.lt_size e)) e)
      refine bindTs_snd Z S wo h Rm P.1 (V.ext G P.2) ?_ (T.after P.2 fun _ q => q.elim)
      simpa using hr.ext P.2
    | _ => cases h
  · refine bindT_snd Z S wo (t := t) ?_ Rm G V ra T
    cases t <;> first | exact h | exact absurd ⟨_, _, _, rfl⟩ ht

/-- two name tables that answer alike -/
theorem EnvOK.like {ae₂ : AEnv} {h : Heap} {N : Nat} (V : EnvOK X env ae h loc N) (hs : ae₂.sc = ae.sc) (hv : ∀ x, ae₂.vars.lookup x = ae.vars.lookup x) : EnvOK X env ae₂ h loc N where
  kind := V.kind
  glob := V.glob
  blt := V.blt
  kindOf := fun x k e => V.kindOf x k (hs ▸ e)
  ns := by obtain ⟨m, h1, h2⟩ := V.ns; exact ⟨m, h1, fun x a e => h2 x a (hv x ▸ e)⟩
  cell := fun x hx => by obtain ⟨c, h1, o, v, h2, h3, h4⟩ := V.cell x hx; exact ⟨c, h1, o, v, h2, h3, fun a e => h4 a (hv x ▸ e)⟩
  inj := V.inj
  apart := V.apart
  newL := V.newL
  newC := V.newC
  celled := V.celled

/-- names bound one after the other -/
def setAll : List Str → List AVal → AEnv → Option AEnv
  | [], [], ae => some ae
  | x :: xs, v :: vs, ae => (ae.set x v).bind (setAll xs vs)
  | _, _, _ => none

theorem set_some {x : Str} {v : AVal} (h : ae.set x v = some ae') : ae'.sc = ae.sc ∧ (∀ y, ae'.vars.lookup y = if y = x then some v else ae.vars.lookup y) ∧ bindable (ae.sc.names.lookup x) = true := by
  unfold AEnv.set at h
  split at h
  · rename_i hb
    cases h
    exact ⟨rfl, fun y => setv_lookup x y v ae.vars, hb⟩
  · cases h
theorem set_of {x : Str} {v : AVal} (h : bindable (ae.sc.names.lookup x) = true) : ∃ ae', ae.set x v = some ae' := ⟨_, by unfold AEnv.set; rw [if_pos h]⟩

theorem setAll_like : ∀ {xs : List Str} {vs : List AVal} {ae ae₁ ae₂ : AEnv}, setAll xs vs ae = some ae₁ → ae₂.sc = ae.sc → (∀ x, ae₂.vars.lookup x = ae.vars.lookup x) → ∃ ae₃, setAll xs vs ae₂ = some ae₃ ∧ ae₃.sc = ae₁.sc ∧ ∀ x, ae₃.vars.lookup x = ae₁.vars.lookup x
  | [], [], ae, ae₁, ae₂, h, hs, hv => by cases h; exact ⟨ae₂, rfl, hs, hv⟩
  | [], _ :: _, _, _, _, h, _, _ => by cases h
  | _ :: _, [], _, _, _, h, _, _ => by cases h
  | x :: xs, v :: vs, ae, ae₁, ae₂, h, hs, hv => by
    obtain ⟨b, h1, h2⟩ := Option.bind_eq_some_iff.mp h
    obtain ⟨e1, e2, e3⟩ := set_some h1
    obtain ⟨c, hc⟩ := set_of (ae := ae₂) (x := x) (v := v) (by rw [hs]; exact e3)
    obtain ⟨f1, f2, f3⟩ := set_some hc
    obtain ⟨d, hd, hd2⟩ := setAll_like (ae₂ := c) h2 (by rw [f1, e1, hs]) (fun y => by rw [f2, e2, hv])
    exact ⟨d, by show (ae₂.set x v).bind _ = _; rw [hc]; exact hd, hd2⟩

theorem setAll_snoc : ∀ {xs : List Str} {vs : List AVal} {x : Str} {v : AVal} {ae ae₁ ae₂ : AEnv}, setAll xs vs ae = some ae₁ → ae₁.set x v = some ae₂ → setAll (xs ++ [x]) (vs ++ [v]) ae = some ae₂
  | [], [], x, v, ae, ae₁, ae₂, h, h2 => by cases h; show (ae.set x v).bind _ = _; rw [h2]; rfl
  | [], _ :: _, _, _, _, _, _, h, _ => by cases h
  | _ :: _, [], _, _, _, _, _, h, _ => by cases h
  | y :: xs, u :: vs, x, v, ae, ae₁, ae₂, h, h2 => by
    obtain ⟨b, h1, h3⟩ := Option.bind_eq_some_iff.mp h
    show (ae.set y u).bind _ = _
    rw [h1]
    exact setAll_snoc h3 h2

/-- a binding moved behind bindings of other names -/
theorem setAll_move : ∀ {xs : List Str} {vs : List AVal} {x : Str} {v : AVal} {ae b ae₁ : AEnv}, x ∉ xs → ae.set x v = some b → setAll xs vs b = some ae₁ → ∃ c ae₂, setAll xs vs ae = some c ∧ c.set x v = some ae₂ ∧ ae₂.sc = ae₁.sc ∧ ∀ y, ae₂.vars.lookup y = ae₁.vars.lookup y
  | [], [], x, v, ae, b, ae₁, _, h1, h2 => by cases h2; exact ⟨ae, b, rfl, h1, rfl, fun _ => rfl⟩
  | [], _ :: _, _, _, _, _, _, _, _, h => by cases h
  | _ :: _, [], _, _, _, _, _, _, _, h => by cases h
  | y :: xs, u :: vs, x, v, ae, b, ae₁, hn, h1, h2 => by
    rw [List.mem_cons, not_or] at hn
    obtain ⟨d, h3, h4⟩ := Option.bind_eq_some_iff.mp h2
    obtain ⟨e1, e2, e3⟩ := set_some h1
    obtain ⟨f1, f2, f3⟩ := set_some h3
    obtain ⟨g, hg⟩ := set_of (ae := ae) (x := y) (v := u) (by rw [← e1]; exact f3)
    obtain ⟨g1, g2, _⟩ := set_some hg
    obtain ⟨k, hk⟩ := set_of (ae := g) (x := x) (v := v) (by rw [g1]; exact e3)
    obtain ⟨k1, k2, _⟩ := set_some hk
    obtain ⟨l, hl, hl1, hl2⟩ := setAll_like (ae₂ := k) h4 (by rw [k1, g1, f1, e1]) (fun z => by
      rw [k2, g2, f2, e2]
      by_cases q1 : z = x
      · subst q1; rw [if_pos rfl, if_neg hn.1, if_pos rfl]
      · rw [if_neg q1, if_neg q1])
    obtain ⟨c, ae₂, h5, h6, h7, h8⟩ := setAll_move (xs := xs) (vs := vs) hn.2 hk hl
    refine ⟨c, ae₂, ?_, h6, by rw [h7, hl1], fun z => by rw [h8, hl2]⟩
    show (ae.set y u).bind _ = _
    rw [hg]; exact h5

theorem setAll_reverse : ∀ {xs : List Str} {vs : List AVal} {ae ae₁ : AEnv}, xs.Nodup → setAll xs vs ae = some ae₁ → ∃ ae₂, setAll xs.reverse vs.reverse ae = some ae₂ ∧ ae₂.sc = ae₁.sc ∧ ∀ y, ae₂.vars.lookup y = ae₁.vars.lookup y
  | [], [], ae, ae₁, _, h => ⟨ae₁, h, rfl, fun _ => rfl⟩
  | [], _ :: _, _, _, _, h => by cases h
  | _ :: _, [], _, _, _, h => by cases h
  | x :: xs, v :: vs, ae, ae₁, hn, h => by
    rw [List.nodup_cons] at hn
    obtain ⟨b, h1, h2⟩ := Option.bind_eq_some_iff.mp h
    obtain ⟨c, ae₂, h3, h4, h5, h6⟩ := setAll_move hn.1 h1 h2
    obtain ⟨d, h7, h8, h9⟩ := setAll_reverse hn.2 h3
    obtain ⟨_, _, hb⟩ := set_some h4
    obtain ⟨e, he⟩ := set_of (ae := d) (x := x) (v := v) (by rw [h8]; exact hb)
    obtain ⟨q1, q2, _⟩ := set_some he
    obtain ⟨r1, r2, _⟩ := set_some h4
    refine ⟨e, ?_, by rw [q1, h8, ← r1, h5], fun y => by rw [q2, h9, ← h6, r2]⟩
    rw [List.reverse_cons, List.reverse_cons]
    exact setAll_snoc h7 he

/-- names bound in order -/
theorem setAll_snd {W : Addr → Prop} : ∀ {xs : List Str} {ws : List Value} {vs : List AVal} {ae ae' : AEnv} {s : Shared} {Q : Unit → Shared → Prop} (_ : WOK ae.sc env W) (_ : setAll xs vs ae = some ae') (_ : OK X s loc st) (_ : EnvOK X env ae s.heap loc st.next) (_ : VRels X s.heap loc st.next ws vs)
    (_ : ThenA X W env ae' s loc st st Q), wpAny (model PW X.w) A (assignInOrder (xs.map fun n => bindName env n) ws) Q E s
  | [], ws, [], ae, ae', s, Q, wo, h, G, V, rw, T => by cases h; exact wpAny_pure (T s loc G (.refl ..) V)
  | [], _, _ :: _, _, _, _, _, _, h, _, _, _, _ => by cases h
  | _ :: _, _, [], _, _, _, _, _, h, _, _, _, _ => by cases h
  | x :: xs, ws, v :: vs, ae, ae', s, Q, wo, h, G, V, rw, T => by
    obtain ⟨b, h1, h2⟩ := Option.bind_eq_some_iff.mp h
    cases rw with
    | cons rv rw =>
      refine assignInOrder_cons (bindName_snd wo h1 G V rv fun s₁ G₁ x₁ V₁ => ?_)
      exact setAll_snd ((set_some h1).1 ▸ wo) h2 G₁ V₁ (rw.ext x₁) (T.after x₁ fun _ q => q)

theorem bindTs_names : ∀ {ts : List Expr} {vs : List AVal} {ae ae' : AEnv} {st st' : ASt}, ts.all isNameE = true → bindTs r ts ae vs st = some (ae', st') → st' = st ∧ setAll (ts.filterMap nameOfE) vs ae = some ae' ∧ (ts.filterMap nameOfE).length = ts.length
  | [], [], _, _, _, _, _, h => by obtain ⟨rfl, rfl⟩ := M_pure h; exact ⟨rfl, rfl, rfl⟩
  | [], _ :: _, _, _, _, _, _, h => by cases h
  | _ :: _, [], _, _, _, _, _, h => by cases h
  | t :: ts, v :: vs, ae, ae', st, st', hn, h => by
    rw [List.all_cons, Bool.and_eq_true] at hn
    obtain ⟨u, st₁, h1, h2⟩ := M_bind (m := bindT r t ae v) h
    cases t <;> try (cases hn.1; done)
    rename_i x p
    obtain ⟨h3, rfl⟩ := M_opt (show (opt (ae.set x v) : M AEnv) st = _ from h1)
    obtain ⟨rfl, h5, h6⟩ := bindTs_names hn.2 h2
    refine ⟨rfl, ?_, by simp [nameOfE, h6]⟩
    show (ae.set x v).bind _ = _
    rw [h3]; exact h5

end
end
/-! AS15 -/
section
set_option autoImplicit false
set_option maxRecDepth 100000
open PySem PySem.W PyProof.Rows PySem.Calls

def ThenF (X : Cx) (env : Env) (o : Out) (ae' : AEnv) (s : Shared) (loc : Nat → Addr) (st st' : ASt) (Q : Flow → Shared → Prop) : Prop :=
  ∀ fl s' loc', OK X s' loc' st' → Ext (Wr env) s loc st s' loc' st' → EnvOK X env ae' s'.heap loc' st'.next → FlowRel X s'.heap loc' st'.next fl o → Q fl s'

theorem Imm.notFields {o : Obj} {vs : Array Value} (h : o.data = .fields vs) : Imm o = false := by
  obtain ⟨c, d, dt, sl⟩ := o
  dsimp only at h
  subst h
  unfold Imm
  split <;> simp_all

theorem notFields_of_ORel {X : Cx} {h : Heap} {loc : Nat → Addr} {N : Nat} {a : Addr} {d : AData} (r : ORel X h loc N a d) {o : Obj} (e : h.get? a = some o) {v : Array Value} (hd : o.data = .fields v) : False := by
  cases d with
  | list l => obtain ⟨vs, n, e', _⟩ := r; rw [e] at e'; cases e'; cases hd
  | idict l =>
    obtain ⟨kvs, ⟨⟨o', es, ep, e', hx, hd', _⟩, _⟩, _⟩ := r
    rw [e] at e'; cases e'; rw [hd] at hd'; cases hd'
  | sdict l => obtain ⟨_, es, n, e', _⟩ := r; rw [e] at e'; cases e'; cases hd

section
variable {X : Cx} {r : Rec} {n : Nat} {A : Around} {E : Value → Shared → Prop} {s : Shared} {loc : Nat → Addr} {st st' : ASt} {env : Env} {ae ae' : AEnv}

theorem ThenF.after {W : Addr → Prop} {o : Out} {s₁ : Shared} {loc₁ : Nat → Addr} {st₁ : ASt} {Q : Flow → Shared → Prop} (T : ThenF X env o ae' s loc st st' Q) (x : Ext W s loc st s₁ loc₁ st₁) (hw : ∀ b, W b → Wr env b) : ThenF X env o ae' s₁ loc₁ st₁ st' Q :=
  fun fl s' loc' G x' V => T fl s' loc' G ((x.mono hw).trans x') V

theorem exs_snd (S : Snd X r n) : ∀ {ts : List Stmt} {ae ae' : AEnv} {st st' : ASt} {o : Out} {s : Shared} {loc : Nat → Addr} {Q : Flow → Shared → Prop} (_ : exs r ts ae st = some ((o, ae'), st')) (_ : Room A n) (_ : OK X s loc st) (_ : EnvOK X env ae s.heap loc st.next)
    (_ : ThenF X env o ae' s loc st st' Q), wpAny (model PW X.w) A (execs ts env) Q E s
  | [], ae, ae', st, st', o, s, loc, Q, h, Rm, G, V, T => by
    obtain ⟨e, rfl⟩ := M_pure (show (pure (Out.next, ae) : M _) st = _ from h)
    cases e
    exact wpAny_execs_nil (T .next s loc G (.refl ..) V .next)
  | t :: ts, ae, ae', st, st', o, s, loc, Q, h, Rm, G, V, T => by
    obtain ⟨⟨o₁, ae₁⟩, st₁, h1, h2⟩ := M_bind (m := r.ex t ae) h
    refine wpAny_execs_cons (S.ex h1 Rm G V fun fl s₁ loc₁ G₁ x₁ V₁ f₁ => ?_)
    cases f₁ with
    | next => exact exs_snd S h2 Rm G₁ V₁ (T.after x₁ fun _ q => q)
    | ret rv =>
      obtain ⟨e, rfl⟩ := M_pure (show (pure (Out.ret _, ae₁) : M _) st₁ = _ from h2)
      cases e
      exact T _ s₁ loc₁ G₁ x₁ V₁ (.ret rv)

/-- objects that are no part of the picture have changed -/
theorem off_step {wr : List Addr} {h' : Heap} {t : Tok} (G : OK X s loc st) (hl : ∀ b ∈ wr, ∀ i, i < st.next → loc i ≠ b) (hi : ∀ b ∈ wr, ∀ o, s.heap.get? b = some o → Imm o = false) (h0 : ∀ b ∈ wr, X.h0.get? b = none) (hk : ∀ b o, b ∉ wr → s.heap.get? b = some o → h'.get? b = some o) :
    OK X { s with heap := h', toks := t } loc st ∧ (∀ b o, s.heap.get? b = some o → Imm o = true → h'.get? b = some o) ∧ (∀ {env : Env} {ae : AEnv}, EnvOK X env ae s.heap loc st.next → (∀ b ∈ wr, b ≠ env.locals ∧ ∀ x c, env.cells.lookup x = some c → c ≠ b) → EnvOK X env ae h' loc st.next) ∧
    ∀ (W : Addr → Prop) (s₀ : Shared) (loc₀ : Nat → Addr) (st₀ : ASt), Ext W s₀ loc₀ st₀ s loc st → (∀ b ∈ wr, s₀.heap.get? b = none) → Ext W s₀ loc₀ st₀ { s with heap := h', toks := t } loc st := by
  have notLoc : ∀ i, i < st.next → loc i ∉ wr := fun i hi hb => hl _ hb i hi rfl
  have imm : ∀ b o, s.heap.get? b = some o → Imm o = true → h'.get? b = some o := fun b o e him => hk b o (fun hb => by rw [hi b hb o e] at him; cases him) e
  refine ⟨⟨fun b o e => hk b o (fun hb => by rw [h0 b hb] at e; cases e) (G.base b o e), G.new, G.inj, fun i hi => (G.rel i hi).mono (fun o e => hk _ o (notLoc i hi) e) imm (fun _ _ => rfl) (Nat.le_refl _)⟩, imm, fun {env ae} V ha => ?_, fun W s₀ loc₀ st₀ x hn => ?_⟩
  · refine ⟨V.kind, V.glob, V.blt, V.kindOf, ?_, fun y hy => ?_, V.inj, V.apart, V.newL, V.newC, V.celled⟩
    · obtain ⟨m, ⟨o, es, ep, ho, hd, r⟩, hm⟩ := V.ns
      refine ⟨m, ⟨o, es, ep, hk _ _ (fun hb => (ha _ hb).1 rfl) ho, hd, r⟩, fun y a hy hk => ?_⟩
      obtain ⟨v, h1, h2⟩ := hm y a hy hk
      exact ⟨v, h1, h2.mono imm (fun _ _ => rfl) (Nat.le_refl _)⟩
    · obtain ⟨c, hc, o, v, ho, hd, hv⟩ := V.cell y hy
      refine ⟨c, hc, o, v, hk _ _ (fun hb => (ha _ hb).2 y c hc rfl) ho, hd, fun a ha => ?_⟩
      obtain ⟨u, h1, h2⟩ := hv a ha
      exact ⟨u, h1, h2.mono imm (fun _ _ => rfl) (Nat.le_refl _)⟩
  · have old : ∀ b o, s₀.heap.get? b = some o → b ∉ wr := fun b o e hb => by rw [hn b hb] at e; cases e
    have k2 : ∀ b o o', s₀.heap.get? b = some o → s.heap.get? b = some o' → h'.get? b = some o' := fun b o o' e e' => hk b o' (old b o e) e'
    exact ⟨x.le, x.at_, x.fresh, fun b o e hn hw => k2 b o o e (x.keep b o e hn hw), fun b o e => let ⟨o', e'⟩ := x.live b o e; ⟨o', k2 b o o' e e'⟩, fun b o e hi => k2 b o o e (x.imm b o e hi), x.verLe,
      fun i hi hv => ⟨(x.ver i hi hv).1, fun o e => k2 _ o o e ((x.ver i hi hv).2 o e)⟩, x.gens, x.os⟩

/-- an iterator has moved on -/
theorem wr_step {wr : List Addr} {h' : Heap} {t : Tok} (G : OK X s loc st) (hf : ∀ b ∈ wr, ∃ o vs, s.heap.get? b = some o ∧ o.data = .fields vs) (h0 : ∀ b ∈ wr, X.h0.get? b = none) (hk : ∀ b o, b ∉ wr → s.heap.get? b = some o → h'.get? b = some o) :
    OK X { s with heap := h', toks := t } loc st ∧ (∀ b o, s.heap.get? b = some o → Imm o = true → h'.get? b = some o) ∧ (∀ {env : Env} {ae : AEnv}, EnvOK X env ae s.heap loc st.next → (∀ b ∈ wr, b ≠ env.locals ∧ ∀ x c, env.cells.lookup x = some c → c ≠ b) → EnvOK X env ae h' loc st.next) ∧
    ∀ (W : Addr → Prop) (s₀ : Shared) (loc₀ : Nat → Addr) (st₀ : ASt), Ext W s₀ loc₀ st₀ s loc st → (∀ b ∈ wr, s₀.heap.get? b = none) → Ext W s₀ loc₀ st₀ { s with heap := h', toks := t } loc st :=
  off_step G (fun b hb i hi q => by obtain ⟨o, vs, e, hd⟩ := hf b hb; exact notFields_of_ORel (G.rel i hi) (by rw [q]; exact e) hd)
    (fun b hb o e => by obtain ⟨o', vs, e', hd⟩ := hf b hb; rw [e] at e'; cases e'; exact Imm.notFields hd) h0 hk

theorem watch_id {src : Src} {id : Nat} (h : src.id? = some id) (st : ASt) : src.watch st = (st.get id).ver := by
  cases src <;> first | (cases h; rfl) | cases h

theorem check_snd {src : Src} {ver : Nat} {u : Unit} (h : checkV src ver st = some (u, st')) : src.watch st = ver ∧ st' = st := by
  unfold checkV at h
  split at h
  · rename_i e; cases h; exact ⟨e, rfl⟩
  · cases h

/-- what a walk over a container needs while the heap moves -/
structure Walk (X : Cx) (env : Env) (src : Src) (A : Around) (target : Expr) (I : Addr) (fp wr : List Addr) (items : List AVal) (num : Nat) (P Md : Nat → Value → Heap → Prop) (St : Nat → Heap → Prop)
    (sB : Shared) (locB : Nat → Addr) (stB : ASt) (sI : Shared) (locI : Nat → Addr) (stI : ASt) : Prop where
  itr : Itr X A target I fp wr items num P Md St sI locI stI
  new : ∀ b ∈ wr, X.h0.get? b = none
  newB : ∀ b ∈ wr, sB.heap.get? b = none
  apartL : env.locals ∉ wr
  apartC : ∀ x c, env.cells.lookup x = some c → c ∉ wr
  foot : ∀ b ∈ fp, b ∈ wr ∨ ∃ id, src.id? = some id ∧ id < stI.next ∧ b = locI id

theorem Walk.off {src : Src} {target : Expr} {I : Addr} {fp wr : List Addr} {items : List AVal} {num : Nat} {P Md : Nat → Value → Heap → Prop} {St : Nat → Heap → Prop} {sB sI : Shared} {locB locI : Nat → Addr} {stB stI : ASt}
    (K : Walk X env src A target I fp wr items num P Md St sB locB stB sI locI stI) : ∀ b ∈ wr, b ≠ env.locals ∧ ∀ x c, env.cells.lookup x = some c → c ≠ b :=
  fun b hb => ⟨fun q => K.apartL (q ▸ hb), fun x c hc q => K.apartC x c hc (q ▸ hb)⟩

structure WalkAt (X : Cx) (env : Env) (ae : AEnv) (src : Src) (ver : Nat) (St : Nat → Heap → Prop) (W : Addr → Prop) (sB : Shared) (locB : Nat → Addr) (stB : ASt) (sI : Shared) (locI : Nat → Addr) (stI : ASt) (i : Nat) (s : Shared) (loc : Nat → Addr) (st : ASt) : Prop where
  ok : OK X s loc st
  vars : EnvOK X env ae s.heap loc st.next
  ext : Ext W sB locB stB s loc st
  imm : ∀ b o, sI.heap.get? b = some o → Imm o = true → s.heap.get? b = some o
  at_ : ∀ j, j < stI.next → loc j = locI j
  le : stI.next ≤ st.next
  there : src.watch st = ver → St i s.heap

/-- a turn of the iterator -/
theorem turn_snd {src : Src} {ver : Nat} {target : Expr} {I : Addr} {fp wr : List Addr} {items : List AVal} {num : Nat} {P Md : Nat → Value → Heap → Prop} {St : Nat → Heap → Prop} {W : Addr → Prop} {sB sI : Shared} {locB locI : Nat → Addr} {stB stI : ASt}
    (K : Walk X env src A target I fp wr items num P Md St sB locB stB sI locI stI) {i : Nat} {a : AVal} {Q : Option Value → Shared → Prop} (hi : items[i]? = some a) (N : WalkAt X env ae src ver St W sB locB stB sI locI stI i s loc st) (hv : src.watch st = ver)
    (hQ : ∀ v s₁, (∀ {E' : Value → Shared → Prop} {Q' : Unit → Shared → Prop}, (∀ s₂, WalkAt X env ae src ver St W sB locB stB sI locI stI (i + 1) s₂ loc st → VRel X s₂.heap loc st.next v a → (∀ b o, b ∉ wr → s.heap.get? b = some o → s₂.heap.get? b = some o) → (∀ b o, s.heap.get? b = some o → Imm o = true → s₂.heap.get? b = some o) → Q' () s₂) → wpAny (model PW X.w) A (letOwnedTupleGo target (.ref I) v) Q' E' s₁) → Q (some v) s₁) :
    wpAny (model PW X.w) A (pyNext (.ref I)) Q E s := by
  have hin : i < num := by rw [K.itr.len]; exact (List.getElem?_eq_some_iff.mp hi).1
  have hst := N.there hv
  refine K.itr.turns.item i s Q E hin hst fun v h' tk hMd hk => hQ v _ fun {E' Q'} q => ?_
  refine K.itr.turns.go i v _ Q' E' hMd fun h₂ hP hst₂ hk₂ => ?_
  obtain ⟨G, imm, V, X'⟩ := wr_step (h' := h₂) (t := tk) N.ok (K.itr.fields i _ hst) K.new fun b o hb e => hk₂ b o hb (hk b o hb e)
  have N' : WalkAt X env ae src ver St W sB locB stB sI locI stI (i + 1) { s with heap := h₂, toks := tk } loc st := ⟨G, V N.vars K.off, X' W sB locB stB N.ext K.newB, fun b o e hi => imm b o (N.imm b o e hi) hi, N.at_, N.le, fun _ => hst₂⟩
  obtain ⟨a', ha', hr⟩ := K.itr.rel { s with heap := h₂, toks := tk } loc st i v N'.imm N'.at_ N'.le hin hP
  rw [hi] at ha'; cases ha'
  exact q _ N' hr (fun b o hb e => hk₂ b o hb (hk b o hb e)) imm

theorem end_snd {src : Src} {ver : Nat} {target : Expr} {I : Addr} {fp wr : List Addr} {items : List AVal} {num : Nat} {P Md : Nat → Value → Heap → Prop} {St : Nat → Heap → Prop} {W : Addr → Prop} {sB sI : Shared} {locB locI : Nat → Addr} {stB stI : ASt}
    (K : Walk X env src A target I fp wr items num P Md St sB locB stB sI locI stI) {Q : Option Value → Shared → Prop} (N : WalkAt X env ae src ver St W sB locB stB sI locI stI items.length s loc st) (hv : src.watch st = ver)
    (hQ : ∀ s₁, OK X s₁ loc st → EnvOK X env ae s₁.heap loc st.next → Ext W sB locB stB s₁ loc st → (∀ b o, b ∉ wr → s.heap.get? b = some o → s₁.heap.get? b = some o) → (∀ b o, s.heap.get? b = some o → Imm o = true → s₁.heap.get? b = some o) → Q none s₁) :
    wpAny (model PW X.w) A (pyNext (.ref I)) Q E s := by
  have hst := N.there hv
  rw [← K.itr.len] at hst
  refine K.itr.turns.done s Q E hst fun h' tk hk => ?_
  obtain ⟨G, imm, V, X'⟩ := wr_step (h' := h') (t := tk) N.ok (K.itr.fields _ _ hst) K.new hk
  exact hQ _ G (V N.vars K.off) (X' W sB locB stB N.ext K.newB) hk imm

/-- the body has run -/
theorem WalkAt.step {src : Src} {ver : Nat} {target : Expr} {I : Addr} {fp wr : List Addr} {items : List AVal} {num : Nat} {P Md : Nat → Value → Heap → Prop} {St : Nat → Heap → Prop} {W W' : Addr → Prop} {sB sI : Shared} {locB locI : Nat → Addr} {stB stI : ASt}
    (K : Walk X env src A target I fp wr items num P Md St sB locB stB sI locI stI) {i : Nat} (N : WalkAt X env ae src ver St W sB locB stB sI locI stI i s loc st) (hv : src.watch st = ver) {s' : Shared} {loc' : Nat → Addr} (G : OK X s' loc' st') (x : Ext W' s loc st s' loc' st')
    (hw : ∀ b, W' b → W b) (hw2 : ∀ b ∈ wr, ¬ W' b) (V : EnvOK X env ae' s'.heap loc' st'.next) : WalkAt X env ae' src ver St W sB locB stB sI locI stI i s' loc' st' where
  ok := G
  vars := V
  ext := N.ext.trans (x.mono hw)
  imm := fun b o e hi => x.imm b o (N.imm b o e hi) hi
  at_ := fun j hj => (x.at_ j (Nat.lt_of_lt_of_le hj N.le)).trans (N.at_ j hj)
  le := Nat.le_trans N.le x.le
  there := fun hv' => by
    have hst := N.there hv
    refine K.itr.turns.frame i _ _ hst fun b hb o e => ?_
    by_cases hbw : b ∈ wr
    · obtain ⟨o', vs, e', hd⟩ := K.itr.fields i _ hst b hbw
      rw [e] at e'; cases e'
      exact x.keep b o e (fun j hj q => notFields_of_ORel (N.ok.rel j hj) (by rw [q]; exact e) hd) (hw2 b hbw)
    · rcases K.foot b hb with q | ⟨id, h1, h2, rfl⟩
      · exact absurd q hbw
      · have hid := Nat.lt_of_lt_of_le h2 N.le
        rw [← N.at_ id h2] at e ⊢
        exact (x.ver id hid (by rw [← watch_id h1, ← watch_id h1, hv, hv'])).2 o e

theorem forLoop_snd (Z : StaticOK X) (S : Snd X r n) (Rm : Room A n) {src : Src} {ver : Nat} {target : Expr} {body : List Stmt} {I : Addr} {fp wr : List Addr} {items : List AVal} {num : Nat} {P Md : Nat → Value → Heap → Prop} {St : Nat → Heap → Prop} {sB sI : Shared} {locB locI : Nat → Addr} {stB stI : ASt}
    (K : Walk X env src A target I fp wr items num P Md St sB locB stB sI locI stI) {R : Result → Shared → Prop} {o : Out} {ae₀ : AEnv} (h : forLoop r src ver target body items ae₀ st = some ((o, ae'), st'))
    (N : WalkAt X env ae₀ src ver St (Wr env) sB locB stB sI locI stI 0 s loc st) (hR : ∀ fl s' loc', OK X s' loc' st' → Ext (Wr env) sB locB stB s' loc' st' → EnvOK X env ae' s'.heap loc' st'.next → FlowRel X s'.heap loc' st'.next fl o → R (.ok fl) s') :
    codeAny (model PW X.w) A (.forLoop target (.ref I) body [] env) R s := by
  have hw2 : ∀ b ∈ wr, ¬ Wr env b := fun b hb q => by
    rcases q with rfl | ⟨x, q⟩
    · exact K.apartL hb
    · exact K.apartC x b q hb
  refine codeAny_forLoop_any (fun k s' => ∃ rest i ae₁ loc₁ st₁, k = rest.length ∧ rest = items.drop i ∧ i ≤ items.length ∧ forLoop r src ver target body rest ae₁ st₁ = some ((o, ae'), st') ∧ WalkAt X env ae₁ src ver St (Wr env) sB locB stB sI locI stI i s' loc₁ st₁) ?_ items.length
    ⟨items, 0, ae₀, loc, st, rfl, rfl, Nat.zero_le _, h, N⟩
  rintro k s' ⟨rest, i, ae₁, loc₁, st₁, rfl, hd, hi, hl, N₁⟩
  cases rest with
  | nil =>
    obtain ⟨u, st₂, h1, h2⟩ := M_bind (m := checkV src ver) (show (do checkV src ver; pure (Out.next, ae₁) : M _) st₁ = _ from hl)
    obtain ⟨hv, rfl⟩ := check_snd h1
    obtain ⟨e, rfl⟩ := M_pure h2
    cases e
    have hie : i = items.length := by
      have := congrArg List.length hd
      simp only [List.length_nil, List.length_drop] at this
      omega
    subst hie
    exact end_snd K N₁ hv fun s₂ G₂ V₂ x₂ _ _ => wpAny_execs_nil (hR .next s₂ loc₁ G₂ x₂ V₂ .next)
  | cons a rest =>
    obtain ⟨u, st₂, h1, h2⟩ := M_bind (m := checkV src ver) (show (do checkV src ver; let env' ← assignT r target ae₁ a; match ← exs r body env' with | (.next, env'') => forLoop r src ver target body rest env'' | x => pure x : M _) st₁ = _ from hl)
    obtain ⟨hv, rfl⟩ := check_snd h1
    obtain ⟨ae₂, st₃, h3, h4⟩ := M_bind (m := assignT r target ae₁ a) h2
    obtain ⟨⟨o₃, ae₃⟩, st₄, h5, h6⟩ := M_bind (m := exs r body ae₂) h4
    have hia : items[i]? = some a := by
      have := congrArg (fun l => l[0]?) hd
      simpa using this.symm
    have hdr : rest = items.drop (i + 1) := by
      have := congrArg List.tail hd
      simpa using this
    refine turn_snd K hia N₁ hv fun v s₁ go => go fun s₂ N₂ rv _ _ => ?_
    refine assignT_snd Z S (WOK.wr _) h3 Rm N₂.ok N₂.vars rv fun s₃ loc₃ G₃ x₃ V₃ => ?_
    refine exs_snd S h5 Rm G₃ V₃ fun fl s₄ loc₄ G₄ x₄ V₄ f₄ => ?_
    have N₄ := WalkAt.step K N₂ hv G₄ (x₃.trans x₄) (fun _ q => q) hw2 V₄
    cases f₄ with
    | next => exact ⟨_, Nat.lt_succ_self _, rest, i + 1, ae₃, loc₄, st₄, rfl, hdr, (List.getElem?_eq_some_iff.mp hia).1, h6, N₄⟩
    | ret rv' =>
      obtain ⟨e, rfl⟩ := M_pure (show (pure (Out.ret _, ae₃) : M _) st₄ = _ from h6)
      cases e
      exact hR _ s₄ loc₄ G₄ N₄.ext V₄ (.ret rv')

end
end
/-! AS16 -/
section
set_option autoImplicit false
set_option maxRecDepth 100000
open PySem PySem.W PyProof.Rows PySem.Calls

theorem closure_go (env : Env) : ∀ (names : List (Str × NameKind)) (cs : List (Str × Addr)), (∀ x, (x, NameKind.free) ∈ names → ∃ c, env.cells.lookup x = some c) → (∀ x c, cs.lookup x = some c → env.cells.lookup x = some c) →
    ∃ cl, (forIn names cs (fun (x : Str × NameKind) (r : List (Str × Addr)) => (match x with
      | (name, kind) => if (kind == NameKind.free) = true then (do let c ← cellOf env name; pure (ForInStep.yield ((name, c) :: r))) else pure (ForInStep.yield r) : Sem (ForInStep (List (Str × Addr)))))) = (pure cl : Sem _) ∧
      (∀ x c, cl.lookup x = some c → env.cells.lookup x = some c) ∧ (∀ x, (cs.lookup x).isSome = true → (cl.lookup x).isSome = true) ∧ (∀ x, (x, NameKind.free) ∈ names → (cl.lookup x).isSome = true) ∧
      (∀ x, (cl.lookup x).isSome = true → (cs.lookup x).isSome = true ∨ (x, NameKind.free) ∈ names)
  | [], cs, _, h => ⟨cs, rfl, h, fun _ e => e, (fun _ e => by cases e), fun _ e => .inl e⟩
  | (y, k) :: names, cs, h1, h => by
    cases hk : k == NameKind.free with
    | false =>
      obtain ⟨cl, e, a, b, c, d⟩ := closure_go env names cs (fun x hx => h1 x (.tail _ hx)) h
      refine ⟨cl, ?_, a, b, fun x hx => ?_, fun x hx => ?_⟩
      · rw [← e, List.forIn_cons]
        simp only [hk, Bool.false_eq_true, if_false]
        rfl
      · rcases List.mem_cons.mp hx with q | q
        · cases q; cases hk
        · exact c x q
      · rcases d x hx with q | q
        · exact .inl q
        · exact .inr (.tail _ q)
    | true =>
      have hk' : k = NameKind.free := by simpa using hk
      subst hk'
      obtain ⟨c₀, hc₀⟩ := h1 y (.head _)
      obtain ⟨cl, e, a, b, c, d⟩ := closure_go env names ((y, c₀) :: cs) (fun x hx => h1 x (.tail _ hx)) (fun x c hx => by
        rw [List.lookup_cons] at hx
        split at hx
        · rename_i q; cases hx; rw [beq_iff_eq] at q; rw [q]; exact hc₀
        · exact h x c hx)
      refine ⟨cl, ?_, a, fun x hx => b x ?_, fun x hx => ?_, fun x hx => ?_⟩
      · rw [← e, List.forIn_cons]
        simp only [cellOf, hc₀]
        rfl
      · rw [List.lookup_cons]; split
        · rfl
        · exact hx
      · rcases List.mem_cons.mp hx with q | q
        · cases q; exact b _ (by rw [List.lookup_cons]; simp)
        · exact c x q
      · rcases d x hx with q | q
        · rw [List.lookup_cons] at q
          split at q
          · rename_i w; rw [beq_iff_eq] at w; subst w; exact .inr (.head _)
          · exact .inl q
        · exact .inr (.tail _ q)

theorem closure_of (scope : Scope) (env : Env) (h : ∀ x, (x, NameKind.free) ∈ scope.names → ∃ c, env.cells.lookup x = some c) :
    ∃ cl, closureFor scope env = pure cl ∧ (∀ x c, cl.lookup x = some c → env.cells.lookup x = some c ∧ (x, NameKind.free) ∈ scope.names) ∧ (∀ x, (x, NameKind.free) ∈ scope.names → ∃ c, cl.lookup x = some c) := by
  obtain ⟨cl, e, a, b, c, d⟩ := closure_go env scope.names [] h (fun x c q => by cases q)
  refine ⟨cl, ?_, fun x c' hx => ⟨a x c' hx, ?_⟩, fun x hx => Option.isSome_iff_exists.mp (c x hx)⟩
  · exact congrArg (fun m : Sem (List (Str × Addr)) => m >>= fun cs => pure cs) e
  · rcases d x (by rw [hx]; rfl) with q | q
    · cases q
    · exact q

theorem relabel_lookup (env : Env) (x : Str) : ∀ names : List (Str × NameKind),
    (names.map fun (n, k) => if (k == NameKind.free && env.scope.kind == .function && env.kindOf n == some .cell) then (n, NameKind.cell) else (n, k)).lookup x =
      (names.lookup x).map fun k => if (k == NameKind.free && env.scope.kind == .function && env.kindOf x == some .cell) then NameKind.cell else k
  | [] => rfl
  | (n, k) :: r => by
    have ih := relabel_lookup env x r
    rw [List.map_cons, List.lookup_cons]
    dsimp only
    by_cases hc : (k == NameKind.free && env.scope.kind == .function && env.kindOf n == some .cell) = true
    · rw [if_pos hc, List.lookup_cons]
      dsimp only
      cases hx : x == n with
      | true =>
        have : x = n := by simpa using hx
        subst this
        dsimp only [Option.map_some]
        rw [if_pos hc]
      | false => exact ih
    · rw [if_neg hc, List.lookup_cons]
      dsimp only
      cases hx : x == n with
      | true =>
        have : x = n := by simpa using hx
        subst this
        dsimp only [Option.map_some]
        rw [if_neg hc]
      | false => exact ih

section
variable {X : Cx} {r : Rec} {n : Nat} {A : Around} {E : Value → Shared → Prop} {s : Shared} {loc : Nat → Addr} {st st' : ASt} {env : Env} {ae ae' : AEnv}

theorem compOk_of {sc esc : Scope} (h : compOk sc esc = true) : sc.kind = .function ∧ (∀ p ∈ sc.names, p.2 ≠ .cell) ∧ (∀ p ∈ sc.names, p.2 = .local → sc.names.lookup p.1 = some .local) ∧
    ∀ x, (x, NameKind.free) ∈ sc.names → (esc.names.lookup x = some .cell ∨ esc.names.lookup x = some .free) ∧ sc.names.lookup x = some .free := by
  unfold compOk at h
  rw [Bool.and_eq_true] at h
  obtain ⟨h1, h2⟩ := h
  rw [List.all_eq_true] at h2
  refine ⟨?_, fun p hp q => ?_, fun p hp q => ?_, fun x hx => ?_⟩
  · split at h1
    · assumption
    · cases h1
  · have := h2 p hp
    unfold compName at this
    rw [q] at this; cases this
  · have := h2 p hp
    unfold compName at this
    rw [q] at this
    simpa using this
  · have := h2 _ hx
    unfold compName at this
    simp only [Bool.and_eq_true, Bool.or_eq_true, beq_iff_eq] at this
    exact this

theorem mem_of_lookup {x : Str} {k : NameKind} : ∀ {l : List (Str × NameKind)}, l.lookup x = some k → (x, k) ∈ l
  | [], h => by cases h
  | (y, j) :: l, h => by
    rw [List.lookup_cons] at h
    split at h
    · rename_i q; cases h; rw [beq_iff_eq] at q; subst q; exact .head _
    · exact .tail _ (mem_of_lookup h)

theorem EnvOK.cellAt (V : EnvOK X env ae s.heap loc st.next) {x : Str} (h : ae.sc.names.lookup x = some .cell ∨ ae.sc.names.lookup x = some .free) : env.kindOf x = some .cell ∨ env.kindOf x = some .free := by
  rcases h with h | h
  · rcases V.kindOf x _ h with q | q
    · exact .inl q
    · cases q.1
  · rcases V.kindOf x _ h with q | q
    · exact .inr q
    · exact .inl q.2

theorem lookup_filter {β : Type} (p : Str → Bool) (x : Str) : ∀ l : List (Str × β), (l.filter fun q => p q.1).lookup x = if p x then l.lookup x else none
  | [] => by split <;> rfl
  | (y, b) :: l => by
    rw [List.filter_cons]
    by_cases hx : x = y
    · subst hx
      dsimp only
      split
      · rw [List.lookup_cons, List.lookup_cons]; simp
      · rename_i hp; rw [lookup_filter p x l, if_neg hp]
    · have hb : (x == y) = false := by simp [hx]
      dsimp only
      split
      · rw [List.lookup_cons, hb, List.lookup_cons, hb]; exact lookup_filter p x l
      · rw [List.lookup_cons, hb]; exact lookup_filter p x l

/-- the names of a comprehension, right after its table was made -/
theorem compEnv_snd {sc : Scope} {cl : List (Str × Addr)} {C : Addr} (ok : compOk sc ae.sc = true) (G : OK X s loc st) (V : EnvOK X env ae s.heap loc st.next)
    (h1 : ∀ x c, cl.lookup x = some c → env.cells.lookup x = some c ∧ (x, NameKind.free) ∈ sc.names) (h2 : ∀ x, (x, NameKind.free) ∈ sc.names → ∃ c, cl.lookup x = some c)
    {m : Str → Option Value} (hn : s.heap.Ns C m) (hC : X.h0.get? C = none) (hl : ∀ i, i < st.next → loc i ≠ C) : EnvOK X (compEnvC sc cl C env) (compEnvA sc ae) s.heap loc st.next := by
  obtain ⟨o1, o2, o3, o4⟩ := compOk_of ok
  have kof : ∀ x, (compEnvC sc cl C env).kindOf x = (sc.names.lookup x).map fun k => if (k == NameKind.free && env.scope.kind == .function && env.kindOf x == some .cell) then NameKind.cell else k := fun x => relabel_lookup env x sc.names
  have free_of : ∀ x, ((compEnvC sc cl C env).kindOf x = some .cell ∨ (compEnvC sc cl C env).kindOf x = some .free) → sc.names.lookup x = some .free := by
    intro x hx
    rw [kof] at hx
    cases hk : sc.names.lookup x with
    | none => rw [hk] at hx; rcases hx with q | q <;> cases q
    | some k =>
      rw [hk] at hx
      cases k with
      | free => rfl
      | cell => exact absurd rfl (o2 _ (mem_of_lookup hk))
      | _ => rcases hx with q | q <;> (simp at q)
  have cellok : ∀ x, sc.names.lookup x = some .free → env.kindOf x = some .cell ∨ env.kindOf x = some .free := fun x hx => V.cellAt (o4 x (mem_of_lookup hx)).1
  refine ⟨o1, V.glob, V.blt, fun x k hk => ?_, ⟨m, hn, fun x a hx hk => ?_⟩, fun x hx => ?_, fun x y c hx hy => V.inj x y c (h1 x c hx).1 (h1 y c hy).1, fun i hi => hl i hi, hC, fun x c hx => V.newC x c (h1 x c hx).1, fun x c hx => ?_⟩
  · rw [kof]
    have hk : sc.names.lookup x = some k := hk
    rw [hk]
    by_cases q : (k == NameKind.free && env.scope.kind == .function && env.kindOf x == some .cell) = true
    · simp only [Option.map_some, if_pos q]
      rw [Bool.and_eq_true, Bool.and_eq_true] at q
      exact .inr ⟨by simpa using q.1.1, trivial⟩
    · simp only [Option.map_some, if_neg q]
      exact .inl trivial
  · exfalso
    have hx : (ae.vars.filter fun p => sc.names.lookup p.1 == some .free).lookup x = some a := hx
    rw [lookup_filter (fun y => sc.names.lookup y == some .free)] at hx
    split at hx
    · rename_i q
      rw [kof, beq_iff_eq.mp q] at hk
      simp only [Option.map_some, Option.some.injEq] at hk
      split at hk <;> cases hk
    · cases hx
  · have hf := free_of x hx
    obtain ⟨c, hc⟩ := h2 x (mem_of_lookup hf)
    obtain ⟨d, hd, o, v, ho, hdd, hv⟩ := V.cell x (cellok x hf)
    have e := (h1 x c hc).1
    rw [hd] at e; cases e
    refine ⟨_, hc, o, v, ho, hdd, fun a ha => hv a ?_⟩
    have ha : (ae.vars.filter fun p => sc.names.lookup p.1 == some .free).lookup x = some a := ha
    rw [lookup_filter (fun y => sc.names.lookup y == some .free), hf] at ha
    simpa using ha
  · have hf := (o4 x (h1 x c hx).2).2
    rw [kof, hf]
    simp only [Option.map_some]
    split
    · exact .inl rfl
    · exact .inr rfl

end
end
/-! AS17 -/
section
set_option autoImplicit false
set_option maxRecDepth 100000
open PySem PySem.W PyProof.Rows PySem.Calls

theorem codeAny_compLoop_gen {prog : Program} {w : World} {A : Around} {s : Shared} {R : Result → Shared → Prop} {elt target iter : Expr} {ifs : List Expr} {scope : Scope} {pos : Pos} {it acc : Value} {env : Env} (I : Nat → Shared → Prop)
    (turn : ∀ n s, I n s → wpAny (model prog w) A (pyNext it) (fun r s₁ => match r with
      | none => R (.ok .next) s₁
      | some v => wpAny (model prog w) A (letOwnedTupleGo target it v) (fun _ s₁' => wpAny (model prog w) A (assign target env v) (fun _ s₂ =>
          wpAny (model prog w) A (forIn ifs true fun c r => if r = true then do let ok ← isTrue c env (eval c env); pure (ForInStep.yield ok) else pure (ForInStep.yield r)) (fun ok s₃ =>
            if ok = true then wpAny (model prog w) A (eval elt env) (fun x s₄ =>
              wpAny (model prog w) A (call (.builtin "list.append") [acc, x]) (fun _ s₅ => ∃ m, m < n ∧ I m s₅) (notedBy (model prog w) A env fun e s' => R (.error e) s') s₄) (notedBy (model prog w) A env fun e s' => R (.error e) s') s₃
            else ∃ m, m < n ∧ I m s₃) (notedBy (model prog w) A env fun e s' => R (.error e) s') s₂) (notedBy (model prog w) A env fun e s' => R (.error e) s') s₁') (notedBy (model prog w) A env fun e s' => R (.error e) s') s₁) (notedBy (model prog w) A env fun e s' => R (.error e) s') s)
    (n : Nat) (h : I n s) :
    codeAny (model prog w) A (.compLoop (.ListComp elt [⟨target, iter, ifs, 0⟩] scope pos) 0 it acc env) R s := by
  refine codeAny_loop rfl I (fun n s hI => ?_) n h
  show wpAny _ A ((compTurn (.ListComp elt [⟨target, iter, ifs, 0⟩] scope pos) 0 it acc env).onRaise (fun x => do noteFrame x env; theTreesLotGoes x)) _ _ s
  refine wpAny_noted ?_
  rw [compTurn_list]
  refine wpAny_bind (wpAny_standAt (wpAny_bind (wpAny_mono (turn n s hI) (fun r s₁ h₁ => ?_) fun _ _ h' => h')))
  cases r with
  | none => exact wpAny_pure h₁
  | some v =>
    refine wpAny_bind (wpAny_mono h₁ (fun _ s₁' h₁' => ?_) fun _ _ h' => h')
    refine wpAny_bind (wpAny_mono h₁' (fun _ s₂ h₂ => wpAny_bind (wpAny_mono h₂ (fun ok s₃ h₃ => ?_) fun _ _ h' => h')) fun _ _ h' => h')
    cases ok with
    | false => exact wpAny_pure ⟨rfl, h₃⟩
    | true =>
      exact wpAny_bind (wpAny_bind (wpAny_mono h₃ (fun x s₄ h₄ => wpAny_bind (wpAny_mono h₄ (fun _ s₅ h₅ => wpAny_pure (wpAny_pure ⟨rfl, h₅⟩)) fun _ _ h' => h')) fun _ _ h' => h'))

theorem tests_false (env : Env) : ∀ ifs : List Expr, (forIn ifs false fun (c : Expr) (r : Bool) => if r = true then (do let ok ← isTrue c env (eval c env); pure (ForInStep.yield ok) : Sem (ForInStep Bool)) else pure (ForInStep.yield r)) = (pure false : Sem Bool)
  | [] => rfl
  | c :: ifs => by
    rw [List.forIn_cons, if_neg (by decide)]
    exact tests_false env ifs

section
variable {X : Cx} {r : Rec} {n : Nat} {A : Around} {E : Value → Shared → Prop} {s : Shared} {loc : Nat → Addr} {st st' : ASt} {env : Env} {ae ae' : AEnv}

theorem tests_snd (S : Snd X r n) : ∀ {ifs : List Expr} {st st' : ASt} {b : Bool} {s : Shared} {loc : Nat → Addr} {Q : Bool → Shared → Prop} (_ : tests r ae ifs st = some (b, st')) (_ : Room A n) (_ : OK X s loc st) (_ : EnvOK X env ae s.heap loc st.next)
    (_ : ThenB X s loc st b st' Q), wpAny (model PW X.w) A (forIn ifs true fun c r => if r = true then do let ok ← isTrue c env (eval c env); pure (ForInStep.yield ok) else pure (ForInStep.yield r)) Q E s
  | [], st, st', b, s, loc, Q, h, Rm, G, V, T => by
    obtain ⟨rfl, rfl⟩ := M_pure (show (pure true : M Bool) st = _ from h)
    exact wpAny_tests_nil (T s loc G (.refl ..))
  | c :: ifs, st, st', b, s, loc, Q, h, Rm, G, V, T => by
    obtain ⟨v, st₁, h1, h2⟩ := M_bind (m := r.ev c ae) h
    obtain ⟨t, st₂, h3, h4⟩ := M_bind (m := truth v) h2
    rw [List.forIn_cons]
    refine wpAny_bind ?_
    rw [if_pos rfl]
    refine wpAny_bind (S.tr h1 h3 Rm G V fun s₁ loc₁ G₁ x₁ => wpAny_pure ?_)
    dsimp only
    rcases M_ite h4 with ⟨rfl, h4⟩ | ⟨hf, h4⟩
    · exact tests_snd S h4 Rm G₁ (V.ext G x₁) (T.after x₁)
    · obtain ⟨rfl, rfl⟩ := M_pure h4
      obtain rfl : t = false := by simpa using hf
      exact wpAny_of_eq (tests_false env ifs) (T s₁ loc₁ G₁ x₁)

/-- the list that a comprehension fills -/
structure AccAt (X : Cx) (D : Addr) (vs : List Value) (ys : List AVal) (s : Shared) (loc : Nat → Addr) (st : ASt) : Prop where
  obj : ∃ k, s.heap.get? D = some ⟨.type "list", none, .seq vs.toArray k, #[]⟩
  rel : VRels X s.heap loc st.next vs ys
  off : ∀ i, i < st.next → loc i ≠ D

theorem AccAt.ext {W : Addr → Prop} {D : Addr} {vs : List Value} {ys : List AVal} {s' : Shared} {loc' : Nat → Addr} (a : AccAt X D vs ys s loc st) (x : Ext W s loc st s' loc' st') (hw : ¬ W D) : AccAt X D vs ys s' loc' st' := by
  obtain ⟨⟨k, h1⟩, h2, h3⟩ := a
  refine ⟨⟨k, x.keep D _ h1 h3 hw⟩, h2.ext x, fun i hi q => ?_⟩
  rcases Nat.lt_or_ge i st.next with h | h
  · exact h3 i h ((x.at_ i h).symm.trans q)
  · have := x.fresh i h hi; rw [q, h1] at this; cases this
theorem AccAt.keep {D : Addr} {vs : List Value} {ys : List AVal} {s' : Shared} (a : AccAt X D vs ys s loc st) (hD : ∀ o, s.heap.get? D = some o → s'.heap.get? D = some o) (hi : ∀ b o, s.heap.get? b = some o → Imm o = true → s'.heap.get? b = some o) : AccAt X D vs ys s' loc st :=
  ⟨let ⟨k, h⟩ := a.obj; ⟨k, hD _ h⟩, a.rel.mono hi (fun _ _ => rfl) (Nat.le_refl _), a.off⟩

/-- one more -/
theorem AccAt.append {D : Addr} {vs : List Value} {ys : List AVal} {v : Value} {y : AVal} {Q : Value → Shared → Prop} (a : AccAt X D vs ys s loc st) (G : OK X s loc st) (hD : X.h0.get? D = none) (hl : env.locals ≠ D) (hc : ∀ x c, env.cells.lookup x = some c → c ≠ D) (hz : ys.length ≤ 1000000) (rv : VRel X s.heap loc st.next v y)
    (hQ : ∀ s', OK X s' loc st → (EnvOK X env ae s.heap loc st.next → EnvOK X env ae s'.heap loc st.next) → AccAt X D (vs ++ [v]) (ys ++ [y]) s' loc st → (∀ b o, b ≠ D → s.heap.get? b = some o → s'.heap.get? b = some o) → (∀ b o, s.heap.get? b = some o → Imm o = true → s'.heap.get? b = some o) →
      (∀ (W : Addr → Prop) (s₀ : Shared) (loc₀ : Nat → Addr) (st₀ : ASt), Ext W s₀ loc₀ st₀ s loc st → s₀.heap.get? D = none → Ext W s₀ loc₀ st₀ s' loc st) → Q .none s') :
    wpAny (model PW X.w) A (call (.builtin "list.append") [.ref D, v]) Q E s := by
  obtain ⟨⟨k, h1⟩, h2, h3⟩ := a
  have hs := Heap.SameBut.update s.heap D (Obj.mapSeq (·.push v))
  have e1 := Heap.get?_update_self (Obj.mapSeq (·.push v)) h1 rfl
  simp only [Obj.mapSeq, List.push_toArray] at e1
  obtain ⟨G', imm, V', x'⟩ := off_step (wr := [D]) (h' := s.heap.update D (Obj.mapSeq (·.push v))) (t := s.toks) G (fun b hb i hi => by rw [List.mem_singleton] at hb; subst hb; exact h3 i hi)
    (fun b hb o e => by rw [List.mem_singleton] at hb; subst hb; rw [h1] at e; cases e; rfl) (fun b hb => by rw [List.mem_singleton] at hb; subst hb; exact hD) (fun b o hb e => hs.extBut b o (by simpa using hb) e)
  refine call_meetsIn PySem.F.slot_list_append (isList_of h1).typeIs PySem.F.entry_list_append (PySem.F.args_list_append_2 _ _) ((list_append D vs.toArray k v (by have := h2.length; rw [List.size_toArray]; exact Nat.le_trans (by omega) million)).inModel PW X.w)
    ⟨h1, hQ _ G' (fun V => V' V fun b hb => by rw [List.mem_singleton] at hb; subst hb; exact ⟨hl.symm, hc⟩) ⟨⟨_, e1⟩, ?_, h3⟩ (fun b o hb e => hs.extBut b o hb e) imm fun W s₀ loc₀ st₀ x hn => x' W s₀ loc₀ st₀ x fun b hb => by rw [List.mem_singleton] at hb; subst hb; exact hn⟩
  · exact (h2.mono imm (fun _ _ => rfl) (Nat.le_refl _)).append (.cons (rv.mono imm (fun _ _ => rfl) (Nat.le_refl _)) .nil)

theorem bindTs_sc : ∀ {ts : List Expr} {vs : List AVal} {ae ae' : AEnv} {st st' : ASt}, bindTs r ts ae vs st = some (ae', st') → ae'.sc = ae.sc
  | [], [], ae, ae', st, st', h => by obtain ⟨rfl, rfl⟩ := M_pure (show (pure ae : M AEnv) st = _ from h); rfl
  | [], _ :: _, _, _, _, _, h => by cases h
  | _ :: _, [], _, _, _, _, h => by cases h
  | t :: ts, v :: vs, ae, ae', st, st', h => by
    obtain ⟨u, st₁, h1, h2⟩ := M_bind (m := bindT r t ae v) h
    exact (bindTs_sc h2).trans (bindT_sc h1)
theorem assignT_sc {t : Expr} {a : AVal} (h : assignT r t ae a st = some (ae', st')) : ae'.sc = ae.sc := by
  by_cases ht : ∃ ts k p, t = .Tuple ts k p
  · obtain ⟨ts, k, p, rfl⟩ := ht
    cases a <;> first | exact bindTs_sc h | cases h
  · have h' : bindT r t ae a st = some (ae', st') := by
      cases t <;> first | exact h | exact absurd ⟨_, _, _, rfl⟩ ht
    exact bindT_sc h'

theorem compLoop_snd (Z : StaticOK X) (S : Snd X r n) (Rm : Room A n) {src : Src} {ver : Nat} {target elt iter : Expr} {ifs : List Expr} {sc : Scope} {pos : Pos} {I D : Addr} {fp wr : List Addr} {items : List AVal} {num : Nat} {P Md : Nat → Value → Heap → Prop} {St : Nat → Heap → Prop} {sB sI : Shared} {locB locI : Nat → Addr} {stB stI : ASt}
    (K : Walk X env src A target I fp wr items num P Md St sB locB stB sI locI stI) {R : Result → Shared → Prop} {ae₀ : AEnv} {total : List AVal} (h : compLoop r src ver target elt ifs items ae₀ st = some (total, st')) (hz : items.length ≤ 1000000)
    (hsc : ∀ x, ae₀.sc.names.lookup x ≠ some .cell) (hD : X.h0.get? D = none) (hDB : sB.heap.get? D = none) (hDl : env.locals ≠ D) (hDc : ∀ x c, env.cells.lookup x = some c → c ≠ D) (hDw : D ∉ wr) (hDf : ∀ id, src.id? = some id → id < stI.next → locI id ≠ D)
    (N : WalkAt X env ae₀ src ver St (fun b => b = env.locals) sB locB stB sI locI stI 0 s loc st) (a₀ : AccAt X D [] [] s loc st)
    (hR : ∀ vs s' loc' ae', OK X s' loc' st' → Ext (fun b => b = env.locals) sB locB stB s' loc' st' → EnvOK X env ae' s'.heap loc' st'.next → AccAt X D vs total s' loc' st' → R (.ok .next) s') :
    codeAny (model PW X.w) A (.compLoop (.ListComp elt [⟨target, iter, ifs, 0⟩] sc pos) 0 (.ref I) (.ref D) env) R s := by
  have hw2 : ∀ b ∈ wr, ¬ (b = env.locals) := fun b hb q => K.apartL (q ▸ hb)
  refine codeAny_compLoop_gen (fun k s' => ∃ rest i ae₁ loc₁ st₁ don ys vs, k = rest.length ∧ rest = items.drop i ∧ i ≤ items.length ∧ don.length ≤ i ∧ compLoop r src ver target elt ifs rest ae₁ st₁ = some (ys, st') ∧ don ++ ys = total ∧ ae₁.sc = ae₀.sc ∧
    WalkAt X env ae₁ src ver St (fun b => b = env.locals) sB locB stB sI locI stI i s' loc₁ st₁ ∧ AccAt X D vs don s' loc₁ st₁) ?_ items.length
    ⟨items, 0, ae₀, loc, st, [], total, [], rfl, rfl, Nat.zero_le _, Nat.le_refl _, h, rfl, rfl, N, a₀⟩
  rintro k s' ⟨rest, i, ae₁, loc₁, st₁, don, ys, vs, rfl, hd, hi, hdl, hl, htot, hsc₁, N₁, a₁⟩
  cases rest with
  | nil =>
    obtain ⟨u, st₂, h1, h2⟩ := M_bind (m := checkV src ver) (show (do checkV src ver; pure ([] : List AVal) : M _) st₁ = _ from hl)
    obtain ⟨hv, rfl⟩ := check_snd h1
    obtain ⟨rfl, rfl⟩ := M_pure h2
    rw [List.append_nil] at htot
    subst htot
    have hie : i = items.length := by
      have := congrArg List.length hd
      simp only [List.length_nil, List.length_drop] at this
      omega
    subst hie
    exact end_snd K N₁ hv fun s₂ G₂ V₂ x₂ k₂ i₂ => hR vs s₂ loc₁ ae₁ G₂ x₂ V₂ (a₁.keep (fun o e => k₂ D o hDw e) i₂)
  | cons a rest =>
    obtain ⟨u, st₂, h1, h2⟩ := M_bind (m := checkV src ver) (show (do
      checkV src ver
      let env' ← assignT r target ae₁ a
      let b ← tests r env' ifs
      if b then do
        let y ← r.ev elt env'
        let ys ← compLoop r src ver target elt ifs rest env'
        pure (y :: ys)
      else compLoop r src ver target elt ifs rest env' : M _) st₁ = _ from hl)
    obtain ⟨hv, rfl⟩ := check_snd h1
    obtain ⟨ae₂, st₃, h3, h4⟩ := M_bind (m := assignT r target ae₁ a) h2
    obtain ⟨b, st₄, h5, h6⟩ := M_bind (m := tests r ae₂ ifs) h4
    have hia : items[i]? = some a := by
      have := congrArg (fun l => l[0]?) hd
      simpa using this.symm
    have hdr : rest = items.drop (i + 1) := by
      have := congrArg List.tail hd
      simpa using this
    have hlt := (List.getElem?_eq_some_iff.mp hia).1
    refine turn_snd K hia N₁ hv fun v s₁ go => go fun s₂ N₂ rv k₂ i₂ => ?_
    have a₂ := a₁.keep (fun o e => k₂ D o hDw e) i₂
    have wo : WOK ae₁.sc env (fun b => b = env.locals) := ⟨rfl, fun x b q => absurd (hsc₁ ▸ q) (hsc x)⟩
    refine assignT_snd Z S wo h3 Rm N₂.ok N₂.vars rv fun s₃ loc₃ G₃ x₃ V₃ => ?_
    refine tests_snd S h5 Rm G₃ V₃ fun s₄ loc₄ G₄ x₄ => ?_
    have V₄ := V₃.ext G₃ x₄
    have a₄ := (a₂.ext x₃ fun q => hDl q.symm).ext x₄ id
    have x₂₄ := x₃.trans (x₄.mono (W' := fun b => b = env.locals) fun _ q => q.elim)
    have hsc₂ : ae₂.sc = ae₀.sc := (assignT_sc h3).trans hsc₁
    rcases M_ite h6 with ⟨rfl, h6⟩ | ⟨hf, h6⟩
    · rw [if_pos rfl]
      obtain ⟨y, st₅, h7, h8⟩ := M_bind (m := r.ev elt ae₂) h6
      obtain ⟨ys', st₆, h9, h10⟩ := M_bind (m := compLoop r src ver target elt ifs rest ae₂) h8
      obtain ⟨rfl, rfl⟩ := M_pure h10
      refine S.ev h7 Rm G₄ V₄ fun vy s₅ loc₅ G₅ x₅ r₅ => ?_
      have a₅ := a₄.ext x₅ id
      refine AccAt.append (env := env) (ae := ae₂) a₅ G₅ hD hDl hDc (by omega) r₅ fun s₆ G₆ V₆ a₆ k₆ i₆ x₆ => ?_
      have N₅ := WalkAt.step K N₂ hv G₅ (x₂₄.trans (x₅.mono fun _ q => q.elim)) (fun _ q => q) hw2 (V₄.ext G₄ x₅)
      refine ⟨_, Nat.lt_succ_self _, rest, i + 1, ae₂, loc₅, st₅, don ++ [y], ys', _, rfl, hdr, hlt, by simp; omega, h9, by rw [← htot]; simp, hsc₂, ⟨G₆, V₆ N₅.vars, x₆ _ _ _ _ N₅.ext hDB, fun b o e hi => i₆ b o (N₅.imm b o e hi) hi, N₅.at_, N₅.le, fun hv' => ?_⟩, a₆⟩
      refine K.itr.turns.frame _ _ _ (N₅.there hv') fun b hb o e => k₆ b o (fun q => ?_) e
      subst q
      rcases K.foot _ hb with q | ⟨id, q1, q2, q3⟩
      · exact hDw q
      · exact hDf id q1 q2 q3.symm
    · obtain rfl : b = false := by simpa using hf
      rw [if_neg (by decide)]
      have N₄ := WalkAt.step K N₂ hv G₄ x₂₄ (fun _ q => q) hw2 V₄
      exact ⟨_, Nat.lt_succ_self _, rest, i + 1, ae₂, loc₄, st₄, don, ys, vs, rfl, hdr, hlt, by omega, h6, htot, hsc₂, N₄, a₄⟩

end
end
/-! AS18 -/
section
set_option autoImplicit false
set_option maxRecDepth 100000
open PySem PySem.W PyProof.Rows PySem.Calls

section
variable {X : Cx} {r : Rec} {n : Nat} {A : Around} {E : Value → Shared → Prop} {s : Shared} {loc : Nat → Addr} {st st' : ASt} {env : Env} {ae ae' : AEnv}

theorem adopt {D : Addr} {vs : List Value} {ys : List AVal} (G : OK X s loc st) (a : AccAt X D vs ys s loc st) (hD : X.h0.get? D = none) : OK X s (locN loc st.next D) (st.new (.list ys)) ∧ VRel X s.heap (locN loc st.next D) (st.new (.list ys)).next (.ref D) (.obj st.next) ∧
    (∀ i, i < (st.new (.list ys)).next → locN loc st.next D i = D ∨ (i < st.next ∧ locN loc st.next D i = loc i)) ∧
    ∀ (W : Addr → Prop) (sB : Shared) (locB : Nat → Addr) (stB : ASt), Ext W sB locB stB s loc st → sB.heap.get? D = none → Ext W sB locB stB s (locN loc st.next D) (st.new (.list ys)) := by
  obtain ⟨⟨k, h1⟩, h2, h3⟩ := a
  have old : ∀ i, i < st.next → locN loc st.next D i = loc i := fun i hi => by unfold locN; rw [if_neg (Nat.ne_of_lt hi)]
  have new : locN loc st.next D st.next = D := by unfold locN; rw [if_pos rfl]
  have og : ∀ i, i < st.next → (st.new (.list ys)).get i = st.get i := fun i hi => by show (if i = st.next then _ else _) = _; rw [if_neg (Nat.ne_of_lt hi)]
  have ng : (st.new (.list ys)).get st.next = ⟨0, .list ys⟩ := by show (if st.next = st.next then _ else _) = _; rw [if_pos rfl]
  have nx : (st.new (.list ys)).next = st.next + 1 := rfl
  refine ⟨⟨G.base, fun i hi => ?_, fun i j hi hj e => ?_, fun i hi => ?_⟩, ?_, fun i hi => ?_, fun W sB locB stB x hB => ⟨by rw [nx]; exact Nat.le_succ_of_le x.le, fun i hi => (old i (Nat.lt_of_lt_of_le hi x.le)).trans (x.at_ i hi), fun i h1 h2 => ?_, x.keep, x.live, x.imm,
    fun i hi => by rw [og i (Nat.lt_of_lt_of_le hi x.le)]; exact x.verLe i hi, fun i hi => by rw [og i (Nat.lt_of_lt_of_le hi x.le)]; exact x.ver i hi, x.gens, x.os⟩⟩
  · rcases Nat.lt_or_ge i st.next with h | h
    · rw [old i h]; exact G.new i h
    · obtain rfl : i = st.next := by rw [nx] at hi; omega
      rw [new]; exact hD
  · rcases Nat.lt_or_ge i st.next with h | h <;> rcases Nat.lt_or_ge j st.next with h' | h'
    · rw [old i h, old j h'] at e; exact G.inj i j h h' e
    · obtain rfl : j = st.next := by rw [nx] at hj; omega
      rw [old i h, new] at e; exact absurd e (h3 i h)
    · obtain rfl : i = st.next := by rw [nx] at hi; omega
      rw [old j h', new] at e; exact absurd e.symm (h3 j h')
    · rw [nx] at hi hj; omega
  · rcases Nat.lt_or_ge i st.next with h | h
    · rw [old i h, og i h]; exact (G.rel i h).mono (fun o e => e) (fun a o e _ => e) old (by rw [nx]; omega)
    · obtain rfl : i = st.next := by rw [nx] at hi; omega
      rw [new, ng]; exact ⟨vs, k, h1, h2.mono (fun a o e _ => e) old (by rw [nx]; omega)⟩
  · have := VRel.obj (X := X) (h := s.heap) (loc := locN loc st.next D) (N := (st.new (.list ys)).next) (id := st.next) (by rw [nx]; omega)
    rwa [new] at this
  · rcases Nat.lt_or_ge i st.next with h | h
    · exact .inr ⟨h, old i h⟩
    · obtain rfl : i = st.next := by rw [nx] at hi; omega
      exact .inl new
  · rcases Nat.lt_or_ge i st.next with h | h
    · rw [old i h]; exact x.fresh i h1 h
    · obtain rfl : i = st.next := by rw [nx] at h2; omega
      rw [new]; exact hB

theorem comp_block (Z : StaticOK X) (S : Snd X r n) (Rm : Room A n) (G : OK X s loc st) (V : EnvOK X env ae s.heap loc st.next) {elt target iter : Expr} {ifs : List Expr} {k : Nat} {sc : Scope} {pos : Pos} {a : AVal} {cl : List (Str × Addr)} (h : compA r ae elt ⟨target, iter, ifs, k⟩ sc st = some (a, st'))
    (h1 : ∀ x c, cl.lookup x = some c → env.cells.lookup x = some c ∧ (x, NameKind.free) ∈ sc.names) (h2 : ∀ x, (x, NameKind.free) ∈ sc.names → ∃ c, cl.lookup x = some c) {RR : Value → Addr → Result → Shared → Prop}
    (hRR : ∀ D C s' loc', OK X s' loc' st' → Ext NoW s loc st s' loc' st' → VRel X s'.heap loc' st'.next (.ref D) a → (∃ m, s'.heap.Ns C m) → s.heap.get? C = none → (∀ i, i < st'.next → loc' i ≠ C) → X.h0.get? C = none → RR (.ref D) C (.ok .next) s') :
    wpAny (model PW X.w) A (eval iter env) (fun x s₁ => wpAny (model PW X.w) A (pyIter x) (fun it s₂ => wpAny (model PW X.w) A (newList []) (fun acc s₃ => wpAny (model PW X.w) A (newFunctionEnv sc env.globals cl [] env.qual none .none (some env)) (fun cenv s₄ =>
      codeAny (model PW X.w) A (.compStart (.ListComp elt [⟨target, iter, ifs, 0⟩] sc pos) 0 it acc { cenv with scope := relabel sc env }) (RR acc cenv.locals) s₄) E s₃) E s₂) E s₁) E s := by
  unfold compA at h
  rcases M_ite h with ⟨_, h⟩ | ⟨hc, h⟩
  · cases h
  simp only [Bool.not_eq_true, Bool.not_eq_false', Bool.and_eq_true] at hc
  obtain ⟨_, hok⟩ := hc
  obtain ⟨o1, o2, o3, o4⟩ := compOk_of hok
  obtain ⟨src, st₁, e1, h⟩ := M_bind (m := srcOf r ae iter) h
  obtain ⟨items, st₂, e2, h⟩ := M_bind (m := srcItems src) h
  obtain ⟨ver, st₃, e3, h⟩ := M_bind (m := (fun st => some (src.watch st, st) : M Nat)) h
  cases e3
  obtain ⟨ys, st₄, e4, h⟩ := M_bind (m := compLoop r src (src.watch st₂) target elt ifs items (compEnvA sc ae)) h
  rcases M_ite h with ⟨hg, h⟩ | ⟨_, h⟩
  rotate_left
  · cases h
  rw [Bool.and_eq_true, decide_eq_true_eq] at hg
  obtain ⟨ht, hz⟩ := hg
  obtain ⟨id, st₅, e5, h⟩ := M_bind (m := newD _) h
  obtain ⟨rfl, rfl⟩ := M_newD e5
  obtain ⟨rfl, rfl⟩ := M_pure h
  refine srcOf_snd Z S e1 Rm G V fun x s₁ loc₁ G₁ x₁ sv => ?_
  refine pyIter_snd Z Rm G₁ sv e2 ht x₁.live fun I fp wr num P Md St s₂ est G₂ x₂ itr st0 hwr hfp hlive => ?_
  subst est
  have V₂ := (V.ext G x₁).ext G₁ x₂
  have x₁₂ := x₁.trans x₂
  refine wpAny_newList ?_
  refine wpAny_newFunctionEnv o2 (by intro y hy; simp at hy) (fun h₁ hns₁ hsb₁ => ?_) o1
  dsimp only at hns₁ hsb₁ ⊢
  generalize hH2 : s₂.heap.push { cls := .type "list", dict := none, data := .seq ([] : List Value).toArray } = H2 at hns₁ hsb₁ ⊢
  have hC : H2.objs.size = s₂.heap.objs.size + 1 := by rw [← hH2, Heap.size_push]
  have hDC : s₂.heap.objs.size ≠ H2.objs.size := by rw [hC]; exact Nat.ne_of_lt (Nat.lt_succ_self _)
  have below : ∀ b o, s₂.heap.get? b = some o → b ≠ H2.objs.size ∧ b ≠ s₂.heap.objs.size := fun b o e => by
    have hb := Heap.lt_size e
    exact ⟨by rw [hC]; exact Nat.ne_of_lt (Nat.lt_succ_of_lt hb), Nat.ne_of_lt hb⟩
  have old : ∀ b o, s₂.heap.get? b = some o → h₁.get? b = some o := fun b o e => hsb₁.extBut b o (below b o e).1 (Heap.get?_push_of_some _ (hH2 ▸ Heap.get?_push_of_some _ e))
  have hacc : h₁.get? s₂.heap.objs.size = some ⟨.type "list", none, .seq (List.toArray ([] : List Value)) 0, #[]⟩ := hsb₁.extBut _ _ hDC (Heap.get?_push_of_some _ (hH2 ▸ Heap.get?_push_size _ rfl))
  have fresh : ∀ b, s₂.heap.objs.size ≤ b → s.heap.get? b = none := fun b hb => by
    cases e : s.heap.get? b with
    | none => rfl
    | some o' => obtain ⟨o'', e'⟩ := x₁₂.live _ _ e; exact absurd (Heap.lt_size e') (Nat.not_lt.mpr hb)
  have fresh0 : ∀ b, s.heap.get? b = none → X.h0.get? b = none := fun b hb => by
    cases e : X.h0.get? b with
    | none => rfl
    | some o' => rw [G.base _ _ e] at hb; cases hb
  have hCf := fresh H2.objs.size (by rw [hC]; exact Nat.le_succ _)
  have hDf := fresh s₂.heap.objs.size (Nat.le_refl _)
  obtain ⟨G₄, x₄⟩ := G₂.keeps (h' := h₁) (t := s₂.toks + ([] : List (Str × Value)).length) old
  have x₁₄ := x₁₂.trans x₄
  have V₄ := V₂.ext G₂ x₄
  have locNe : ∀ b, s₂.heap.objs.size ≤ b → ∀ i, i < st₂.next → loc₁ i ≠ b := fun b hb i hi q => by
    obtain ⟨o, e, _⟩ := (G₂.rel i hi).live
    rw [q] at e
    exact absurd (Heap.lt_size e) (Nat.not_lt.mpr hb)
  have Vc := compEnv_snd (cl := cl) (C := H2.objs.size) hok G₄ V₄ h1 h2 hns₁ (fresh0 _ hCf) (locNe _ (by rw [hC]; exact Nat.le_succ _))
  have wlt : ∀ b ∈ wr, b < s₂.heap.objs.size := fun b hb => by obtain ⟨_, o, _, e, _⟩ := hwr b hb; exact Heap.lt_size e
  have apL : (compEnvC sc cl H2.objs.size env).locals ∉ wr := fun hb => by
    have q : H2.objs.size < s₂.heap.objs.size := wlt _ hb
    rw [hC] at q
    exact Nat.lt_irrefl _ (Nat.lt_of_succ_lt q)
  have apC : ∀ y c, (compEnvC sc cl H2.objs.size env).cells.lookup y = some c → c ∉ wr := fun y c hc hb => by
    have hc' := (h1 y c hc).1
    obtain ⟨d, hd, o, v, ho, _⟩ := V.cell y (V.celled y c hc')
    rw [hc'] at hd; cases hd
    rw [(hwr _ hb).1] at ho; cases ho
  have K : Walk X (compEnvC sc cl H2.objs.size env) src A target I fp wr items num P Md St s loc st s₂ loc₁ st₂ := ⟨itr, fun b hb => fresh0 _ (hwr b hb).1, fun b hb => (hwr b hb).1, apL, apC, hfp⟩
  have N₄ : WalkAt X (compEnvC sc cl H2.objs.size env) (compEnvA sc ae) src (src.watch st₂) St (fun b => b = (compEnvC sc cl H2.objs.size env).locals) s loc st s₂ loc₁ st₂ 0 { s₂ with heap := h₁, toks := s₂.toks + ([] : List (Str × Value)).length } loc₁ st₂ :=
    ⟨G₄, Vc, x₁₄.mono fun _ q => q.elim, fun b o e _ => old b o e, fun _ _ => rfl, Nat.le_refl _, fun _ => itr.turns.frame _ _ _ st0 fun b _ o e => old b o e⟩
  have loop : codeAny (model PW X.w) A (.compLoop (.ListComp elt [⟨target, iter, ifs, 0⟩] sc pos) 0 (.ref I) (.ref s₂.heap.objs.size) (compEnvC sc cl H2.objs.size env)) (RR (.ref s₂.heap.objs.size) H2.objs.size) { s₂ with heap := h₁, toks := s₂.toks + ([] : List (Str × Value)).length } := by
    refine compLoop_snd Z S Rm K e4 hz (fun y q => ?_) (fresh0 _ hDf) hDf hDC.symm (fun y c hc q => ?_) (fun q => Nat.lt_irrefl _ (wlt _ q)) (fun id hid hlt q => locNe _ (Nat.le_refl _) id hlt q) N₄ ⟨⟨_, hacc⟩, .nil, fun i hi => locNe _ (Nat.le_refl _) i hi⟩ fun vs s' loc' ae₂ G' x' V' acc => ?_
    · exact o2 _ (mem_of_lookup q) rfl
    · subst q
      have hc' := (h1 y _ hc).1
      obtain ⟨d, hd, o, v, ho, _⟩ := V.cell y (V.celled y _ hc')
      rw [hc'] at hd; cases hd
      rw [hDf] at ho; cases ho
    · obtain ⟨G'', rv, lo, xx⟩ := adopt G' acc (fresh0 _ hDf)
      have x'' := xx _ _ _ _ x' hDf
      refine hRR _ _ s' _ G'' ?_ rv (let ⟨m, hm, _⟩ := V'.ns; ⟨m, hm⟩) hCf (fun i hi q => ?_) (fresh0 _ hCf)
      · refine ⟨x''.le, x''.at_, x''.fresh, fun b o e hn _ => x''.keep b o e hn fun q => ?_, x''.live, x''.imm, x''.verLe, x''.ver, x''.gens, x''.os⟩
        subst q
        rw [show (compEnvC sc cl H2.objs.size env).locals = H2.objs.size from rfl, hCf] at e; cases e
      · rcases lo i hi with q' | ⟨q1, q2⟩
        · exact hDC (q'.symm.trans q)
        · exact V'.apart i q1 (q2.symm.trans q)
  exact codeAny_compStart_list loop (itr.self 0 _ _ _ (itr.turns.frame _ _ _ st0 fun b _ o e => old b o e) loop)

end
end
/-! AS19 -/
section
set_option autoImplicit false
set_option maxRecDepth 100000
open PySem PySem.W PyProof.Rows PySem.Calls

section
variable {X : Cx} {r : Rec} {n : Nat} {A : Around} {E : Value → Shared → Prop} {s : Shared} {loc : Nat → Addr} {st st' : ASt} {env : Env} {ae ae' : AEnv}

theorem notSet_folded {e : Expr} (h : notSet e = true) : ∀ x, foldedSetIterable e env x = pure x := by
  intro x
  cases e <;> first | rfl | cases h

theorem compA_guard {elt : Expr} {g : Comprehension} {sc : Scope} {y : AVal × ASt} (h : compA r ae elt g sc st = some y) : notSet g.iter = true ∧ g.is_async = 0 ∧ compOk sc ae.sc = true := by
  unfold compA at h
  rcases M_ite h with ⟨_, h⟩ | ⟨hc, h⟩
  · cases h
  · simp only [Bool.not_eq_true, Bool.not_eq_false', Bool.and_eq_true, beq_iff_eq] at hc
    exact ⟨hc.1.1, hc.1.2, hc.2⟩

/-- the table of a comprehension is let go -/
theorem let_go {C : Addr} {m : Str → Option Value} {h' : Heap} (G : OK X s loc st) (hn : s.heap.Ns C m) (h0 : X.h0.get? C = none) (hl : ∀ i, i < st.next → loc i ≠ C) (hs : Heap.SameBut C s.heap h') :
    OK X { s with heap := h' } loc st ∧ (∀ {env : Env} {ae : AEnv}, EnvOK X env ae s.heap loc st.next → (C ≠ env.locals ∧ ∀ x c, env.cells.lookup x = some c → c ≠ C) → EnvOK X env ae h' loc st.next) ∧ (∀ b o, s.heap.get? b = some o → Imm o = true → h'.get? b = some o) ∧
    ∀ (W : Addr → Prop) (s₀ : Shared) (loc₀ : Nat → Addr) (st₀ : ASt), Ext W s₀ loc₀ st₀ s loc st → s₀.heap.get? C = none → Ext W s₀ loc₀ st₀ { s with heap := h' } loc st := by
  obtain ⟨o, es, ep, ho, hd, _⟩ := hn
  obtain ⟨a, b, c, d⟩ := off_step (wr := [C]) (h' := h') (t := s.toks) G (fun b hb i hi => by rw [List.mem_singleton] at hb; subst hb; exact hl i hi)
    (fun b hb o' e => by rw [List.mem_singleton] at hb; subst hb; rw [ho] at e; cases e; exact Imm.notDict hd) (fun b hb => by rw [List.mem_singleton] at hb; subst hb; exact h0) (fun b o hb e => hs.extBut b o (by simpa using hb) e)
  exact ⟨a, fun V q => c V fun b hb => by rw [List.mem_singleton] at hb; subst hb; exact q, b, fun W s₀ loc₀ st₀ x e => d W s₀ loc₀ st₀ x fun b hb => by rw [List.mem_singleton] at hb; subst hb; exact e⟩

theorem comp_snd (Z : StaticOK X) (S : Snd X r n) (Rm : Room A n) (G : OK X s loc st) (V : EnvOK X env ae s.heap loc st.next) {elt : Expr} {g : Comprehension} {sc : Scope} {pos : Pos} {a : AVal} {Q : Value → Shared → Prop} (h : compA r ae elt g sc st = some (a, st'))
    (T : Then X s loc st a st' Q) : wpAny (model PW X.w) A (eval (.ListComp elt [g] sc pos) env) Q E s := by
  obtain ⟨target, iter, ifs, k⟩ := g
  obtain ⟨h1, h2, h3⟩ := compA_guard h
  dsimp only at h1 h2
  subst h2
  obtain ⟨o1, o2, o3, o4⟩ := compOk_of h3
  have free : ∀ x, (x, NameKind.free) ∈ sc.names → ∃ c, env.cells.lookup x = some c := fun x hx => let ⟨c, hc, _⟩ := V.cell x (V.cellAt (o4 x hx).1); ⟨c, hc⟩
  obtain ⟨cl, hcl, c1, c2⟩ := closure_of sc env free
  rw [eval_ListComp]
  refine wpAny_comprehension_free (use := none) (g := ⟨target, iter, ifs, 0⟩) (gs := []) rfl (notSet_folded h1) hcl o1 o3 ?_
  refine comp_block (RR := fun acc C => compPost (model PW X.w) A E none Q acc C) Z S Rm G V h c1 c2 fun D C s' loc' G' x' rv hm hC hl h0 => ?_
  obtain ⟨m, hm⟩ := hm
  refine ⟨m, hm, fun h' hs => ?_⟩
  obtain ⟨a, b, c, d⟩ := let_go G' hm h0 hl hs
  exact T _ _ loc' a (d _ _ _ _ x' hC) (rv.mono c (fun _ _ => rfl) (Nat.le_refl _))

theorem use_snd (Z : StaticOK X) (S : Snd X r n) (Rm : Room A n) (G : OK X s loc st) (V : EnvOK X env ae s.heap loc st.next) {elt : Expr} {g : Comprehension} {sc : Scope} {pos : Pos} {a : AVal} {u : Value → Sem Unit} {Q : Unit → Shared → Prop} (h : compA r ae elt g sc st = some (a, st'))
    (hu : ∀ D C s' loc', OK X s' loc' st' → Ext NoW s loc st s' loc' st' → VRel X s'.heap loc' st'.next (.ref D) a → (∃ m, s'.heap.Ns C m) → s.heap.get? C = none → (∀ i, i < st'.next → loc' i ≠ C) → X.h0.get? C = none →
      wpAny (model PW X.w) A (u (.ref D)) (fun _ s'' => ∃ m, s''.heap.Ns C m ∧ ∀ h', Heap.SameBut C s''.heap h' → Q () { s'' with heap := h' }) E s') : wpAny (model PW X.w) A (evalThenUse (.ListComp elt [g] sc pos) env u) Q E s := by
  obtain ⟨target, iter, ifs, k⟩ := g
  obtain ⟨h1, h2, h3⟩ := compA_guard h
  dsimp only at h1 h2
  subst h2
  obtain ⟨o1, o2, o3, o4⟩ := compOk_of h3
  have free : ∀ x, (x, NameKind.free) ∈ sc.names → ∃ c, env.cells.lookup x = some c := fun x hx => let ⟨c, hc, _⟩ := V.cell x (V.cellAt (o4 x hx).1); ⟨c, hc⟩
  obtain ⟨cl, hcl, c1, c2⟩ := closure_of sc env free
  show wpAny _ A (do let _ ← comprehension (.ListComp elt [⟨target, iter, ifs, 0⟩] sc pos) sc env _ (newList []) false (eval iter env) (some u)) _ _ s
  refine wpAny_bind (wpAny_mono (wpAny_comprehension_free (use := some u) (Q := fun _ s' => Q () s') (g := ⟨target, iter, ifs, 0⟩) (gs := []) rfl (notSet_folded h1) hcl o1 o3 ?_) (fun _ s' hq => wpAny_pure hq) fun _ _ e => e)
  exact comp_block (RR := fun acc C => compPost (model PW X.w) A E (some u) (fun _ s' => Q () s') acc C) Z S Rm G V h c1 c2 hu

theorem names_all (f : Expr → Option Str) (hf : ∀ t, f t = none ∨ f t = nameOfE t) : ∀ ts : List Expr, (ts.filterMap f).length ≤ ts.length ∧ ((ts.filterMap f).length = ts.length → ts.all isNameE = true ∧ ts.filterMap f = ts.filterMap nameOfE)
  | [] => ⟨Nat.le_refl _, fun _ => ⟨rfl, rfl⟩⟩
  | t :: ts => by
    obtain ⟨h1, h2⟩ := names_all f hf ts
    cases q : f t with
    | none =>
      rw [List.filterMap_cons_none q]
      exact ⟨Nat.le_succ_of_le h1, fun e => by simp only [List.length_cons] at e; omega⟩
    | some x =>
      rw [List.filterMap_cons_some q]
      have q' : nameOfE t = some x := by
        rcases hf t with e | e
        · rw [q] at e; cases e
        · rw [← e, q]
      rw [List.filterMap_cons_some q']
      refine ⟨by simp only [List.length_cons]; omega, fun e => ?_⟩
      simp only [List.length_cons] at e
      obtain ⟨a, b⟩ := h2 (by omega)
      refine ⟨?_, by rw [b]⟩
      rw [List.all_cons, a]
      cases t <;> first | rfl | cases q'

/-- exchanged stores of a display of names, or none -/
theorem swappedStores_cases {t e : Expr} (h : pairOk t e = true) (hl : ∀ ts p, t ≠ .List ts p) : swappedStores [t] e env = pure none ∨ ∃ ts k p, t = .Tuple ts k p ∧ ts.all isNameE = true ∧ noDup (ts.filterMap nameOfE) = true ∧ swappedStores [t] e env = pure (some (ts.filterMap nameOfE)) := by
  by_cases ht : ∃ ts k p vs k' p', t = .Tuple ts k p ∧ e = .Tuple vs k' p'
  · obtain ⟨ts, k, p, vs, k', p', rfl, rfl⟩ := ht
    unfold swappedStores
    dsimp only
    split
    · exact .inl rfl
    split
    · exact .inl rfl
    split
    · exact .inl rfl
    rename_i c1 c2 c3
    have hf : ∀ u : Expr, (fun u : Expr => match u with
      | .Name id pos => if (env.kindOf id == some .local && pos.line == ((ts.head?.map (·.pos.line)).getD 0)) = true then some id else none
      | _ => none) u = none ∨ (fun u : Expr => match u with
      | .Name id pos => if (env.kindOf id == some .local && pos.line == ((ts.head?.map (·.pos.line)).getD 0)) = true then some id else none
      | _ => none) u = nameOfE u := by
      intro u
      cases u <;> try (exact .inl rfl)
      dsimp only
      split
      · exact .inr rfl
      · exact .inl rfl
    obtain ⟨n1, n2⟩ := names_all _ hf ts
    generalize List.filterMap _ ts = N at c3 n1 n2 ⊢
    simp only [Bool.or_eq_true, bne_iff_ne, ne_eq, not_or, Decidable.not_not] at c3
    obtain ⟨a1, rfl⟩ := n2 c3.1
    simp only [Bool.or_eq_true, bne_iff_ne, ne_eq, not_or, Decidable.not_not, Bool.not_eq_true, Bool.not_eq_false', beq_iff_eq] at c1
    split
    · exact .inl rfl
    · have hp : ((ts.all fun t => (nameOfE t).isNone) || (noDup (ts.filterMap nameOfE) && !vs.all (constantsAlone 8))) = true := h
      rw [Bool.or_eq_true, Bool.and_eq_true] at hp
      rcases hp with hp | ⟨hp, hq⟩
      · exfalso
        cases ts with
        | nil => simp at c1
        | cons t ts =>
          rw [List.all_cons, Bool.and_eq_true] at hp a1
          cases t <;> first | (cases a1.1; done) | cases hp.1
      · rw [if_neg (by simpa using hq)]
        exact .inr ⟨ts, k, p, rfl, a1, hp, rfl⟩
  · left
    unfold swappedStores
    cases t <;> first | rfl | (cases e <;> first | rfl | exact absurd ⟨_, _, _, _, _, _, rfl, rfl⟩ ht | exact absurd rfl (hl _ _))

theorem noDup_nodup : ∀ {l : List Str}, noDup l = true → l.Nodup
  | [], _ => List.nodup_nil
  | x :: l, h => by
    unfold noDup at h
    rw [Bool.and_eq_true] at h
    rw [List.nodup_cons]
    exact ⟨by simpa using h.1, noDup_nodup h.2⟩

theorem VRels.reverse' {h : Heap} {N : Nat} {ws : List Value} {vs : List AVal} (rw : VRels X h loc N ws vs) : VRels X h loc N ws.reverse vs.reverse := VRels.reverse rw

theorem assign_plain {t : Expr} {v : AVal} {y : AEnv × ASt} (h : assignT r t ae v st = some y) : (∀ e p, t ≠ .Starred e p) ∧ ∀ ts p, t ≠ .List ts p := by
  constructor
  · intro e p q; subst q; cases h
  · intro ts p q; subst q; cases h

theorem assignS_snd (Z : StaticOK X) (S : Snd X r n) (Rm : Room A n) (G : OK X s loc st) (V : EnvOK X env ae s.heap loc st.next) {t e : Expr} {pos : Pos} {a : AVal} {st₁ : ASt} {Q : Flow → Shared → Prop} (hp : pairOk t e = true) (hsd : notSD e = true) (h1 : r.ev e ae st = some (a, st₁)) (h2 : assignT r t ae a st₁ = some (ae', st'))
    (T : ThenF X env .next ae' s loc st st' Q) : wpAny (model PW X.w) A (exec (.Assign [t] e pos) env) Q E s := by
  obtain ⟨p1, p2⟩ := assign_plain h2
  have plain : swapsWithSole [t] e pos.line env = pure false → wpAny (model PW X.w) A (exec (.Assign [t] e pos) env) Q E s := by
    intro hs
    rcases swappedStores_cases (env := env) hp p2 with hw | ⟨ts, k, p, rfl, n1, n2, hw⟩
    · refine wpAny_Assign_stores (S.ev h1 Rm G V fun v s₁ loc₁ G₁ x₁ r₁ => ?_) hs hw
      rw [assignEach_plain p1]
      refine assignT_snd Z S (WOK.wr _) h2 Rm G₁ (V.ext G x₁) r₁ fun s₂ loc₂ G₂ x₂ V₂ => ?_
      exact T .next s₂ loc₂ G₂ ((x₁.mono fun _ q => q.elim).trans x₂) V₂ .next
    · refine Assign_Tuple_swapped (S.ev h1 Rm G V fun v s₁ loc₁ G₁ x₁ r₁ => ?_) hs hw
      cases r₁ with
      | @tup ad ob vs m l he htc htd hr =>
        have h2 : bindTs r ts ae l st₁ = some (ae', st') := h2
        obtain ⟨rfl, hset, hlen⟩ := bindTs_names n1 h2
        obtain ⟨b1, _⟩ := bindTs_len (env := env) h2
        obtain ⟨ae₂, hrev, hsc, hlk⟩ := setAll_reverse (noDup_nodup n2) hset
        have e : (ts.filterMap nameOfE).length = vs.toArray.size := by rw [hlen, b1, List.size_toArray, hr.length]
        rw [e]
        refine unpackItems_tuple Rm.handled ⟨_, he, htc, m, htd⟩ fun h' hx => ?_
        have P := G₁.keeps (h' := h') (t := s₁.toks) (fun b o e => hx b o (Nat.ne_of_lt (Heap.lt_size e)) e)
        have x₁' := x₁.trans P.2
        refine setAll_snd (W := Wr env) (ae := ae) (WOK.wr _) hrev P.1 (V.ext G x₁') ?_ fun s₂ loc₂ G₂ x₂ V₂ => ?_
        · rw [List.toList_toArray]; exact (hr.ext P.2).reverse
        · exact T .next s₂ loc₂ G₂ ((x₁'.mono fun _ q => q.elim).trans x₂) (V₂.like hsc.symm fun y => (hlk y).symm) .next
      | _ => cases h2
  by_cases hl : ∃ elt gens sc q x p, e = .ListComp elt gens sc q ∧ t = .Name x p
  · obtain ⟨elt, gens, sc, q, x, p, rfl, rfl⟩ := hl
    have hs : ∃ b, swapsWith (.ListComp elt gens sc q) (some (.Name x p)) pos.line env = pure b := ⟨_, rfl⟩
    obtain ⟨b, hs⟩ := hs
    cases b with
    | false => exact plain hs
    | true =>
      rw [exec_Assign_Name_used _ _ _ _ hs]
      refine wpAny_bind (wpAny_standAt (wpAny_bind (S.use h1 Rm G V (Q := fun _ s' => wpAny (model PW X.w) A (pure Flow.next) Q E s') fun D C s₁ loc₁ G₁ x₁ r₁ hm hC hl h0 => ?_)))
      obtain ⟨m, hm⟩ := hm
      have V₁ := V.ext G x₁
      have hCl : C ≠ env.locals := fun q => by
        obtain ⟨m, ⟨o, es, ep, ho, _⟩, _⟩ := V.ns
        rw [q, ho] at hC; cases hC
      have hCc : ∀ x c, env.cells.lookup x = some c → c ≠ C := fun x c hc q => by
        obtain ⟨d, hd, o, v, ho, _⟩ := V.cell x (V.celled x c hc)
        rw [hc] at hd; cases hd
        rw [q, hC] at ho; cases ho
      obtain ⟨h3, rfl⟩ := M_opt (show (opt (ae.set x a) : M AEnv) st₁ = _ from h2)
      refine wpAny_assign_Name (storeName_snd (WOK.wr _) h3 G₁ V₁ r₁ fun s₂ G₂ x₂ V₂ => ?_)
      obtain ⟨o, es, ep, ho, hr⟩ := hm
      have hm₂ : s₂.heap.Ns C m := ⟨o, es, ep, x₂.keep C o ho (fun i hi => hl i hi) (fun q => by
        rcases q with q | ⟨y, q⟩
        · exact hCl q
        · exact hCc y C q rfl), hr⟩
      refine ⟨m, hm₂, fun h' hsb => ?_⟩
      obtain ⟨a1, a2, a3, a4⟩ := let_go G₂ hm₂ h0 hl hsb
      refine wpAny_pure (T .next _ loc₁ a1 (a4 _ _ _ _ ((x₁.mono fun _ q => q.elim).trans x₂) hC) (a2 V₂ ⟨hCl, hCc⟩) .next)
  · refine plain ?_
    show swapsWith e (some t) pos.line env = pure false
    cases e <;> first | rfl | (cases hsd; done) | (cases t <;> first | rfl | exact absurd ⟨_, _, _, _, _, _, rfl, rfl⟩ hl)

end
end
/-! AS20 -/
section
set_option autoImplicit false
set_option maxRecDepth 100000
open PySem PySem.W PyProof.Rows PySem.Calls

section
variable {X : Cx} {r : Rec} {n : Nat} {A : Around} {E : Value → Shared → Prop} {s : Shared} {loc : Nat → Addr} {st st' : ASt} {env : Env} {ae ae' : AEnv}

theorem while_snd {n' : Nat} (S : Snd X r n) (Rm : Room A n) {t : Expr} {b : List Stmt} {R : Result → Shared → Prop} {o : Out} (h : whN (fun x => do
      let (tv, st₁) ← r.ev t x.1 x.2
      let (c, st₂) ← truth tv st₁
      if c then do
        let ((o, env'), st₃) ← exs r b x.1 st₂
        match o with
        | .next => pure (.inl (env', st₃))
        | o => pure (.inr ((o, env'), st₃))
      else pure (.inr ((.next, x.1), st₂)) : AEnv × ASt → Option (Sum (AEnv × ASt) ((Out × AEnv) × ASt))) n' (ae, st) = some ((o, ae'), st')) (G : OK X s loc st) (V : EnvOK X env ae s.heap loc st.next)
    (hR : ∀ fl s' loc', OK X s' loc' st' → Ext (Wr env) s loc st s' loc' st' → EnvOK X env ae' s'.heap loc' st'.next → FlowRel X s'.heap loc' st'.next fl o → R (.ok fl) s') : codeAny (model PW X.w) A (.whileLoop t b [] env) R s := by
  refine codeAny_whileLoop (fun k s' => ∃ ae₁ loc₁ st₁, whN (fun x => do
      let (tv, st₁) ← r.ev t x.1 x.2
      let (c, st₂) ← truth tv st₁
      if c then do
        let ((o, env'), st₃) ← exs r b x.1 st₂
        match o with
        | .next => pure (.inl (env', st₃))
        | o => pure (.inr ((o, env'), st₃))
      else pure (.inr ((.next, x.1), st₂)) : AEnv × ASt → Option (Sum (AEnv × ASt) ((Out × AEnv) × ASt))) k (ae₁, st₁) = some ((o, ae'), st') ∧ OK X s' loc₁ st₁ ∧ EnvOK X env ae₁ s'.heap loc₁ st₁.next ∧ Ext (Wr env) s loc st s' loc₁ st₁) ?_ n' ⟨ae, loc, st, h, G, V, .refl ..⟩
  rintro k s' ⟨ae₁, loc₁, st₁, h₁, G₁, V₁, x₁⟩
  cases k with
  | zero => cases h₁
  | succ k =>
    unfold whN at h₁
    cases e1 : r.ev t ae₁ st₁ with
    | none => simp [e1] at h₁
    | some p =>
      obtain ⟨tv, st₂⟩ := p
      cases e2 : truth tv st₂ with
      | none => simp [e1, e2] at h₁
      | some p =>
        obtain ⟨c, st₃⟩ := p
        refine S.tr e1 e2 Rm G₁ V₁ fun s₃ loc₃ G₃ x₃ => ?_
        have V₃ := V₁.ext G₁ x₃
        have x₁₃ := x₁.trans (x₃.mono (W' := Wr env) fun _ q => q.elim)
        cases c with
        | false =>
          simp [e1, e2] at h₁
          obtain ⟨⟨rfl, rfl⟩, rfl⟩ := h₁
          rw [if_neg (by decide)]
          exact wpAny_execs_nil (hR .next s₃ loc₃ G₃ x₁₃ V₃ .next)
        | true =>
          rw [if_pos rfl]
          cases e3 : exs r b ae₁ st₃ with
          | none => simp [e1, e2, e3] at h₁
          | some p =>
            obtain ⟨⟨o₄, ae₄⟩, st₄⟩ := p
            refine exs_snd S e3 Rm G₃ V₃ fun fl s₄ loc₄ G₄ x₄ V₄ f₄ => ?_
            have x₁₄ := x₁₃.trans x₄
            cases f₄ with
            | next =>
              simp [e1, e2, e3] at h₁
              exact ⟨k, Nat.lt_succ_self _, ae₄, loc₄, st₄, h₁, G₄, V₄, x₁₄⟩
            | ret rv =>
              simp [e1, e2, e3] at h₁
              obtain ⟨⟨rfl, rfl⟩, rfl⟩ := h₁
              exact hR _ s₄ loc₄ G₄ x₁₄ V₄ (.ret rv)

theorem for_snd (Z : StaticOK X) (S : Snd X r n) (Rm : Room A n) (G : OK X s loc st) (V : EnvOK X env ae s.heap loc st.next) {t e : Expr} {b : List Stmt} {pos : Pos} {o : Out} {src : Src} {items : List AVal} {st₁ st₂ : ASt} {Q : Flow → Shared → Prop} (hns : notSet e = true)
    (e1 : srcOf r ae e st = some (src, st₁)) (e2 : srcItems src st₁ = some (items, st₂)) (ht : tgtOk src t = true) (h : forLoop r src (src.watch st₂) t b items ae st₂ = some ((o, ae'), st')) (T : ThenF X env o ae' s loc st st' Q) : wpAny (model PW X.w) A (exec (.For t e b [] pos) env) Q E s := by
  refine wpAny_For ?_ (notSet_folded hns)
  refine srcOf_snd Z S e1 Rm G V fun x s₁ loc₁ G₁ x₁ sv => ?_
  refine pyIter_snd Z Rm G₁ sv e2 ht x₁.live fun I fp wr num P Md St s₂ est G₂ x₂ itr st0 hwr hfp hlive => ?_
  subst est
  have x₁₂ := x₁.trans x₂
  have V₂ := V.ext G x₁₂
  have apL : env.locals ∉ wr := fun hb => by
    obtain ⟨m, ⟨o, es, ep, ho, _⟩, _⟩ := V.ns
    rw [(hwr _ hb).1] at ho; cases ho
  have apC : ∀ y c, env.cells.lookup y = some c → c ∉ wr := fun y c hc hb => by
    obtain ⟨d, hd, o, v, ho, _⟩ := V.cell y (V.celled y c hc)
    rw [hc] at hd; cases hd
    rw [(hwr _ hb).1] at ho; cases ho
  have fresh0 : ∀ b, s.heap.get? b = none → X.h0.get? b = none := fun b hb => by
    cases e : X.h0.get? b with
    | none => rfl
    | some o' => rw [G.base _ _ e] at hb; cases hb
  have K : Walk X env src A t I fp wr items num P Md St s loc st s₂ loc₁ st₂ := ⟨itr, fun b hb => fresh0 _ (hwr b hb).1, fun b hb => (hwr b hb).1, apL, apC, hfp⟩
  have N₂ : WalkAt X env ae src (src.watch st₂) St (Wr env) s loc st s₂ loc₁ st₂ 0 s₂ loc₁ st₂ := ⟨G₂, V₂, x₁₂.mono fun _ q => q.elim, fun b o e _ => e, fun _ _ => rfl, Nat.le_refl _, fun _ => st0⟩
  exact forLoop_snd Z S Rm K h N₂ fun fl s' loc' G' x' V' f' => T fl s' loc' G' x' V' f'

theorem exF_snd (Z : StaticOK X) (S : Snd X r n) (Rm : Room A n) {t : Stmt} {o : Out} {Q : Flow → Shared → Prop} (h : exF r t ae st = some ((o, ae'), st')) (G : OK X s loc st) (V : EnvOK X env ae s.heap loc st.next)
    (T : ThenF X env o ae' s loc st st' Q) : wpAny (model PW X.w) A (exec t env) Q E s := by
  unfold exF at h
  split at h
  · rename_i e pos
    rcases M_ite h with ⟨_, h⟩ | ⟨hc, h⟩
    · cases h
    · obtain ⟨v, st₁, h1, h2⟩ := M_bind (m := r.ev e ae) h
      obtain ⟨q, rfl⟩ := M_pure h2
      cases q
      refine wpAny_Expr_any (S.ev h1 Rm G V fun v s₁ loc₁ G₁ x₁ r₁ => T .next s₁ loc₁ G₁ (x₁.mono fun _ q => q.elim) (V.ext G x₁) .next) ?_ ?_
      · unfold interactive; rw [V.kind]; rfl
      · cases e <;> first | rfl | exact absurd rfl hc
  · obtain ⟨q, rfl⟩ := M_pure h
    cases q
    exact wpAny_Pass (T .next s loc G (.refl ..) V .next)
  · rename_i e pos
    obtain ⟨v, st₁, h1, h2⟩ := M_bind (m := r.ev e ae) h
    obtain ⟨q, rfl⟩ := M_pure h2
    cases q
    exact wpAny_Return_some (S.ev h1 Rm G V fun v s₁ loc₁ G₁ x₁ r₁ => T _ s₁ loc₁ G₁ (x₁.mono fun _ q => q.elim) (V.ext G x₁) (.ret r₁))
  · obtain ⟨q, rfl⟩ := M_pure h
    cases q
    exact wpAny_Return_none (T _ s loc G (.refl ..) V (.ret .none))
  · rename_i t e pos
    rcases M_ite h with ⟨_, h⟩ | ⟨hc, h⟩
    · cases h
    · simp only [Bool.not_eq_true, Bool.not_eq_false', Bool.and_eq_true] at hc
      obtain ⟨v, st₁, h1, h2⟩ := M_bind (m := r.ev e ae) h
      obtain ⟨ae₁, st₂, h3, h4⟩ := M_bind (m := assignT r t ae v) h2
      obtain ⟨q, rfl⟩ := M_pure h4
      cases q
      exact assignS_snd Z S Rm G V hc.1 hc.2 h1 h3 T
  · rename_i o' a tpos op e pos
    obtain ⟨ov, st₁, h1, h⟩ := M_bind (m := r.ev o' ae) h
    obtain ⟨old, st₂, h2, h⟩ := M_bind (m := attrGet ov a) h
    obtain ⟨v, st₃, h3, h⟩ := M_bind (m := r.ev e ae) h
    obtain ⟨new, st₄, h4, h⟩ := M_bind (m := aug op old v) h
    obtain ⟨u, st₅, h5, h⟩ := M_bind (m := attrSet ov a new) h
    obtain ⟨q, rfl⟩ := M_pure h
    cases q
    refine wpAny_AugAssign_AttributeAny (S.ev h1 Rm G V fun vo s₁ loc₁ G₁ x₁ r₁ => ?_)
    refine attrGet_snd Z h2 G₁ r₁ fun vold s₂ loc₂ G₂ x₂ r₂ => ?_
    have x₁₂ := x₁.trans x₂
    refine S.ev h3 Rm G₂ (V.ext G x₁₂) fun vv s₃ loc₃ G₃ x₃ r₃ => ?_
    refine aug_snd h4 G₃ (r₂.ext x₃) r₃ fun vn s₄ loc₄ G₄ x₄ r₄ => ?_
    refine attrSet_snd Z h5 G₄ (((r₁.ext x₂).ext x₃).ext x₄) r₄ fun s₅ loc₅ G₅ x₅ => ?_
    have x := ((x₁₂.trans x₃).trans x₄).trans x₅
    exact T .next s₅ loc₅ G₅ (x.mono fun _ q => q.elim) (V.ext G x) .next
  · rename_i o' i tpos op e pos
    rcases M_ite h with ⟨_, h⟩ | ⟨hc, h⟩
    · cases h
    obtain ⟨ov, st₁, h1, h⟩ := M_bind (m := r.ev o' ae) h
    obtain ⟨iv, st₁', h1', h⟩ := M_bind (m := r.ev i ae) h
    obtain ⟨old, st₂, h2, h⟩ := M_bind (m := itemGet ov iv) h
    obtain ⟨v, st₃, h3, h⟩ := M_bind (m := r.ev e ae) h
    obtain ⟨new, st₄, h4, h⟩ := M_bind (m := aug op old v) h
    obtain ⟨u, st₅, h5, h⟩ := M_bind (m := itemSet ov iv new) h
    obtain ⟨q, rfl⟩ := M_pure h
    cases q
    refine wpAny_AugAssign_SubscriptAny (S.ev h1 Rm G V fun vo s₁ loc₁ G₁ x₁ r₁ => ?_) (by
      intro a b c
      cases i <;> first | rfl | exact absurd rfl hc)
    refine S.ev h1' Rm G₁ (V.ext G x₁) fun vi s₁' loc₁' G₁' x₁' r₁' => ?_
    refine itemGet_snd h2 G₁' (r₁.ext x₁') r₁' fun vold s₂ loc₂ G₂ x₂ r₂ => ?_
    have x₁₂ := (x₁.trans x₁').trans x₂
    refine S.ev h3 Rm G₂ (V.ext G x₁₂) fun vv s₃ loc₃ G₃ x₃ r₃ => ?_
    refine aug_snd h4 G₃ (r₂.ext x₃) r₃ fun vn s₄ loc₄ G₄ x₄ r₄ => ?_
    refine itemSet_snd h5 G₄ ((((r₁.ext x₁').ext x₂).ext x₃).ext x₄) (((r₁'.ext x₂).ext x₃).ext x₄) r₄ fun s₅ loc₅ G₅ x₅ => ?_
    have x := ((x₁₂.trans x₃).trans x₄).trans x₅
    exact T .next s₅ loc₅ G₅ (x.mono fun _ q => q.elim) (V.ext G x) .next
  · rename_i o' i tpos pos
    obtain ⟨ov, st₁, h1, h⟩ := M_bind (m := r.ev o' ae) h
    obtain ⟨iv, st₁', h1', h⟩ := M_bind (m := r.ev i ae) h
    obtain ⟨u, st₂, h2, h⟩ := M_bind (m := itemDel ov iv) h
    obtain ⟨q, rfl⟩ := M_pure h
    cases q
    refine wpAny_Delete (wpAny_deleteEach_cons (delete_Subscript (S.ev h1 Rm G V fun vo s₁ loc₁ G₁ x₁ r₁ => ?_)))
    refine S.ev h1' Rm G₁ (V.ext G x₁) fun vi s₁' loc₁' G₁' x₁' r₁' => ?_
    refine itemDel_snd h2 G₁' (r₁.ext x₁') r₁' fun s₂ loc₂ G₂ x₂ => wpAny_deleteEach_nil ?_
    have x := (x₁.trans x₁').trans x₂
    exact T .next s₂ loc₂ G₂ (x.mono fun _ q => q.elim) (V.ext G x) .next
  · rename_i t b o' pos
    obtain ⟨v, st₁, h1, h⟩ := M_bind (m := r.ev t ae) h
    obtain ⟨c, st₂, h2, h⟩ := M_bind (m := truth v) h
    refine wpAny_If (S.tr h1 h2 Rm G V fun s₂ loc₂ G₂ x₂ => ?_)
    rcases M_ite h with ⟨rfl, h⟩ | ⟨hf, h⟩
    · rw [if_pos rfl]; exact exs_snd S h Rm G₂ (V.ext G x₂) (T.after x₂ fun _ q => q.elim)
    · rw [if_neg hf]; exact exs_snd S h Rm G₂ (V.ext G x₂) (T.after x₂ fun _ q => q.elim)
  · rename_i t b pos
    obtain ⟨k, hk⟩ := S.wh h
    exact wpAny_While (while_snd S Rm hk G V fun fl s' loc' G' x' V' f' => T fl s' loc' G' x' V' f')
  · rename_i t e b pos
    rcases M_ite h with ⟨_, h⟩ | ⟨hc, h⟩
    · cases h
    obtain ⟨src, st₁, e1, h⟩ := M_bind (m := srcOf r ae e) h
    obtain ⟨items, st₂, e2, h⟩ := M_bind (m := srcItems src) h
    obtain ⟨ver, st₃, e3, h⟩ := M_bind (m := (fun st => some (src.watch st, st) : M Nat)) h
    cases e3
    rcases M_ite h with ⟨hg, h⟩ | ⟨_, h⟩
    · exact for_snd Z S Rm G V (by simpa using hc) e1 e2 hg h T
    · cases h
  · cases h

end
end
/-! AS21 -/
section
set_option autoImplicit false
set_option maxRecDepth 100000
open PySem PySem.W PyProof.Rows PySem.Calls

section
variable {X : Cx} {r : Rec} {n : Nat} {A : Around} {E : Value → Shared → Prop} {s : Shared} {loc : Nat → Addr} {st st' : ASt} {env : Env} {ae ae' : AEnv}

theorem typed_snd {vo vi : Value} {o i a : AVal} (h : itemGet o i st = some (a, st')) (G : OK X s loc st) (ro : VRel X s.heap loc st.next vo o) : ∃ T id, s.TypeIs vo T ∧ typeLookup (.type T) "__getitem__" = pure (some (.builtin id)) := by
  cases ro with
  | @tup ad ob vs m l he htc htd hr => exact ⟨"tuple", _, ⟨ob, he, htc⟩, PySem.F.slot_tuple_getitem.lookup⟩
  | @obj id hid =>
    have R := G.rel _ hid
    cases hd : (st.get id).data with
    | list l => rw [hd] at R; obtain ⟨vs, m, hh, _⟩ := R; exact ⟨"list", _, ⟨_, hh, rfl⟩, PySem.F.slot_list_getitem.lookup⟩
    | idict l => rw [hd] at R; obtain ⟨kvs, ⟨hk, _⟩, _⟩ := R; exact ⟨"dict", _, hk.typeIs, PySem.F.slot_dict_getitem.lookup⟩
    | sdict l => rw [hd] at R; obtain ⟨_, es, m, hh, _⟩ := R; exact ⟨"dict", _, ⟨_, hh, rfl⟩, PySem.F.slot_dict_getitem.lookup⟩
  | _ => cases h

theorem sub_snd (S : Snd X r n) (Rm : Room A n) (G : OK X s loc st) (V : EnvOK X env ae s.heap loc st.next) {o i : Expr} {pos : Pos} {ov iv a : AVal} {st₁ st₂ : ASt} {Q : Value → Shared → Prop} (hs : notSlice i = true) (h1 : r.ev o ae st = some (ov, st₁)) (h2 : r.ev i ae st₁ = some (iv, st₂))
    (h3 : itemGet ov iv st₂ = some (a, st')) (T : Then X s loc st a st' Q) : wpAny (model PW X.w) A (eval (.Subscript o i pos) env) Q E s := by
  refine Subscript_ (S.ev h1 Rm G V fun vo s₁ loc₁ G₁ x₁ r₁ => S.ev h2 Rm G₁ (V.ext G x₁) fun vi s₂ loc₂ G₂ x₂ r₂ => ?_)
  obtain ⟨T', id, t1, t2⟩ := typed_snd (vi := vi) h3 G₂ (r₁.ext x₂)
  refine tail_any (ops := [vo, vi]) t1 t2 (itemGet_snd h3 G₂ (r₁.ext x₂) r₂ (T.after (x₁.trans x₂))) ?_
  cases i <;> first | rfl | cases hs

theorem slice_upto_snd (S : Snd X r n) (Rm : Room A n) (G : OK X s loc st) (V : EnvOK X env ae s.heap loc st.next) {o u : Expr} {sp pos : Pos} {id : Nat} {k : Int} {l : List AVal} {st₁ st₂ : ASt} {Q : Value → Shared → Prop} (h1 : r.ev o ae st = some (.obj id, st₁)) (h2 : r.ev u ae st₁ = some (.int k, st₂))
    (hid : id < st₂.next) (hd : (st₂.get id).data = .list l) (hk : 0 ≤ k ∧ k ≤ 1000 ∧ l.length ≤ 1000000) (T : Then X s loc st (.obj st₂.next) (st₂.new (.list (l.take k.toNat))) Q) : wpAny (model PW X.w) A (eval (.Subscript o (.Slice none (some u) none sp) pos) env) Q E s := by
  refine Subscript_ (S.ev h1 Rm G V fun vo s₁ loc₁ G₁ x₁ r₁ => wpAny_Slice (wpAny_pure (S.ev h2 Rm G₁ (V.ext G x₁) fun vu s₂ loc₂ G₂ x₂ r₂ => wpAny_pure ?_)))
  have r₁' := r₁.ext x₂
  cases r₁' with
  | obj hi =>
    cases r₂ with
    | int _ t =>
      obtain ⟨vs, m, hh, hr⟩ := G₂.listAt hid hd
      have hold : ∀ b o, s₂.heap.get? b = some o → (s₂.heap.push { cls := .type "slice", data := .fields #[.none, .int k t, .none] }).get? b = some o := fun b o e => Heap.get?_push_of_some _ e
      have P := G₂.keeps (t := s₂.toks) hold
      refine tail_any (s := { s₂ with heap := s₂.heap.push { cls := .type "slice", data := .fields #[.none, .int k t, .none] } }) (ops := [.ref s₂.heap.objs.size, .ref (loc₂ id)]) (T := "list") ⟨_, hold _ _ hh, rfl⟩ PySem.F.slot_list_getitem.lookup ?_ rfl
      refine wpAny_getItem_list_slice (isList_of (hold _ _ hh)) (Heap.IsSliceOf.new _ _ _ _) .none (.int k t) .none (by intro q; cases q) ?_ (by rw [List.size_toArray, hr.length]; exact Nat.le_trans hk.2.2 million)
      have e : slicePick vs.toArray none (some k) none = (vs.take k.toNat).toArray := by
        have := slicePick_upto' vs.toArray k.toNat
        rw [Int.toNat_of_nonneg hk.1] at this
        simpa using this
      rw [e]
      exact newList_snd P.1 ((hr.ext P.2).take k.toNat) (T.after ((x₁.trans x₂).trans P.2))

theorem slice_rev_snd (S : Snd X r n) (Rm : Room A n) (G : OK X s loc st) (V : EnvOK X env ae s.heap loc st.next) {o u : Expr} {sp pos : Pos} {id : Nat} {k : Int} {l : List AVal} {st₁ st₂ : ASt} {Q : Value → Shared → Prop} (h1 : r.ev o ae st = some (.obj id, st₁)) (h2 : r.ev u ae st₁ = some (.int k, st₂))
    (hid : id < st₂.next) (hd : (st₂.get id).data = .list l) (hk : k = -1 ∧ l.length ≤ 1000000) (T : Then X s loc st (.obj st₂.next) (st₂.new (.list l.reverse)) Q) : wpAny (model PW X.w) A (eval (.Subscript o (.Slice none none (some u) sp) pos) env) Q E s := by
  refine Subscript_ (S.ev h1 Rm G V fun vo s₁ loc₁ G₁ x₁ r₁ => wpAny_Slice (wpAny_pure (wpAny_pure (S.ev h2 Rm G₁ (V.ext G x₁) fun vu s₂ loc₂ G₂ x₂ r₂ => ?_))))
  have r₁' := r₁.ext x₂
  cases r₁' with
  | obj hi =>
    cases r₂ with
    | int _ t =>
      obtain ⟨vs, m, hh, hr⟩ := G₂.listAt hid hd
      have hold : ∀ b o, s₂.heap.get? b = some o → (s₂.heap.push { cls := .type "slice", data := .fields #[.none, .none, .int k t] }).get? b = some o := fun b o e => Heap.get?_push_of_some _ e
      have P := G₂.keeps (t := s₂.toks) hold
      refine tail_any (s := { s₂ with heap := s₂.heap.push { cls := .type "slice", data := .fields #[.none, .none, .int k t] } }) (ops := [.ref (loc₂ id), .ref s₂.heap.objs.size]) (T := "list") ⟨_, hold _ _ hh, rfl⟩ PySem.F.slot_list_getitem.lookup ?_ rfl
      refine wpAny_getItem_list_slice (isList_of (hold _ _ hh)) (Heap.IsSliceOf.new _ _ _ _) .none .none (.int k t) (by rw [hk.1]; decide) ?_ (by rw [List.size_toArray, hr.length]; exact Nat.le_trans hk.2 million)
      have e : slicePick vs.toArray none none (some k) = vs.reverse.toArray := by
        rw [hk.1, krv_pick]
      rw [e]
      exact newList_snd P.1 ((hr.ext P.2).reverse) (T.after ((x₁.trans x₂).trans P.2))

/-- an object taken into the picture -/
theorem adoptO {D : Addr} {d : AData} (G : OK X s loc st) (h3 : ∀ i, i < st.next → loc i ≠ D) (hD : X.h0.get? D = none) (hr : ORel X s.heap loc st.next D d) : OK X s (locN loc st.next D) (st.new d) ∧ VRel X s.heap (locN loc st.next D) (st.new d).next (.ref D) (.obj st.next) ∧
    ∀ (W : Addr → Prop) (sB : Shared) (locB : Nat → Addr) (stB : ASt), Ext W sB locB stB s loc st → sB.heap.get? D = none → Ext W sB locB stB s (locN loc st.next D) (st.new d) := by
  have old : ∀ i, i < st.next → locN loc st.next D i = loc i := fun i hi => by unfold locN; rw [if_neg (Nat.ne_of_lt hi)]
  have new : locN loc st.next D st.next = D := by unfold locN; rw [if_pos rfl]
  have og : ∀ i, i < st.next → (st.new d).get i = st.get i := fun i hi => by show (if i = st.next then _ else _) = _; rw [if_neg (Nat.ne_of_lt hi)]
  have ng : (st.new d).get st.next = ⟨0, d⟩ := by show (if st.next = st.next then _ else _) = _; rw [if_pos rfl]
  have nx : (st.new d).next = st.next + 1 := rfl
  refine ⟨⟨G.base, fun i hi => ?_, fun i j hi hj e => ?_, fun i hi => ?_⟩, ?_, fun W sB locB stB x hB => ⟨by rw [nx]; exact Nat.le_succ_of_le x.le, fun i hi => (old i (Nat.lt_of_lt_of_le hi x.le)).trans (x.at_ i hi), fun i h1 h2 => ?_, x.keep, x.live, x.imm,
    fun i hi => by rw [og i (Nat.lt_of_lt_of_le hi x.le)]; exact x.verLe i hi, fun i hi => by rw [og i (Nat.lt_of_lt_of_le hi x.le)]; exact x.ver i hi, x.gens, x.os⟩⟩
  · rcases Nat.lt_or_ge i st.next with h | h
    · rw [old i h]; exact G.new i h
    · obtain rfl : i = st.next := by rw [nx] at hi; omega
      rw [new]; exact hD
  · rcases Nat.lt_or_ge i st.next with h | h <;> rcases Nat.lt_or_ge j st.next with h' | h'
    · rw [old i h, old j h'] at e; exact G.inj i j h h' e
    · obtain rfl : j = st.next := by rw [nx] at hj; omega
      rw [old i h, new] at e; exact absurd e (h3 i h)
    · obtain rfl : i = st.next := by rw [nx] at hi; omega
      rw [old j h', new] at e; exact absurd e.symm (h3 j h')
    · rw [nx] at hi hj; omega
  · rcases Nat.lt_or_ge i st.next with h | h
    · rw [old i h, og i h]; exact (G.rel i h).mono (fun o e => e) (fun a o e _ => e) old (by rw [nx]; omega)
    · obtain rfl : i = st.next := by rw [nx] at hi; omega
      rw [new, ng]; exact hr.mono (fun o e => e) (fun a o e _ => e) old (by rw [nx]; omega)
  · have := VRel.obj (X := X) (h := s.heap) (loc := locN loc st.next D) (N := (st.new d).next) (id := st.next) (by rw [nx]; omega)
    rwa [new] at this
  · rcases Nat.lt_or_ge i st.next with h | h
    · rw [old i h]; exact x.fresh i h1 h
    · obtain rfl : i = st.next := by rw [nx] at h2; omega
      rw [new]; exact hB

/-- rows of a display -/
inductive PRels (X : Cx) (h : Heap) (loc : Nat → Addr) (N : Nat) : List (Value × Value) → List (AVal × AVal) → Prop
  | nil : PRels X h loc N [] []
  | cons {k v : Value} {a b : AVal} {rows : List (Value × Value)} {l : List (AVal × AVal)} : VRel X h loc N k a → VRel X h loc N v b → PRels X h loc N rows l → PRels X h loc N ((k, v) :: rows) ((a, b) :: l)

theorem dictA_shape : ∀ {ks : List (Option Expr)} {vs : List Expr} {st st' : ASt} {kvs : List (AVal × AVal)}, dictA r ae ks vs st = some (kvs, st') → ks.all (·.isSome) = true ∧ ks.length = vs.length ∧ kvs.length = ks.length
  | [], [], st, st', kvs, h => by
    obtain ⟨rfl, rfl⟩ := M_pure (show (pure [] : M (List (AVal × AVal))) st = _ from h)
    exact ⟨rfl, rfl, rfl⟩
  | [], _ :: _, _, _, _, h => by cases h
  | none :: _, [], _, _, _, h => by cases h
  | none :: _, _ :: _, _, _, _, h => by cases h
  | some _ :: _, [], _, _, _, h => by cases h
  | some k :: ks, v :: vs, st, st', kvs, h => by
    obtain ⟨ka, st₁, h1, h⟩ := M_bind (m := r.ev k ae) h
    obtain ⟨va, st₂, h2, h⟩ := M_bind (m := r.ev v ae) h
    obtain ⟨rest, st₃, h3, h⟩ := M_bind (m := dictA r ae ks vs) h
    obtain ⟨rfl, rfl⟩ := M_pure h
    obtain ⟨a, b, c⟩ := dictA_shape h3
    exact ⟨by rw [List.all_cons, a]; rfl, by simp [b], by simp [c]⟩

theorem dictA_snd (S : Snd X r n) (Rm : Room A n) {pos : Pos} : ∀ {ks : List (Option Expr)} {vs : List Expr} {st st' : ASt} {kvs : List (AVal × AVal)} {s : Shared} {loc : Nat → Addr} {Q : List (Value × Value) → Shared → Prop} (_ : dictA r ae ks vs st = some (kvs, st')) (_ : OK X s loc st) (_ : EnvOK X env ae s.heap loc st.next)
    (_ : ∀ rows s' loc', OK X s' loc' st' → Ext NoW s loc st s' loc' st' → PRels X s'.heap loc' st'.next rows kvs → Q rows s'), wpAny (model PW X.w) A (evalPairs (pairTrees ks vs env pos)) Q E s
  | [], [], st, st', kvs, s, loc, Q, h, G, V, hQ => by
    obtain ⟨rfl, rfl⟩ := M_pure (show (pure [] : M (List (AVal × AVal))) st = _ from h)
    exact evalPairs_nil (hQ [] s loc G (.refl ..) .nil)
  | [], _ :: _, _, _, _, _, _, _, h, _, _, _ => by cases h
  | none :: _, [], _, _, _, _, _, _, h, _, _, _ => by cases h
  | none :: _, _ :: _, _, _, _, _, _, _, h, _, _, _ => by cases h
  | some _ :: _, [], _, _, _, _, _, _, h, _, _, _ => by cases h
  | some k :: ks, v :: vs, st, st', kvs, s, loc, Q, h, G, V, hQ => by
    obtain ⟨ka, st₁, h1, h⟩ := M_bind (m := r.ev k ae) h
    obtain ⟨va, st₂, h2, h⟩ := M_bind (m := r.ev v ae) h
    obtain ⟨rest, st₃, h3, h⟩ := M_bind (m := dictA r ae ks vs) h
    obtain ⟨rfl, rfl⟩ := M_pure h
    refine evalPairs_cons (S.ev h1 Rm G V fun vk s₁ loc₁ G₁ x₁ r₁ => wpAny_bind (S.ev h2 Rm G₁ (V.ext G x₁) fun vv s₂ loc₂ G₂ x₂ r₂ => wpAny_bind (wpAny_standAt (wpAny_pure ?_))))
    have x₁₂ := x₁.trans x₂
    exact dictA_snd S Rm h3 G₂ (V.ext G x₁₂) fun rows s' loc' G' x' r' => hQ _ s' loc' G' (x₁₂.trans x') (.cons ((r₁.ext x₂).ext x') (r₂.ext x') r')

theorem PRels.ints {h : Heap} {N : Nat} : ∀ {rows : List (Value × Value)} {kvs : List (AVal × AVal)} {l : List (Int × AVal)}, PRels X h loc N rows kvs → asInts kvs = some l → ∃ ps : List (Int × Value), Carries (intKind PW X.w) rows ps ∧ IRels X h loc N ps l
  | _, _, l, .nil, e => by cases e; exact ⟨[], trivial, .nil⟩
  | _, _, l, .cons (a := a) (b := b) rk rv rr, e => by
    cases rk with
    | int k t =>
      obtain ⟨l', e1, e2⟩ := Option.map_eq_some_iff.mp e
      obtain ⟨ps, h1, h2⟩ := PRels.ints rr e1
      subst e2
      exact ⟨(k, _) :: ps, ⟨intKind_is PW X.w k t, rfl, h1⟩, .cons rv h2⟩
    | _ => cases e
theorem PRels.strs {h : Heap} {N : Nat} : ∀ {rows : List (Value × Value)} {kvs : List (AVal × AVal)} {l : List (Str × AVal)}, PRels X h loc N rows kvs → asStrs kvs = some l → ∃ ps : List (Str × Value), Carries (strKind PW X.w) rows ps ∧ IRels X h loc N ps l
  | _, _, l, .nil, e => by cases e; exact ⟨[], trivial, .nil⟩
  | _, _, l, .cons (a := a) (b := b) rk rv rr, e => by
    cases rk with
    | str k t =>
      obtain ⟨l', e1, e2⟩ := Option.map_eq_some_iff.mp e
      obtain ⟨ps, h1, h2⟩ := PRels.strs rr e1
      subst e2
      exact ⟨(k, _) :: ps, ⟨strKind_is PW X.w k t, rfl, h1⟩, .cons rv h2⟩
    | _ => cases e

theorem merged_nodup {κ : Type} [DecidableEq κ] : ∀ (more acc : List (κ × Value)), ((acc ++ more).map (·.1)).Nodup → merged acc more = acc ++ more
  | [], acc, _ => by simp [merged]
  | (k, v) :: more, acc, h => by
    have hk : stored acc k v = acc ++ [(k, v)] := by
      unfold stored
      have : acc.any (fun kv => decide (kv.1 = k)) = false := by
        rw [Bool.eq_false_iff]
        intro q
        rw [List.any_eq_true] at q
        obtain ⟨p, hp, hpk⟩ := q
        have hpk : p.1 = k := by simpa using hpk
        rw [List.map_append, List.nodup_append] at h
        exact h.2.2 p.1 (List.mem_map_of_mem hp) k (by simp) hpk
      rw [this]; rfl
    show merged (stored acc k v) more = _
    rw [hk, merged_nodup more (acc ++ [(k, v)]) (by simpa using h)]
    simp

theorem idict_snd (Z : StaticOK X) (S : Snd X r n) (Rm : Room A n) (G : OK X s loc st) (V : EnvOK X env ae s.heap loc st.next) {ks : List (Option Expr)} {vs : List Expr} {pos : Pos} {kvs : List (AVal × AVal)} {d : AData} {st₁ : ASt} {Q : Value → Shared → Prop} {κ : Type} [DecidableEq κ] (knd : KeyKind PW X.w κ) (l : List (κ × AVal)) (h : dictA r ae ks vs st = some (kvs, st₁))
    (h0 : ks ≠ []) (hz : ks.length ≤ 15) (hn : (l.map (·.1)).Nodup) (hc : ∀ rows h' loc' N, PRels X h' loc' N rows kvs → ∃ ps : List (κ × Value), Carries knd rows ps ∧ IRels X h' loc' N ps l)
    (hO : ∀ h' loc' N D ps, D ≠ sysModules → h'.DictOf knd D ps → IRels X h' loc' N ps l → ORel X h' loc' N D d) (T : Then X s loc st (.obj st₁.next) (st₁.new d) Q) : wpAny (model PW X.w) A (eval (.Dict ks vs pos) env) Q E s := by
  obtain ⟨a1, a2, a3⟩ := dictA_shape h
  have hold : ∀ b o, s.heap.get? b = some o → (s.heap.push { cls := .type "dict", data := .dict #[] }).get? b = some o := fun b o e => Heap.get?_push_of_some _ e
  obtain ⟨G₀, x₀⟩ := G.keeps (t := s.toks) hold
  have hDf := size_none s.heap
  have hD0 : X.h0.get? s.heap.objs.size = none := G.fresh
  have off : ∀ i, i < st.next → loc i ≠ s.heap.objs.size := fun i hi q => by
    obtain ⟨o, e, _⟩ := (G.rel i hi).live
    rw [q, hDf] at e; cases e
  refine wpAny_Dict_walk (knd := knd) a1 a2 h0 hz (dictA_snd S Rm h G₀ (V.ext G x₀) fun rows s₁ loc₁ G₁ x₁ pr => ?_)
  obtain ⟨ps, c1, c2⟩ := hc _ _ _ _ pr
  obtain ⟨o, es, ep, ho, hr⟩ := Heap.DictOf.new (knd := knd) s.heap
  have ho₁ := x₁.keep _ _ ho off id
  have off₁ : ∀ i, i < st₁.next → loc₁ i ≠ s.heap.objs.size := fun i hi q => by
    rcases Nat.lt_or_ge i st.next with hh | hh
    · exact off i hh ((x₁.at_ i hh).symm.trans q)
    · have := x₁.fresh i hh hi
      rw [q, ho] at this; cases this
  refine ⟨ps, c1, ⟨o, es, ep, ho₁, hr⟩, fun h' hd' hsb => ?_⟩
  rw [merged_nodup ps [] (by rw [List.nil_append, c2.keys]; exact hn), List.nil_append] at hd'
  obtain ⟨G₂, imm, _, xx⟩ := off_step (wr := [s.heap.objs.size]) (h' := h') (t := s₁.toks + rows.length) G₁ (fun b hb i hi => by rw [List.mem_singleton] at hb; subst hb; exact off₁ i hi)
    (fun b hb o' e => by rw [List.mem_singleton] at hb; subst hb; rw [ho₁] at e; cases e; exact Imm.notDict hr.2.1) (fun b hb => by rw [List.mem_singleton] at hb; subst hb; exact hD0) (fun b o hb e => hsb.extBut b o (by simpa using hb) e)
  obtain ⟨G₃, rv, x₃⟩ := adoptO (d := d) G₂ off₁ hD0 (hO _ _ _ _ _ (G.size_ne Z) hd' (c2.mono imm (fun _ _ => rfl) (Nat.le_refl _)))
  refine T _ _ _ G₃ (x₃ NoW s loc st (xx NoW s loc st (x₀.trans x₁) fun b hb => by rw [List.mem_singleton] at hb; subst hb; exact hDf) hDf) rv

theorem asInts_len : ∀ {kvs : List (AVal × AVal)} {l : List (Int × AVal)}, asInts kvs = some l → l.length = kvs.length
  | [], l, e => by cases e; rfl
  | (a, b) :: kvs, l, e => by
    cases a <;> try (cases e; done)
    obtain ⟨l', e1, e2⟩ := Option.map_eq_some_iff.mp e
    subst e2
    simp [asInts_len e1]
theorem asStrs_len : ∀ {kvs : List (AVal × AVal)} {l : List (Str × AVal)}, asStrs kvs = some l → l.length = kvs.length
  | [], l, e => by cases e; rfl
  | (a, b) :: kvs, l, e => by
    cases a <;> try (cases e; done)
    obtain ⟨l', e1, e2⟩ := Option.map_eq_some_iff.mp e
    subst e2
    simp [asStrs_len e1]

theorem dict_snd (Z : StaticOK X) (S : Snd X r n) (Rm : Room A n) (G : OK X s loc st) (V : EnvOK X env ae s.heap loc st.next) {ks : List (Option Expr)} {vs : List Expr} {pos : Pos} {a : AVal} {Q : Value → Shared → Prop} (h : evF r (.Dict ks vs pos) ae st = some (a, st')) (T : Then X s loc st a st' Q) :
    wpAny (model PW X.w) A (eval (.Dict ks vs pos) env) Q E s := by
  obtain ⟨kvs, st₁, h1, h⟩ := M_bind (m := dictA r ae ks vs) (show (do
    let kvs ← dictA r ae ks vs
    match asInts kvs with
    | some l => if noDup (l.map fun p => Str.ofString (toString p.1)) && decide (l.length ≤ 15) then do let id ← newD (.idict l); pure (.obj id) else fail
    | none => match asStrs kvs with
      | some l => if noDup (l.map (·.1)) && decide (l.length ≤ 15) then do let id ← newD (.sdict l); pure (.obj id) else fail
      | none => fail : M AVal) st = _ from h)
  obtain ⟨a1, a2, a3⟩ := dictA_shape h1
  cases e1 : asInts kvs with
  | some l =>
    rw [e1] at h
    rcases M_ite h with ⟨hc, h⟩ | ⟨_, h⟩
    · rw [Bool.and_eq_true, decide_eq_true_eq] at hc
      obtain ⟨id, st₂, h2, h⟩ := M_bind (m := newD _) h
      obtain ⟨rfl, rfl⟩ := M_newD h2
      obtain ⟨rfl, rfl⟩ := M_pure h
      have hz : ks.length ≤ 15 := by rw [← a3, ← asInts_len e1]; exact hc.2
      have hn : (l.map (·.1)).Nodup := by
        have := noDup_nodup hc.1
        have e : (l.map fun p => Str.ofString (toString p.1)) = (l.map (·.1)).map fun k => Str.ofString (toString k) := by rw [List.map_map]; rfl
        rw [e] at this
        exact (List.pairwise_map.mp this).imp (fun hne he => hne (by rw [he]))
      by_cases h0 : ks = []
      · subst h0
        cases vs with
        | cons => cases a2
        | nil =>
          obtain ⟨rfl, rfl⟩ := M_pure (show (pure [] : M (List (AVal × AVal))) st = _ from h1)
          cases e1
          refine wpAny_Dict_empty ?_
          have hold : ∀ b o, s.heap.get? b = some o → (s.heap.push { cls := .type "dict", data := .dict #[] }).get? b = some o := fun b o e => Heap.get?_push_of_some _ e
          have P := G.new' (t := s.toks) (h' := s.heap.push { cls := .type "dict", data := .dict #[] }) (d := .idict []) (size_none s.heap) hold ⟨[], ⟨Heap.DictOf.new s.heap, G.size_ne Z⟩, .nil⟩
          have rv : VRel X (s.heap.push { cls := .type "dict", data := .dict #[] }) (locN loc st₁.next s.heap.objs.size) (st₁.next + 1) (.ref (locN loc st₁.next s.heap.objs.size st₁.next)) (.obj st₁.next) := .obj (Nat.lt_succ_self _)
          have e2 : locN loc st₁.next s.heap.objs.size st₁.next = s.heap.objs.size := by unfold locN; rw [if_pos rfl]
          rw [e2] at rv
          exact T _ _ _ P.1 P.2 rv
      · exact idict_snd (d := .idict l) Z S Rm G V (intKind PW X.w) l h1 h0 hz hn (fun rows h' loc' N pr => PRels.ints pr e1) (fun h' loc' N D ps hn hd hr => ⟨ps, ⟨hd, hn⟩, hr⟩) T
    · cases h
  | none =>
    rw [e1] at h
    cases e2 : asStrs kvs with
    | none => rw [e2] at h; cases h
    | some l =>
      rw [e2] at h
      rcases M_ite h with ⟨hc, h⟩ | ⟨_, h⟩
      · rw [Bool.and_eq_true, decide_eq_true_eq] at hc
        obtain ⟨id, st₂, h2, h⟩ := M_bind (m := newD _) h
        obtain ⟨rfl, rfl⟩ := M_newD h2
        obtain ⟨rfl, rfl⟩ := M_pure h
        have hz : ks.length ≤ 15 := by rw [← a3, ← asStrs_len e2]; exact hc.2
        have hn : (l.map (·.1)).Nodup := noDup_nodup hc.1
        by_cases h0 : ks = []
        · subst h0
          cases vs with
          | cons => cases a2
          | nil =>
            obtain ⟨rfl, rfl⟩ := M_pure (show (pure [] : M (List (AVal × AVal))) st = _ from h1)
            cases e1
        · exact idict_snd (d := .sdict l) Z S Rm G V (strKind PW X.w) l h1 h0 hz hn (fun rows h' loc' N pr => PRels.strs pr e2) (fun h' loc' N D ps _ hd hr => DictOf.sRels hd hr) T
      · cases h

end
end
/-! AS22 -/
section
set_option autoImplicit false
set_option maxRecDepth 100000
open PySem PySem.W PyProof.Rows PySem.Calls

section
variable {X : Cx} {r : Rec} {n : Nat} {A : Around} {E : Value → Shared → Prop} {s : Shared} {loc : Nat → Addr} {st st' : ASt} {env : Env} {ae ae' : AEnv}

theorem truth_same {a : AVal} {c : Bool} (h : truth a st = some (c, st')) : st' = st := by
  unfold truth at h
  split at h <;> try (cases h; done)
  all_goals first
    | (obtain ⟨_, rfl⟩ := M_pure h; rfl)
    | (obtain ⟨d, st₁, h1, h2⟩ := M_bind (m := getD _) h
       obtain ⟨rfl, _, _⟩ := M_getD h1
       cases d <;> first | (cases h2; done) | (obtain ⟨_, rfl⟩ := M_pure h2; rfl) | (rcases M_ite h2 with ⟨_, h2⟩ | ⟨_, h2⟩ <;> first | (cases h2; done) | (obtain ⟨_, rfl⟩ := M_pure h2; rfl)))

theorem bool_snd (S : Snd X r n) (Rm : Room A n) {op : BoolOp} {pos : Pos} : ∀ {es : List Expr} {st st' : ASt} {a : AVal} {s : Shared} {loc : Nat → Addr} {Q : Value → Shared → Prop} (_ : boolA r ae op es st = some (a, st')) (_ : OK X s loc st) (_ : EnvOK X env ae s.heap loc st.next)
    (_ : Then X s loc st a st' Q), wpAny (model PW X.w) A (boolOp pos op (evalEach es env)) Q E s
  | [], _, _, _, _, _, _, h, _, _, _ => by cases h
  | [e], st, st', a, s, loc, Q, h, G, V, T => S.ev h Rm G V T
  | e :: e' :: es, st, st', a, s, loc, Q, h, G, V, T => by
    obtain ⟨v, st₁, h1, h2⟩ := M_bind (m := r.ev e ae) h
    obtain ⟨t, st₂, h3, h4⟩ := M_bind (m := truth v) h2
    have hs := truth_same h3
    subst hs
    show wpAny _ A (do let v ← eval e env; standAt pos; let t ← holding [v] (truthy v); match op, t with | .And, false | .Or, true => pure v | _, _ => boolOp pos op (evalEach (e' :: es) env)) Q E s
    refine wpAny_bind (S.ev h1 Rm G V fun vv s₁ loc₁ G₁ x₁ r₁ => wpAny_bind (wpAny_standAt (wpAny_bind (wpAny_holding (truth_snd h3 Rm G₁ r₁ fun s₂ loc₂ G₂ x₂ => ?_)))))
    have x₁₂ := x₁.trans x₂
    cases op <;> cases t
    · obtain ⟨rfl, rfl⟩ := M_pure h4
      exact wpAny_pure (T _ s₂ loc₂ G₂ x₁₂ (r₁.ext x₂))
    · exact bool_snd S Rm h4 G₂ (V.ext G x₁₂) (T.after x₁₂)
    · exact bool_snd S Rm h4 G₂ (V.ext G x₁₂) (T.after x₁₂)
    · obtain ⟨rfl, rfl⟩ := M_pure h4
      exact wpAny_pure (T _ s₂ loc₂ G₂ x₁₂ (r₁.ext x₂))

theorem allTrue_snd (S : Snd X r n) (Rm : Room A n) {op : BoolOp} : ∀ {es : List Expr} {st st' st'' : ASt} {a : AVal} {c : Bool} {s : Shared} {loc : Nat → Addr} {Q : Bool → Shared → Prop} (_ : boolA r ae op es st = some (a, st')) (_ : truth a st' = some (c, st'')) (_ : OK X s loc st) (_ : EnvOK X env ae s.heap loc st.next)
    (_ : ThenB X s loc st c st'' Q), wpAny (model PW X.w) A (allTrue op es env) Q E s
  | [], _, _, _, _, _, _, _, _, h, _, _, _, _ => by cases h
  | [e], st, st', st'', a, c, s, loc, Q, h, h', G, V, T => by
    have hs := truth_same h'
    subst hs
    show wpAny _ A (do match op, ← isTrue e env (eval e env) with | .And, false => pure false | .Or, true => pure true | _, _ => allTrue op [] env) Q E s
    refine wpAny_bind (S.tr h h' Rm G V fun s₁ loc₁ G₁ x₁ => ?_)
    cases op <;> cases c <;> exact wpAny_pure (T s₁ loc₁ G₁ x₁)
  | e :: e' :: es, st, st', st'', a, c, s, loc, Q, h, h', G, V, T => by
    obtain ⟨v, st₁, h1, h2⟩ := M_bind (m := r.ev e ae) h
    obtain ⟨t, st₂, h3, h4⟩ := M_bind (m := truth v) h2
    show wpAny _ A (do match op, ← isTrue e env (eval e env) with | .And, false => pure false | .Or, true => pure true | _, _ => allTrue op (e' :: es) env) Q E s
    refine wpAny_bind (S.tr h1 h3 Rm G V fun s₂ loc₂ G₂ x₁₂ => ?_)
    have hs := truth_same h3
    subst hs
    cases op <;> cases t
    · obtain ⟨rfl, rfl⟩ := M_pure h4
      have hs := truth_same h'
      subst hs
      rw [h3] at h'; cases h'
      exact wpAny_pure (T s₂ loc₂ G₂ x₁₂)
    · exact allTrue_snd S Rm h4 h' G₂ (V.ext G x₁₂) (T.after x₁₂)
    · exact allTrue_snd S Rm h4 h' G₂ (V.ext G x₁₂) (T.after x₁₂)
    · obtain ⟨rfl, rfl⟩ := M_pure h4
      have hs := truth_same h'
      subst hs
      rw [h3] at h'; cases h'
      exact wpAny_pure (T s₂ loc₂ G₂ x₁₂)

theorem evs_len : ∀ {es : List Expr} {st st' : ASt} {vs : List AVal}, evs r ae es st = some (vs, st') → vs.length = es.length
  | [], _, _, _, h => by obtain ⟨rfl, _⟩ := M_pure (show (pure [] : M (List AVal)) _ = _ from h); rfl
  | e :: es, st, st', vs, h => by
    obtain ⟨v, st₁, h1, h2⟩ := M_bind (m := r.ev e ae) h
    obtain ⟨us, st₂, h3, h4⟩ := M_bind (m := evs r ae es) h2
    obtain ⟨rfl, _⟩ := M_pure h4
    simp [evs_len h3]

theorem tuple_snd (S : Snd X r n) (Rm : Room A n) (G : OK X s loc st) (V : EnvOK X env ae s.heap loc st.next) {es : List Expr} {k : Nat} {pos : Pos} {vs : List AVal} {Q : Value → Shared → Prop} (hns : es.all notStar = true) (hz : es.length ≤ 1000000) (h : evs r ae es st = some (vs, st')) (T : Then X s loc st (.tup vs) st' Q) :
    wpAny (model PW X.w) A (eval (.Tuple es k pos) env) Q E s := by
  refine wpAny_Tuple (evs_snd S h hns Rm G V fun ws s₁ loc₁ G₁ x₁ r₁ => ⟨by rw [r₁.length, evs_len h]; exact Nat.le_trans hz million, ?_⟩)
  have P := G₁.keeps (h' := s₁.heap.push { cls := .type "tuple", data := .seq ws.toArray }) (t := s₁.toks) (fun b o e => Heap.get?_push_of_some _ e)
  exact T _ _ loc₁ P.1 (x₁.trans P.2) (.tup (Heap.get?_push_size _ rfl) rfl rfl (r₁.ext P.2))

theorem srcItems_same {src : Src} {items : List AVal} (h : srcItems src st = some (items, st')) : st' = st := by
  have one : ∀ {id : Nat} {f : AData → M (List AVal)}, (∀ d st st' l, f d st = some (l, st') → st' = st) → (do let d ← getD id; f d : M (List AVal)) st = some (items, st') → st' = st := by
    intro id f hf h
    obtain ⟨d, st₁, h1, h2⟩ := M_bind (m := getD _) h
    obtain ⟨rfl, _, _⟩ := M_getD h1
    exact hf _ _ _ _ h2
  cases src with
  | range a b =>
    rcases M_ite h with ⟨_, h⟩ | ⟨_, h⟩
    · obtain ⟨_, rfl⟩ := M_pure h; rfl
    · cases h
  | _ =>
    refine one (fun d st st' l h => ?_) h
    cases d <;> first | (cases h; done) | (obtain ⟨_, rfl⟩ := M_pure h; rfl)

/-- which method of a list -/
theorem methL_name {id : Nat} {name : Str} {args : List AVal} {y : AVal × ASt} (h : methL id name args st = some y) : ∃ l, (st.get id).data = .list l ∧ id < st.next ∧
    ((name = ("append" : Str) ∧ ∃ v, args = [v] ∧ mAppend id l v st = some y) ∨ (name = ("extend" : Str) ∧ ∃ v, args = [v] ∧ mExtend id l v st = some y) ∨ (name = ("remove" : Str) ∧ ∃ v, args = [v] ∧ mRemove id l v st = some y) ∨ (name = ("pop" : Str) ∧ args = [] ∧ mPop id l st = some y)) := by
  obtain ⟨d, st₁, h1, h2⟩ := M_bind (m := getD _) (show (do match ← getD id with
  | .list l => match args with
    | [v] => if name == ("append" : Str) then mAppend id l v else if name == ("extend" : Str) then mExtend id l v else if name == ("remove" : Str) then mRemove id l v else fail
    | [] => if name == ("pop" : Str) then mPop id l else fail
    | _ => fail
  | _ => fail : M AVal) st = _ from h)
  obtain ⟨rfl, hid, hd⟩ := M_getD h1
  cases d with
  | list l =>
    refine ⟨l, hd, hid, ?_⟩
    match args, h2 with
    | [], h2 =>
      rcases M_ite h2 with ⟨hn, h2⟩ | ⟨_, h2⟩
      · exact .inr (.inr (.inr ⟨by simpa using hn, rfl, h2⟩))
      · cases h2
    | [v], h2 =>
      rcases M_ite h2 with ⟨hn, h2⟩ | ⟨_, h2⟩
      · exact .inl ⟨by simpa using hn, v, rfl, h2⟩
      rcases M_ite h2 with ⟨hn, h2⟩ | ⟨_, h2⟩
      · exact .inr (.inl ⟨by simpa using hn, v, rfl, h2⟩)
      rcases M_ite h2 with ⟨hn, h2⟩ | ⟨_, h2⟩
      · exact .inr (.inr (.inl ⟨by simpa using hn, v, rfl, h2⟩))
      · cases h2
    | _ :: _ :: _, h2 => cases h2
  | _ => cases h2

theorem methI_name {id : Nat} {name : Str} {args : List AVal} {y : AVal × ASt} (h : methI id name args st = some y) : ∃ l k rest, (st.get id).data = .idict l ∧ id < st.next ∧ args = .int k :: rest ∧
    ((name = ("get" : Str) ∧ mGet l k rest st = some y) ∨ (name = ("pop" : Str) ∧ mPopK id l k rest st = some y)) := by
  obtain ⟨d, st₁, h1, h2⟩ := M_bind (m := getD _) (show (do match ← getD id with
  | .idict l => match args with
    | .int k :: rest => if name == ("get" : Str) then mGet l k rest else if name == ("pop" : Str) then mPopK id l k rest else fail
    | _ => fail
  | _ => fail : M AVal) st = _ from h)
  obtain ⟨rfl, hid, hd⟩ := M_getD h1
  cases d with
  | idict l =>
    match args, h2 with
    | [], h2 => cases h2
    | a :: rest, h2 =>
      cases a <;> try (cases h2; done)
      rename_i k
      refine ⟨l, k, rest, hd, hid, rfl, ?_⟩
      rcases M_ite h2 with ⟨hn, h2⟩ | ⟨_, h2⟩
      · exact .inl ⟨by simpa using hn, h2⟩
      rcases M_ite h2 with ⟨hn, h2⟩ | ⟨_, h2⟩
      · exact .inr ⟨by simpa using hn, h2⟩
      · cases h2
  | _ => cases h2

theorem few_ok {args : List Expr} {pos : Pos} (hns : args.all notStar = true) (hz : args.length < 8) : ((backTo pos (starEach args env)).all (fun x => !x.1) && (backToKw pos (keywordEach [] env)).all (fun x => x.1.isSome) && decide (args.length + ([] : List Keyword).length + (if ([] : List Keyword).isEmpty then 0 else 1) < 30)) = true := by
  have h1 : (backTo pos (starEach args env)).all (fun x => !x.1) = true := by
    clear hz
    induction args with
    | nil => rfl
    | cons e es ih =>
      rw [List.all_cons, Bool.and_eq_true] at hns
      rw [starEach_plain hns.1]
      show (!false && _) = true
      exact ih hns.2
  rw [h1]
  have h2 : decide (args.length + ([] : List Keyword).length + (if ([] : List Keyword).isEmpty then 0 else 1) < 30) = true := by
    simp; omega
  rw [h2]; rfl

theorem meth_snd (Z : StaticOK X) (S : Snd X r n) (Rm : Room A n) (G : OK X s loc st) (V : EnvOK X env ae s.heap loc st.next) {o : Expr} {m : Str} {apos pos : Pos} {args : List Expr} {a : AVal} {id : Nat} {vs : List AVal} {st₁ st₂ : ASt} {Q : Value → Shared → Prop}
    (hs : notSuper o = true) (hns : args.all notStar = true) (hz : args.length < 8) (hl : (apos.endLine == pos.line) = true) (h1 : r.ev o ae st = some (.obj id, st₁)) (h2 : evs r ae args st₁ = some (vs, st₂))
    (h3 : (∃ l, (st₁.get id).data = .list l ∧ methL id m vs st₂ = some (a, st')) ∨ (∃ l, (st₁.get id).data = .idict l ∧ methI id m vs st₂ = some (a, st'))) (T : Then X s loc st a st' Q) : wpAny (model PW X.w) A (eval (.Call (.Attribute o m apos) args [] pos) env) Q E s := by
  refine wpAny_Call_method_late (base_snd hs) (few_ok hns hz) hl rfl (S.ev h1 Rm G V fun vo s₁ loc₁ G₁ x₁ r₁ => ?_)
  cases r₁ with
  | obj hid =>
    have V₁ := V.ext G x₁
    rcases h3 with ⟨l₁, hd₁, h3⟩ | ⟨l₁, hd₁, h3⟩
    · obtain ⟨vs₁, m₁, hh₁, _⟩ := G₁.listAt hid hd₁
      have ty : s₁.TypeIs (.ref (loc₁ id)) "list" := ⟨_, hh₁, rfl⟩
      have nd : ∀ a, Value.ref (loc₁ id) = .ref a → ∃ ob, s₁.heap.get? a = some ob ∧ ob.dict = none := fun a e => by cases e; exact ⟨_, hh₁, rfl⟩
      obtain ⟨l, hd, hid₂, hm⟩ := methL_name h3
      rcases hm with ⟨rfl, v, rfl, hm⟩ | ⟨rfl, v, rfl, hm⟩ | ⟨rfl, v, rfl, hm⟩ | ⟨rfl, rfl, hm⟩
      · refine ⟨"list", _, PySem.F.plainAttrs_list, PySem.F.slot_list_append, PySem.F.type_list_append, ty, nd, callWith_builtin (plainAny hns) (args_snd S h2 hns Rm G₁ V₁ fun ws s₂ loc₂ G₂ x₂ r₂ => ?_)⟩
        cases r₂ with
        | cons rv r₂ =>
          cases r₂
          have := append_snd (E := E) (A := A) hm G₂ hid₂ hd rv (T.after (x₁.trans x₂))
          rw [x₂.at_ id hid] at this
          exact this
      · refine ⟨"list", _, PySem.F.plainAttrs_list, PySem.F.slot_list_extend, PySem.F.type_list_extend, ty, nd, callWith_builtin (plainAny hns) (args_snd S h2 hns Rm G₁ V₁ fun ws s₂ loc₂ G₂ x₂ r₂ => ?_)⟩
        cases r₂ with
        | cons rv r₂ =>
          cases r₂
          have := extend_snd (E := E) (A := A) hm G₂ hid₂ hd rv (T.after (x₁.trans x₂))
          rw [x₂.at_ id hid] at this
          exact this
      · refine ⟨"list", _, PySem.F.plainAttrs_list, PySem.F.slot_list_remove, PySem.F.type_list_remove, ty, nd, callWith_builtin (plainAny hns) (args_snd S h2 hns Rm G₁ V₁ fun ws s₂ loc₂ G₂ x₂ r₂ => ?_)⟩
        cases r₂ with
        | cons rv r₂ =>
          cases r₂
          have := remove_snd (E := E) (A := A) hm G₂ hid₂ hd rv (T.after (x₁.trans x₂))
          rw [x₂.at_ id hid] at this
          exact this
      · refine ⟨"list", _, PySem.F.plainAttrs_list, PySem.F.slot_list_pop, PySem.F.type_list_pop, ty, nd, callWith_builtin (plainAny hns) (args_snd S h2 hns Rm G₁ V₁ fun ws s₂ loc₂ G₂ x₂ r₂ => ?_)⟩
        cases r₂
        have := popL_snd (E := E) (A := A) hm G₂ hid₂ hd (T.after (x₁.trans x₂))
        rw [x₂.at_ id hid] at this
        exact this
    · obtain ⟨kvs₁, hk₁, _⟩ := G₁.idictAt hid hd₁
      have ty : s₁.TypeIs (.ref (loc₁ id)) "dict" := hk₁.typeIs
      have nd : ∀ a, Value.ref (loc₁ id) = .ref a → ∃ ob, s₁.heap.get? a = some ob ∧ ob.dict = none := fun a e => by
        cases e
        obtain ⟨o, _, _, ho, hx, _⟩ := hk₁
        exact ⟨o, ho, hx.2.1⟩
      obtain ⟨l, k, rest, hd, hid₂, rfl, hm⟩ := methI_name h3
      rcases hm with ⟨rfl, hm⟩ | ⟨rfl, hm⟩
      · refine ⟨"dict", _, PySem.F.plainAttrs_dict, PySem.F.slot_dict_get, PySem.F.type_dict_get, ty, nd, callWith_builtin (plainAny hns) (args_snd S h2 hns Rm G₁ V₁ fun ws s₂ loc₂ G₂ x₂ r₂ => ?_)⟩
        cases r₂ with
        | cons rv r₂ =>
          cases rv with
          | int _ t =>
            have := get_snd (E := E) (A := A) (t := t) Z hm G₂ hid₂ hd r₂ (T.after (x₁.trans x₂))
            rw [x₂.at_ id hid] at this
            exact this
      · refine ⟨"dict", _, PySem.F.plainAttrs_dict, PySem.F.slot_dict_pop, PySem.F.type_dict_pop, ty, nd, callWith_builtin (plainAny hns) (args_snd S h2 hns Rm G₁ V₁ fun ws s₂ loc₂ G₂ x₂ r₂ => ?_)⟩
        cases r₂ with
        | cons rv r₂ =>
          cases rv with
          | int _ t =>
            have := popK_snd (E := E) (A := A) (t := t) hm G₂ hid₂ hd r₂ (T.after (x₁.trans x₂))
            rw [x₂.at_ id hid] at this
            exact this

/-- a call of a function or a class of the text -/
theorem user_snd (Z : StaticOK X) (S : Snd X r n) (Rm : Room A n) (G : OK X s loc st) (V : EnvOK X env ae s.heap loc st.next) {f : Str} {p pos : Pos} {args : List Expr} {a : AVal} {vs : List AVal} {st₁ : ASt} {Q : Value → Shared → Prop}
    (hg : isGlob ae f = true) (hns : args.all notStar = true) (h1 : evs r ae args st = some (vs, st₁)) (h2 : r.call f vs st₁ = some (a, st')) (T : Then X s loc st a st' Q) : wpAny (model PW X.w) A (eval (.Call (.Name f p) args [] pos) env) Q E s := by
  obtain ⟨fv, hf, hk⟩ := S.fn h2
  refine wpAny_Call_NameR (globFn Z hg G V hf ?_)
  refine callWith_of (P := fun h => X.K.In h) (by rw [plainAny hns]; rfl) (keeps_K hk) (args_snd S h1 hns Rm G V fun ws s₁ loc₁ G₁ x₁ r₁ => ⟨G₁.kin Z, ?_⟩)
  exact S.call h2 Rm G₁ r₁ hf (T.after x₁)

theorem list_snd (S : Snd X r n) (Rm : Room A n) (G : OK X s loc st) (V : EnvOK X env ae s.heap loc st.next) {es : List Expr} {pos : Pos} {vs : List AVal} {st₁ : ASt} {Q : Value → Shared → Prop} (hns : es.all notStar = true) (hz : es.length ≤ 1000000) (h : evs r ae es st = some (vs, st₁)) (T : Then X s loc st (.obj st₁.next) (st₁.new (.list vs)) Q) :
    wpAny (model PW X.w) A (eval (.List es pos) env) Q E s :=
  wpAny_List (evs_snd S h hns Rm G V fun ws s₁ loc₁ G₁ x₁ r₁ => ⟨by rw [r₁.length, evs_len h]; exact Nat.le_trans hz million, newList_snd G₁ r₁ (T.after x₁)⟩)

theorem one_ev {e : Expr} {v : AVal} {st₁ : ASt} (h1 : r.ev e ae st = some (v, st₁)) : evs r ae [e] st = some ([v], st₁) := by
  show (do let v ← r.ev e ae; let vs ← (pure [] : M (List AVal)); pure (v :: vs) : M (List AVal)) st = _
  show Option.bind (r.ev e ae st) _ = _
  rw [h1]; rfl

theorem attr_snd (Z : StaticOK X) (S : Snd X r n) (Rm : Room A n) (G : OK X s loc st) (V : EnvOK X env ae s.heap loc st.next) {o : Expr} {x : Str} {pos : Pos} {ov a : AVal} {st₁ : ASt} {Q : Value → Shared → Prop} (hs : notSuper o = true) (h1 : r.ev o ae st = some (ov, st₁)) (h2 : attrGet ov x st₁ = some (a, st'))
    (T : Then X s loc st a st' Q) : wpAny (model PW X.w) A (eval (.Attribute o x pos) env) Q E s := by
  refine Attribute_any_ (S.ev h1 Rm G V fun vo s₁ loc₁ G₁ x₁ r₁ => attrGet_snd Z h2 G₁ r₁ (T.after x₁)) ?_
  show (do let o' ← attributeBase o x env (eval o env); standAt pos.atName; let r ← holding [o'] (getAttr o' x true); letTemporaryGo o o' r; pure r) = _
  rw [base_snd hs]

theorem evF_snd (Z : StaticOK X) (S : Snd X r n) (Rm : Room A n) {e : Expr} {a : AVal} {Q : Value → Shared → Prop} (h : evF r e ae st = some (a, st')) (G : OK X s loc st) (V : EnvOK X env ae s.heap loc st.next) (T : Then X s loc st a st' Q) :
    wpAny (model PW X.w) A (eval e env) Q E s := by
  have h₀ := h
  unfold evF at h
  split at h
  · obtain ⟨h1, rfl⟩ := M_opt h
    exact const_snd h1 G T
  · rcases M_ite h with ⟨_, h⟩ | ⟨hb, h⟩
    · cases h
    · obtain ⟨h1, rfl⟩ := M_opt h
      exact name_snd h1 (by simpa using hb) G V T
  · rcases M_ite h with ⟨_, h⟩ | ⟨hb, h⟩
    · cases h
    · simp only [Bool.not_eq_true, Bool.not_eq_false', Bool.and_eq_true, decide_eq_true_eq] at hb
      obtain ⟨vs, st₁, h1, h⟩ := M_bind (m := evs r ae _) h
      obtain ⟨rfl, rfl⟩ := M_pure h
      exact tuple_snd S Rm G V hb.1 hb.2 h1 T
  · rcases M_ite h with ⟨_, h⟩ | ⟨hb, h⟩
    · cases h
    · simp only [Bool.not_eq_true, Bool.not_eq_false', Bool.and_eq_true, decide_eq_true_eq] at hb
      obtain ⟨vs, st₁, h1, h⟩ := M_bind (m := evs r ae _) h
      obtain ⟨id, st₂, h2, h⟩ := M_bind (m := newD _) h
      obtain ⟨rfl, rfl⟩ := M_newD h2
      obtain ⟨rfl, rfl⟩ := M_pure h
      exact list_snd S Rm G V hb.1 hb.2 h1 T
  · exact dict_snd Z S Rm G V h₀ T
  · rcases M_ite h with ⟨_, h⟩ | ⟨hb, h⟩
    · cases h
    · obtain ⟨ov, st₁, h1, h2⟩ := M_bind (m := r.ev _ ae) h
      exact attr_snd Z S Rm G V (by simpa using hb) h1 h2 T
  · obtain ⟨ov, st₁, h1, h⟩ := M_bind (m := r.ev _ ae) h
    obtain ⟨uv, st₂, h2, h⟩ := M_bind (m := r.ev _ ae) h
    cases ov <;> try (cases h; done)
    cases uv <;> try (cases h; done)
    obtain ⟨d, st₃, h3, h⟩ := M_bind (m := getD _) h
    obtain ⟨rfl, hid, hd⟩ := M_getD h3
    cases d <;> try (cases h; done)
    rcases M_ite h with ⟨hb, h⟩ | ⟨_, h⟩
    · obtain ⟨id, st₂, h4, h⟩ := M_bind (m := newD _) h
      obtain ⟨rfl, rfl⟩ := M_newD h4
      obtain ⟨rfl, rfl⟩ := M_pure h
      exact slice_upto_snd S Rm G V h1 h2 hid hd hb T
    · cases h
  · obtain ⟨ov, st₁, h1, h⟩ := M_bind (m := r.ev _ ae) h
    obtain ⟨uv, st₂, h2, h⟩ := M_bind (m := r.ev _ ae) h
    cases ov <;> try (cases h; done)
    cases uv <;> try (cases h; done)
    obtain ⟨d, st₃, h3, h⟩ := M_bind (m := getD _) h
    obtain ⟨rfl, hid, hd⟩ := M_getD h3
    cases d <;> try (cases h; done)
    rcases M_ite h with ⟨hb, h⟩ | ⟨_, h⟩
    · obtain ⟨id, st₂, h4, h⟩ := M_bind (m := newD _) h
      obtain ⟨rfl, rfl⟩ := M_newD h4
      obtain ⟨rfl, rfl⟩ := M_pure h
      exact slice_rev_snd S Rm G V h1 h2 hid hd hb T
    · cases h
  · rcases M_ite h with ⟨_, h⟩ | ⟨hb, h⟩
    · cases h
    · obtain ⟨ov, st₁, h1, h⟩ := M_bind (m := r.ev _ ae) h
      obtain ⟨iv, st₂, h2, h⟩ := M_bind (m := r.ev _ ae) h
      exact sub_snd S Rm G V (by simpa using hb) h1 h2 h T
  · obtain ⟨av, st₁, h1, h⟩ := M_bind (m := r.ev _ ae) h
    obtain ⟨bv, st₂, h2, h⟩ := M_bind (m := r.ev _ ae) h
    refine wpAny_BinOp (S.ev h1 Rm G V fun va s₁ loc₁ G₁ x₁ r₁ => S.ev h2 Rm G₁ (V.ext G x₁) fun vb s₂ loc₂ G₂ x₂ r₂ => ?_)
    exact bin_snd h G₂ (r₁.ext x₂) r₂ (T.after (x₁.trans x₂))
  · rename_i op x pos
    obtain ⟨v, st₁, h1, h⟩ := M_bind (m := r.ev _ ae) h
    refine wpAny_UnaryOp (S.ev h1 Rm G V fun va s₁ loc₁ G₁ x₁ r₁ => ?_)
    cases op with
    | USub => exact neg_snd h G₁ r₁ (T.after x₁)
    | Not => exact not_snd h Rm G₁ r₁ (T.after x₁)
    | _ => cases h
  · rw [arm_eval_BoolOp]
    exact bool_snd S Rm h G V T
  · rcases M_ite h with ⟨_, h⟩ | ⟨hb, h⟩
    · cases h
    · obtain ⟨av, st₁, h1, h⟩ := M_bind (m := r.ev _ ae) h
      obtain ⟨bv, st₂, h2, h⟩ := M_bind (m := r.ev _ ae) h
      obtain ⟨c, st₃, h3, h⟩ := M_bind (m := cmp _ av bv) h
      obtain ⟨rfl, rfl⟩ := M_pure h
      refine wpAny_Compare1 (S.ev h1 Rm G V fun va s₁ loc₁ G₁ x₁ r₁ => S.ev h2 Rm G₁ (V.ext G x₁) fun vb s₂ loc₂ G₂ x₂ r₂ => ?_) (by simpa using hb)
      exact cmp_snd Z h3 Rm G₂ (r₁.ext x₂) r₂ (T.after (x₁.trans x₂))
  · obtain ⟨tv, st₁, h1, h⟩ := M_bind (m := r.ev _ ae) h
    obtain ⟨c, st₂, h2, h⟩ := M_bind (m := truth tv) h
    refine wpAny_IfExp (S.tr h1 h2 Rm G V fun s₂ loc₂ G₂ x₂ => ?_)
    rcases M_ite h with ⟨rfl, h⟩ | ⟨hf, h⟩
    · rw [if_pos rfl]; exact S.ev h Rm G₂ (V.ext G x₂) (T.after x₂)
    · rw [if_neg hf]; exact S.ev h Rm G₂ (V.ext G x₂) (T.after x₂)
  · exact comp_snd Z S Rm G V h T
  · rcases M_ite h with ⟨_, h⟩ | ⟨hb, h⟩
    · cases h
    · simp only [Bool.not_eq_true, Bool.not_eq_false', Bool.and_eq_true, decide_eq_true_eq] at hb
      obtain ⟨⟨⟨b1, b2⟩, b3⟩, b4⟩ := hb
      obtain ⟨ov, st₁, h1, h⟩ := M_bind (m := r.ev _ ae) h
      cases ov <;> try (cases h; done)
      obtain ⟨d, st₂, h2, h⟩ := M_bind (m := getD _) h
      obtain ⟨rfl, hid, hd⟩ := M_getD h2
      cases d <;> try (cases h; done)
      · obtain ⟨vs, st₃, h3, h⟩ := M_bind (m := evs r ae _) h
        exact meth_snd Z S Rm G V b1 b2 b3 b4 h1 h3 (.inl ⟨_, hd, h⟩) T
      · obtain ⟨vs, st₃, h3, h⟩ := M_bind (m := evs r ae _) h
        exact meth_snd Z S Rm G V b1 b2 b3 b4 h1 h3 (.inr ⟨_, hd, h⟩) T
  · rename_i f p args pos
    rcases M_ite h with ⟨_, h⟩ | ⟨hb, h⟩
    · cases h
    · simp only [Bool.not_eq_true, Bool.not_eq_false', Bool.and_eq_true, decide_eq_true_eq] at hb
      obtain ⟨⟨b1, b2⟩, b3⟩ := hb
      rcases M_ite h with ⟨hf, h⟩ | ⟨_, h⟩
      · have hf : f = ("list" : Str) := by simpa using hf
        subst hf
        match args, b2, b3, h with
        | [], _, _, h => cases h
        | _ :: _ :: _, _, _, h => cases h
        | [e'], b2, b3, h =>
          obtain ⟨src, st₁, h1, h⟩ := M_bind (m := srcOf r ae e') h
          obtain ⟨l, st₂, h2, h⟩ := M_bind (m := srcItems src) h
          rcases M_ite h with ⟨hg, h⟩ | ⟨_, h⟩
          · simp only [Bool.and_eq_true, decide_eq_true_eq] at hg
            obtain ⟨⟨g1, g2⟩, g3⟩ := hg
            obtain ⟨id, st₃, h3, h⟩ := M_bind (m := newD _) h
            obtain ⟨rfl, rfl⟩ := M_newD h3
            obtain ⟨rfl, rfl⟩ := M_pure h
            refine wpAny_Call_NameR (globBl Z b1 G V (fv := .type "list") (by simp [builtinsTab]) ?_)
            refine PySem.callWith_type (plainAny b2) ?_
            rw [starEach_plain g2]
            refine evalArgs_plain (spliced_cons (srcOf_snd Z S h1 Rm G V fun x s₁ loc₁ G₁ x₁ sv => spliced_nil ?_))
            have est : st₂ = st₁ := srcItems_same h2
            subst est
            exact listOf_snd Z Rm G₁ sv h2 g1 g3 (T.after x₁)
          · cases h
      rcases M_ite h with ⟨hf, h⟩ | ⟨_, h⟩
      · match args, b2, b3, h with
        | [], _, _, h => cases h
        | _ :: _ :: _, _, _, h => cases h
        | [e'], b2, b3, h =>
          obtain ⟨v, st₁, h1, h⟩ := M_bind (m := r.ev e' ae) h
          have hf : f = ("len" : Str) ∨ f = ("sum" : Str) ∨ f = ("sorted" : Str) := by
            simpa [builtin1, or_assoc] using hf
          rcases hf with rfl | rfl | rfl
          · refine callBlt_snd (T := "len") Z S b1 (by simp [builtinsTab]) (one_ev h1) b2 Rm G V fun ws s₁ loc₁ G₁ x₁ r₁ => ?_
            cases r₁ with
            | cons rv r₁ => cases r₁; exact len_snd h G₁ rv (T.after x₁)
          · refine callBlt_snd (T := "sum") Z S b1 (by simp [builtinsTab]) (one_ev h1) b2 Rm G V fun ws s₁ loc₁ G₁ x₁ r₁ => ?_
            cases r₁ with
            | cons rv r₁ => cases r₁; exact sum_snd h Rm G₁ rv (T.after x₁)
          · refine callBlt_snd (T := "sorted") Z S b1 (by simp [builtinsTab]) (one_ev h1) b2 Rm G V fun ws s₁ loc₁ G₁ x₁ r₁ => ?_
            cases r₁ with
            | cons rv r₁ => cases r₁; exact sorted_snd h G₁ rv (T.after x₁)
      · obtain ⟨vs, st₁, h1, h⟩ := M_bind (m := evs r ae _) h
        exact user_snd Z S Rm G V b1 b2 h1 h T
  · cases h

end
end
/-! AS23 -/
section
set_option autoImplicit false
set_option maxRecDepth 100000
open PySem PySem.W PyProof.Rows PySem.Calls

section
variable {X : Cx} {r : Rec} {n : Nat} {A : Around} {E : Value → Shared → Prop} {s : Shared} {loc : Nat → Addr} {st st' st'' : ASt} {env : Env} {ae ae' : AEnv}

theorem evF_tr (Z : StaticOK X) (S : Snd X r n) (Rm : Room A n) {e : Expr} {a : AVal} {c : Bool} {Q : Bool → Shared → Prop} (h : evF r e ae st = some (a, st')) (h' : truth a st' = some (c, st'')) (G : OK X s loc st) (V : EnvOK X env ae s.heap loc st.next) (T : ThenB X s loc st c st'' Q) :
    wpAny (model PW X.w) A (isTrue e env (eval e env)) Q E s := by
  cases e
  case UnaryOp op x p =>
    cases op
    case Not =>
      obtain ⟨v, st₁, h1, h2⟩ := M_bind (m := r.ev x ae) h
      obtain ⟨t, st₂, h3, h4⟩ := M_bind (m := truth v) (show (do let b ← truth v; pure (AVal.bool (!b)) : M AVal) st₁ = _ from h2)
      obtain ⟨rfl, rfl⟩ := M_pure h4
      obtain ⟨rfl, rfl⟩ := M_pure (show (pure (!t) : M Bool) st' = _ from h')
      exact wpAny_isTrue_Not (S.tr h1 h3 Rm G V T)
    all_goals exact wpAny_isTrue_value (evF_snd Z S Rm h G V fun v s₁ loc₁ G₁ x₁ r₁ => truth_snd h' Rm G₁ r₁ (T.after x₁)) rfl
  case BoolOp op es p => exact wpAny_isTrue_BoolOp (allTrue_snd S Rm h h' G V T)
  case IfExp t b o p =>
    obtain ⟨tv, st₁, h1, h⟩ := M_bind (m := r.ev t ae) h
    obtain ⟨ct, st₂, h2, h⟩ := M_bind (m := truth tv) h
    show wpAny _ A (do if ← isTrue t env (eval t env) then isTrue b env (eval b env) else isTrue o env (eval o env)) Q E s
    refine wpAny_bind (S.tr h1 h2 Rm G V fun s₂ loc₂ G₂ x₂ => ?_)
    rcases M_ite h with ⟨rfl, h⟩ | ⟨hf, h⟩
    · rw [if_pos rfl]; exact S.tr h h' Rm G₂ (V.ext G x₂) (T.after x₂)
    · rw [if_neg hf]; exact S.tr h h' Rm G₂ (V.ext G x₂) (T.after x₂)
  case Compare l ops cs p =>
    match ops, cs, h with
    | [], _, h => cases h
    | [_], [], h => cases h
    | [_], _ :: _ :: _, h => cases h
    | _ :: _ :: _, _, h => cases h
    | [op], [x], h =>
      rcases M_ite h with ⟨_, h⟩ | ⟨hb, h⟩
      · cases h
      · obtain ⟨av, st₁, h1, h⟩ := M_bind (m := r.ev _ ae) h
        obtain ⟨bv, st₂, h2, h⟩ := M_bind (m := r.ev _ ae) h
        obtain ⟨c', st₃, h3, h⟩ := M_bind (m := cmp _ av bv) h
        obtain ⟨rfl, rfl⟩ := M_pure h
        refine wpAny_isTrue_Compare1 (S.ev h1 Rm G V fun va s₁ loc₁ G₁ x₁ r₁ => S.ev h2 Rm G₁ (V.ext G x₁) fun vb s₂ loc₂ G₂ x₂ r₂ => ?_) (by simpa using hb)
        exact cmp_snd Z h3 Rm G₂ (r₁.ext x₂) r₂ fun v s₃ loc₃ G₃ x₃ r₃ => truth_snd h' Rm G₃ r₃ (T.after ((x₁.trans x₂).trans x₃))
  all_goals exact wpAny_isTrue_value (evF_snd Z S Rm h G V fun v s₁ loc₁ G₁ x₁ r₁ => truth_snd h' Rm G₁ r₁ (T.after x₁)) rfl

end
end
/-! AS24 -/
section
set_option autoImplicit false
set_option maxRecDepth 100000
open PySem PySem.W PyProof.Rows PySem.Calls

theorem zip_lookup {β : Type} : ∀ {names : List Str} {vals : List β}, names.Nodup → names.length = vals.length → ∀ n ∈ names, ((names.zip vals).lookup n).isSome = true
  | [], _, _, _, n, h => by cases h
  | x :: names, [], _, h, _, _ => by cases h
  | x :: names, v :: vals, hn, hl, n, h => by
    rw [List.zip_cons_cons, List.lookup_cons]
    split
    · rfl
    · rename_i q
      rcases List.mem_cons.mp h with rfl | h
      · simp at q
      · exact zip_lookup (List.nodup_cons.mp hn).2 (by simpa using hl) n h

theorem zip_binds {β : Type} : ∀ {names : List Str} {vals : List β}, names.Nodup → names.length = vals.length → names.filterMap (fun n => ((names.zip vals).lookup n).map (n, ·)) = names.zip vals := by
  intro names vals hn hl
  have key : ∀ (pre : List Str) (pv : List β) (names : List Str) (vals : List β), (pre ++ names).Nodup → pre.length = pv.length → names.length = vals.length →
      names.filterMap (fun n => (((pre ++ names).zip (pv ++ vals)).lookup n).map (n, ·)) = names.zip vals := by
    intro pre pv names
    induction names generalizing pre pv with
    | nil => intro vals _ _ _; simp
    | cons x names ih =>
      intro vals hn hp hl
      cases vals with
      | nil => cases hl
      | cons v vals =>
        have hx : ((pre ++ x :: names).zip (pv ++ v :: vals)).lookup x = some v := by
          rw [List.zip_append hp, List.lookup_append]
          have : (pre.zip pv).lookup x = none := by
            rw [List.lookup_eq_none_iff]
            intro p hpm
            have h1 := (List.of_mem_zip hpm).1
            rw [List.nodup_append] at hn
            have := hn.2.2 p.1 h1 x (by simp)
            simpa using fun e : x = p.1 => this e.symm
          rw [this, List.zip_cons_cons, List.lookup_cons]
          simp
        rw [List.filterMap_cons_some (b := (x, v)) (by rw [hx]; rfl), List.zip_cons_cons]
        have := ih (pre ++ [x]) (pv ++ [v]) vals (by simpa using hn) (by simp [hp]) (by simpa using hl)
        simp only [List.append_assoc, List.singleton_append] at this
        rw [this]
  exact key [] [] names vals hn rfl hl

theorem sem_pure_bind {α β : Type} (a : α) (f : α → Sem β) : (pure a >>= f) = f a := rfl

theorem bind_plain {fd : FuncData} {vals : List Value} {as : List Arg} {kd : List (Option Expr)} {df : List Expr} (hp : fd.params = ⟨[], as, none, [], kd, none, df⟩) (hd : fd.defaults = .none) (hl : as.length = vals.length) (hn : (as.map (·.arg)).Nodup) :
    bindArgs fd ⟨vals, []⟩ = pure ((as.map (·.arg)).zip vals) := by
  unfold bindArgs
  rw [hp, hd]
  have h0 : seqItems? .none = pure none := rfl
  have hl' : (as.map (·.arg)).length = vals.length := by simpa using hl
  have h1 : ((as.map (·.arg)).filter fun n => (((as.map (·.arg)).zip vals).lookup n).isNone) = [] := by
    rw [List.filter_eq_nil_iff]
    intro n hm
    have := zip_lookup hn hl' n hm
    simp only [Bool.not_eq_true, Option.isNone_eq_false_iff]
    exact this
  have h2 := zip_binds hn hl'
  have h3 : ¬ (vals.length > (as.map (·.arg)).length) := by omega
  have hlt : ¬ (vals.length > (as.map (·.arg)).length) := by omega
  simp only [List.map_nil, List.nil_append, h0, List.append_nil, List.forIn_nil, sem_pure_bind, Option.getD_none, List.drop_nil, List.length_nil, Nat.sub_zero, hlt, decide_false, Bool.false_and, Bool.false_eq_true, if_false, List.take_length, List.drop_length, List.zip_nil_right, h1, List.isEmpty_nil, Bool.not_true]
  rw [h2]
end
/-! AS25 -/
section
set_option autoImplicit false
set_option maxRecDepth 100000
open PySem PySem.W PyProof.Rows PySem.Calls

/-- a function of the text, as the start left it -/
def FnSpec (X : Cx) (fa : Addr) (params : Arguments) (b : List Stmt) (sc : Scope) : Prop :=
  ∃ o fd, X.h0.get? fa = some o ∧ o.data = .func fd ∧ fd.params = params ∧ fd.defaults = .none ∧ fd.body = .stmts b ∧ fd.scope = sc ∧ fd.closure = [] ∧ fd.globals = mainGlobals ∧ fd.builtins = builtinsNs ∧ X.h0.CodeRec fd.code fd.qualname

structure StaticF (X : Cx) : Prop where
  fns : ∀ f d, (f == ("Cell" : Str) || f == ("Counted" : Str)) = false → fnOfTab f = some d → ∃ fa, X.mg f = some (.ref fa) ∧ keepIn X.K (.ref fa) = true ∧ FnSpec X fa d.params d.body d.scope
  cls : ∀ c a b sc, (c == ("Cell" : Str) || c == ("Counted" : Str)) = true → initOf c = some (a, b, sc) → ∃ C fI, X.cls c = some C ∧ X.mg c = some (.ref C) ∧ keepIn X.K (.ref C) = true ∧ makesIn X.K C = true ∧ findIn X.K (.ref C) "__init__" = some (some (.ref fI)) ∧
    typeIn X.K (.ref fI) = some (.type "function") ∧ FnSpec X fI a b sc

theorem cellsFrom_mem : ∀ (names : List (Str × NameKind)) (n : Nat) (acc : List (Str × Addr)) (x : Str) (c : Addr), (x, c) ∈ cellsFrom n names acc → (x, c) ∈ acc ∨ (x, NameKind.cell) ∈ names
  | [], _, _, _, _, h => .inl h
  | (y, k) :: r, n, acc, x, c, h => by
    unfold cellsFrom at h
    split at h
    · rename_i hk
      have hk : k = .cell := by simpa using hk
      subst hk
      rcases cellsFrom_mem r _ _ x c h with q | q
      · rcases List.mem_cons.mp q with q | q
        · cases q; exact .inr (.head _)
        · exact .inl q
      · exact .inr (.tail _ q)
    · rcases cellsFrom_mem r _ _ x c h with q | q
      · exact .inl q
      · exact .inr (.tail _ q)

theorem mem_of_lookupA {β : Type} {x : Str} {b : β} : ∀ {l : List (Str × β)}, l.lookup x = some b → (x, b) ∈ l
  | [], h => by cases h
  | (y, j) :: l, h => by
    rw [List.lookup_cons] at h
    split at h
    · rename_i q; cases h; rw [beq_iff_eq] at q; subst q; exact .head _
    · exact .tail _ (mem_of_lookupA h)

theorem bindL_get (kindOf : Str → Option NameKind) {x : Str} : ∀ (names : List Str) (vals : List Value) (m : Str → Option Value), names.Nodup → names.length = vals.length → kindOf x = some .local → bindL kindOf (names.zip vals) m x = ((names.zip vals).lookup x).or (m x)
  | [], _, m, _, _, _ => by simp [bindL]
  | _ :: _, [], _, _, h, _ => by cases h
  | y :: names, v :: vals, m, hn, hl, hk => by
    rw [List.nodup_cons] at hn
    have hl' : names.length = vals.length := by simpa using hl
    rw [List.zip_cons_cons]
    unfold bindL
    rw [bindL_get kindOf names vals _ hn.2 hl' hk, List.lookup_cons]
    by_cases q : x = y
    · subst q
      have hno : (names.zip vals).lookup x = none := by
        rw [List.lookup_eq_none_iff]
        intro p hp
        have := (List.of_mem_zip hp).1
        simpa using fun e : x = p.1 => hn.1 (e ▸ this)
      rw [hno, if_pos hk]
      simp
    · have hb : (x == y) = false := by simp [q]
      rw [hb]
      dsimp only
      cases (names.zip vals).lookup x with
      | some w => rfl
      | none =>
        split <;> simp [q]
theorem bindC_get (kindOf : Str → Option NameKind) {x : Str} : ∀ (names : List Str) (vals : List Value) (m : Str → Option Value), names.Nodup → names.length = vals.length → kindOf x ≠ some .local → bindC kindOf (names.zip vals) m x = ((names.zip vals).lookup x).or (m x)
  | [], _, m, _, _, _ => by simp [bindC]
  | _ :: _, [], _, _, h, _ => by cases h
  | y :: names, v :: vals, m, hn, hl, hk => by
    rw [List.nodup_cons] at hn
    have hl' : names.length = vals.length := by simpa using hl
    rw [List.zip_cons_cons]
    unfold bindC
    rw [bindC_get kindOf names vals _ hn.2 hl' hk, List.lookup_cons]
    by_cases q : x = y
    · subst q
      have hno : (names.zip vals).lookup x = none := by
        rw [List.lookup_eq_none_iff]
        intro p hp
        have := (List.of_mem_zip hp).1
        simpa using fun e : x = p.1 => hn.1 (e ▸ this)
      rw [hno, if_neg hk]
      simp
    · have hb : (x == y) = false := by simp [q]
      rw [hb]
      dsimp only
      cases (names.zip vals).lookup x with
      | some w => rfl
      | none =>
        split <;> simp [q]

section
variable {X : Cx} {r : Rec} {n : Nat} {A : Around} {E : Value → Shared → Prop} {s : Shared} {loc : Nat → Addr} {st st' : ASt} {env : Env} {ae ae' : AEnv}

theorem zip_rel {h : Heap} {N : Nat} {x : Str} {a : AVal} : ∀ {names : List Str} {vs : List Value} {args : List AVal}, VRels X h loc N vs args → (names.zip args).lookup x = some a → ∃ v, (names.zip vs).lookup x = some v ∧ VRel X h loc N v a
  | [], _, _, _, e => by simp at e
  | _ :: _, _, _, .nil, e => by simp at e
  | y :: names, _, _, .cons (v := v) rv rr, e => by
    rw [List.zip_cons_cons, List.lookup_cons] at e
    rw [List.zip_cons_cons, List.lookup_cons]
    split at e
    · cases e; exact ⟨_, rfl, rv⟩
    · exact zip_rel rr e

theorem bodyOk_of {ps : List Str} {sc : Scope} (h : bodyOk ps sc = true) : sc.kind = .function ∧ sc.isCoroutine = false ∧ sc.isGenerator = false ∧ ps.Nodup ∧ (∀ x ∈ ps, sc.names.lookup x = some .local ∨ sc.names.lookup x = some .cell) ∧ ∀ x k, (x, k) ∈ sc.names → k ≠ .free ∧ sc.names.lookup x = some k := by
  unfold bodyOk at h
  simp only [Bool.and_eq_true, Bool.not_eq_true'] at h
  obtain ⟨⟨⟨⟨⟨h1, h2⟩, h3⟩, h4⟩, h5⟩, h6⟩ := h
  rw [List.all_eq_true] at h5 h6
  refine ⟨?_, h2, h3, noDup_nodup h4, fun x hx => ?_, fun x k hx => ?_⟩
  · split at h1
    · assumption
    · cases h1
  · have := h5 x hx
    unfold bindable at this
    split at this
    · rename_i e; exact .inl e
    · rename_i e; exact .inr e
    · cases this
  · have := h6 _ hx
    unfold bodyName at this
    rw [Bool.and_eq_true] at this
    refine ⟨fun q => ?_, by simpa using this.2⟩
    subst q; cases this.1

theorem body_snd (Z : StaticOK X) (S : Snd X r n) (hroom : A.depth < recursionLimit) (Rm : ∀ env, Room (A.deeper env) n) {fa : Addr} {params : Arguments} {b : List Stmt} {sc : Scope} {args : List AVal} {vs : List Value} {a : AVal} (F : FnSpec X fa params b sc) (h : runBody r params b sc args st = some (a, st')) (G : OK X s loc st) (rv : VRels X s.heap loc st.next vs args)
    {R : Result → Shared → Prop} (hR : ∀ v s' loc', OK X s' loc' st' → Ext NoW s loc st s' loc' st' → VRel X s'.heap loc' st'.next v a → R (.ok (.ret v)) s') : codeAny (model PW X.w) A (.call (.ref fa) ⟨vs, []⟩) R s := by
  obtain ⟨o, fd, ho, hdata, hpar, hdef, hbody, rfl, hclo, hglob, hblt, hcode⟩ := F
  rcases M_ite h with ⟨hg, h⟩ | ⟨_, h⟩
  rotate_left
  · cases h
  obtain ⟨hlen, hok⟩ := hg
  rw [Bool.and_eq_true] at hok
  obtain ⟨hpl, hok⟩ := hok
  obtain ⟨b1, b2, b3, b4, b5, b6⟩ := bodyOk_of hok
  have hpar' : fd.params = ⟨[], params.args, none, [], params.kw_defaults, none, params.defaults⟩ := by
    rw [hpar]
    obtain ⟨p1, p2, p3, p4, p5, p6, p7⟩ := params
    unfold plainParams at hpl
    simp only [Bool.and_eq_true, List.isEmpty_iff, Option.isNone_iff_eq_none] at hpl
    obtain ⟨⟨⟨⟨e1, e2⟩, e3⟩, e4⟩, e5⟩ := hpl
    subst e1 e2 e3 e4
    rfl
  have hlv : params.args.length = vs.length := by rw [hlen, rv.length]
  have hlv' : (params.args.map (·.arg)).length = vs.length := by simpa using hlv
  have hbind := bind_plain (fd := fd) (vals := vs) hpar' hdef hlv b4
  obtain ⟨⟨out, ae₁⟩, st₁, h1, h2⟩ := M_bind (m := exs r b { sc := fd.scope, vars := (params.args.map (·.arg)).zip args }) h
  refine codeAny_call_cells (fd := fd) hroom (G.base _ _ ho) hdata (Z.nolimit.keeps G.base) (hcode.keeps G.base) hbody hbind hclo (fun y hy => ?_) (fun s₁ inC => ?_) b2 b3 b1
  · have hm := (List.of_mem_zip (a := y.1) (b := y.2) hy).1
    rcases b5 y.1 hm with q | q
    · exact .inl q
    · exact .inr ⟨q, cellsFrom_some _ _ _ (.inl q)⟩
  · obtain ⟨h₁, tk, rfl, hk⟩ := inC.done
    obtain ⟨G₁, x₁⟩ := G.keeps (t := tk) hk
    have hL : (callEnvC fd s.heap.objs.size fa).locals = s.heap.objs.size := rfl
    have hcl : (callEnvC fd s.heap.objs.size fa).cells = cellsFrom (s.heap.objs.size + 1) fd.scope.names [] := rfl
    have hkd : ∀ x, (callEnvC fd s.heap.objs.size fa).kindOf x = fd.scope.names.lookup x := fun _ => rfl
    have fresh : ∀ c, s.heap.objs.size ≤ c → s.heap.get? c = none := fun c hc => none_ge _ hc
    have fresh0 : ∀ c, s.heap.objs.size ≤ c → X.h0.get? c = none := fun c hc => by
      cases e : X.h0.get? c with
      | none => rfl
      | some o' => have := G.base _ _ e; rw [fresh c hc] at this; cases this
    have cab : ∀ x c, (callEnvC fd s.heap.objs.size fa).cells.lookup x = some c → s.heap.objs.size < c := fun x c hc => inC.above x c (mem_of_lookupA hc)
    have V : EnvOK X (callEnvC fd s.heap.objs.size fa) { sc := fd.scope, vars := (params.args.map (·.arg)).zip args } h₁ loc st.next := by
      refine ⟨b1, hglob, hblt, fun x k hx => .inl hx, ⟨_, inC.toInCall.ns, fun x a hx hl => ?_⟩, fun x hx => ?_, fun x y c hx hy => name_of_addr inC.apart (mem_of_lookupA hx) (mem_of_lookupA hy), fun i hi q => ?_, fresh0 _ (Nat.le_refl _), fun x c hc => fresh0 c (Nat.le_of_lt (cab x c hc)), fun x c hc => ?_⟩
      · obtain ⟨v, e1, e2⟩ := zip_rel rv hx
        refine ⟨v, ?_, e2.ext x₁⟩
        rw [bindL_get _ _ _ _ b4 hlv' hl, e1]; rfl
      · have hcell : fd.scope.names.lookup x = some .cell := by
          rcases hx with q | q
          · exact q
          · exact absurd rfl (b6 x _ (mem_of_lookup q)).1
        obtain ⟨c, hc⟩ := Option.isSome_iff_exists.mp (cellsFrom_some fd.scope.names (s.heap.objs.size + 1) [] (.inl hcell))
        obtain ⟨oc, hoc, hdc⟩ := inC.cell x c hc
        refine ⟨c, hc, oc, _, hoc, hdc, fun a ha => ?_⟩
        obtain ⟨v, e1, e2⟩ := zip_rel rv ha
        refine ⟨v, ?_, e2.ext x₁⟩
        rw [bindC_get _ _ _ _ b4 hlv' (by rw [hkd, hcell]; intro q; cases q), e1]; rfl
      · obtain ⟨o, e, _⟩ := (G.rel i hi).live
        rw [q, hL, fresh _ (Nat.le_refl _)] at e; cases e
      · rcases cellsFrom_mem _ _ _ x c (mem_of_lookupA hc) with q | q
        · cases q
        · exact .inl (b6 x _ q).2
    refine exs_snd S h1 (Rm _) G₁ V fun fl s₂ loc₂ G₂ x₂ V₂ f₂ => ?_
    have x₁₂ : Ext NoW s loc st s₂ loc₂ st₁ := x₁.trans' x₂ (fun _ q => q.elim) fun b q => .inr (by
      rcases q with rfl | ⟨x, q⟩
      · exact fresh _ (Nat.le_refl _)
      · exact fresh _ (Nat.le_of_lt (cab x b q)))
    cases f₂ with
    | next => obtain ⟨rfl, rfl⟩ := M_pure (show (pure AVal.none : M AVal) st₁ = _ from h2); exact hR _ s₂ loc₂ G₂ x₁₂ .none
    | ret rv' => obtain ⟨rfl, rfl⟩ := M_pure (show (pure _ : M AVal) st₁ = _ from h2); exact hR _ s₂ loc₂ G₂ x₁₂ rv'

end
end
/-! AS26 -/
section
set_option autoImplicit false
set_option maxRecDepth 100000
open PySem PySem.W PyProof.Rows PySem.Calls

section
variable {X : Cx} {r : Rec} {n : Nat} {A : Around} {E : Value → Shared → Prop} {s : Shared} {loc : Nat → Addr} {st st' : ASt} {env : Env} {ae ae' : AEnv}


theorem callF_snd (Z : StaticOK X) (ZF : StaticF X) (S : Snd X r n) (Rm : Room A (n + 1)) {f : Str} {args : List AVal} {vs : List Value} {fv : Value} {a : AVal} {Q : Value → Shared → Prop} (h : callF r f args st = some (a, st')) (G : OK X s loc st) (rv : VRels X s.heap loc st.next vs args) (hf : X.mg f = some fv)
    (T : Then X s loc st a st' Q) : wpAny (model PW X.w) A (call fv vs []) Q E s := by
  have hroom : A.depth < recursionLimit := by have := Rm.depth; omega
  unfold callF at h
  rcases M_ite h with ⟨hc, h⟩ | ⟨hc, h⟩
  · cases hi : initOf f with
    | none => rw [hi] at h; cases h
    | some y =>
      obtain ⟨pa, b, sc⟩ := y
      rw [hi] at h
      obtain ⟨id, st₁, h1, h⟩ := M_bind (m := newD _) h
      obtain ⟨rfl, rfl⟩ := M_newD h1
      obtain ⟨v, st₂, h2, h⟩ := M_bind (m := runBody r pa b sc _) h
      cases v <;> try (cases h; done)
      obtain ⟨rfl, rfl⟩ := M_pure h
      obtain ⟨C, fI, c1, c2, c3, c4, c5, c6, F⟩ := ZF.cls f pa b sc hc hi
      rw [c2] at hf
      cases hf
      have kin := G.kin Z
      obtain ⟨hh, g, d, t, os⟩ := s
      refine wpAny_call (make_core (makes_of kin c4) (looks_findIn kin c5) (fun self => bind_fn kin self c6) (.inl rfl) ?_)
      have k1 : ∀ b o, hh.get? b = some o → (hh.push emptyDict).get? b = some o := fun b o e => Heap.get?_push_of_some _ e
      have e0 : (hh.push emptyDict).get? hh.objs.size = some emptyDict := Heap.get?_push_size _ rfl
      obtain ⟨G₁, x₁⟩ := G.new' (t := t) (h' := hh.push emptyDict) (d := .sdict []) (size_none hh) k1 ⟨List.nodup_nil, [], 0, e0, .nil⟩
      have k2 : ∀ b o, (hh.push emptyDict).get? b = some o → ((hh.push emptyDict).push (instObj C hh.objs.size)).get? b = some o := fun b o e => Heap.get?_push_of_some _ e
      obtain ⟨G₂, x₂⟩ := G₁.keeps (t := t) k2
      have e1 : ((hh.push emptyDict).push (instObj C hh.objs.size)).get? (hh.objs.size + 1) = some (instObj C hh.objs.size) := by
        have := Heap.get?_push_size (hh.push emptyDict) (o := instObj C hh.objs.size) rfl
        rwa [Heap.size_push] at this
      have e2 : locN loc st.next hh.objs.size st.next = hh.objs.size := by unfold locN; rw [if_pos rfl]
      have rx : VRel X ((hh.push emptyDict).push (instObj C hh.objs.size)) (locN loc st.next hh.objs.size) (st.new (.sdict [])).next (.ref (hh.objs.size + 1)) (.inst f st.next) := .inst (Nat.lt_succ_self _) c1 (by rw [e2]; exact e1)
      have x₁₂ := x₁.trans x₂
      have ed := depth_under_make A C vs
      have eu := units_under_make A C vs
      refine body_snd (A := A.under (.builtin "type.__call__" ⟨.ref C :: vs, []⟩)) Z S (by rw [ed]; have := Rm.depth; omega) (fun env => ⟨Rm.handled, by
        have := Rm.depth
        show (A.under (.builtin "type.__call__" ⟨.ref C :: vs, []⟩)).depth + 1 + 2 * n < _
        rw [ed]; omega, by
        have := Rm.units
        show (A.under (.builtin "type.__call__" ⟨.ref C :: vs, []⟩)).units + 3 + 20 * n + 100 < _
        rw [eu]; omega⟩) F h2 G₂ (.cons rx (rv.ext x₁₂)) fun v s' loc' G' x' r' => ?_
      cases r'
      exact ⟨rfl, T _ s' loc' G' (x₁₂.trans x') (rx.ext x')⟩
  · cases hd : fnOfTab f with
    | none => rw [hd] at h; cases h
    | some d =>
      rw [hd] at h
      obtain ⟨fa, c1, c2, F⟩ := ZF.fns f d (by simpa using hc) hd
      rw [c1] at hf
      cases hf
      exact wpAny_call (body_snd Z S hroom (fun env => Rm.deeper (Nat.le_refl _)) F h G rv fun v s' loc' G' x' r' => T v s' loc' G' x' r')

theorem callF_fn (ZF : StaticF X) {f : Str} {args : List AVal} {y : AVal × ASt} (h : callF r f args st = some y) : ∃ fv, X.mg f = some fv ∧ keepIn X.K fv = true := by
  unfold callF at h
  rcases M_ite h with ⟨hc, h⟩ | ⟨hc, h⟩
  · cases hi : initOf f with
    | none => rw [hi] at h; cases h
    | some y =>
      obtain ⟨pa, b, sc⟩ := y
      obtain ⟨C, fI, c1, c2, c3, _⟩ := ZF.cls f pa b sc hc hi
      exact ⟨_, c2, c3⟩
  · cases hd : fnOfTab f with
    | none => rw [hd] at h; cases h
    | some d =>
      obtain ⟨fa, c1, c2, F⟩ := ZF.fns f d (by simpa using hc) hd
      exact ⟨_, c1, c2⟩

theorem use_one (Z : StaticOK X) (S : Snd X r n) (Rm : Room A n) {elt : Expr} {gens : List Comprehension} {sc : Scope} {pos : Pos} {a : AVal} {u : Value → Sem Unit} {Q : Unit → Shared → Prop} (h : evF r (.ListComp elt gens sc pos) ae st = some (a, st')) (G : OK X s loc st) (V : EnvOK X env ae s.heap loc st.next)
    (hu : ∀ D C s' loc', OK X s' loc' st' → Ext NoW s loc st s' loc' st' → VRel X s'.heap loc' st'.next (.ref D) a → (∃ m, s'.heap.Ns C m) → s.heap.get? C = none → (∀ i, i < st'.next → loc' i ≠ C) → X.h0.get? C = none →
      wpAny (model PW X.w) A (u (.ref D)) (fun _ s'' => ∃ m, s''.heap.Ns C m ∧ ∀ h', Heap.SameBut C s''.heap h' → Q () { s'' with heap := h' }) E s') : wpAny (model PW X.w) A (evalThenUse (.ListComp elt gens sc pos) env u) Q E s := by
  match gens, h with
  | [], h => cases h
  | _ :: _ :: _, h => cases h
  | [g], h => exact use_snd Z S Rm G V h hu

theorem snd_R (Z : StaticOK X) (ZF : StaticF X) {wh : ((AEnv × ASt) → Option (Sum (AEnv × ASt) ((Out × AEnv) × ASt))) → AEnv × ASt → Option ((Out × AEnv) × ASt)} (hw : ∀ {step} {x} {b}, wh step x = some b → ∃ k, whN step k x = some b) : ∀ n, Snd X (R wh n) n
  | 0 => by
    refine { ev := ?_, tr := ?_, ex := ?_, call := ?_, fn := ?_, use := ?_, wh := hw }
    · intro e ae st st' a h; cases h
    · intro e ae st st' st'' a c h; cases h
    · intro t ae ae' st st' o h; cases h
    · intro f args st st' a h; cases h
    · intro f args st y h; cases h
    · intro elt gens sc pos ae st st' a h; cases h
  | n + 1 => by
    have S := snd_R Z ZF hw n
    refine { ev := ?_, tr := ?_, ex := ?_, call := ?_, fn := ?_, use := ?_, wh := hw }
    · intro e ae st st' a h A env s loc E Q Rm G V T; exact evF_snd Z S (Rm.mono (Nat.le_succ n)) h G V T
    · intro e ae st st' st'' a c h h' A env s loc E Q Rm G V T; exact evF_tr Z S (Rm.mono (Nat.le_succ n)) h h' G V T
    · intro t ae ae' st st' o h A env s loc E Q Rm G V T; exact exF_snd Z S (Rm.mono (Nat.le_succ n)) h G V T
    · intro f args st st' a h A s loc vs fv E Q Rm G rv hf T; exact callF_snd Z ZF S Rm h G rv hf T
    · intro f args st y h; exact callF_fn ZF h
    · intro elt gens sc pos ae st st' a h A env s loc E u Q Rm G V hu; exact use_one Z S (Rm.mono (Nat.le_succ n)) h G V hu

end
end
/-! AS27 -/
section
set_option maxRecDepth 100000
set_option maxHeartbeats 8000000
open PySem PySem.W PyProof.Rows PySem.Calls

theorem fillNow : PySem.Challenge.rw_pf0208_01 = PySem.Challenge.rw_pf0208_01 ∧ hd.heap_39 = hd.heap_39 := by
  k_fill
  exact ⟨rfl, rfl⟩
theorem recs_same : recsOf hd.view_39 = recsOf PySem.Challenge.pw_pf0208_01 := by kernel_rfl
theorem recs_keep (p : Params) : (recsOf hd.view_39).all (fun d => match nsIn (hd.heap_39 p) mainGlobals d.name with | some (some v) => keepIn (hd.heap_39 p) v | _ => false) = true := by kernel_rfl

def clsTab (c : Str) : Option Addr := if c = ("Cell" : Str) then some 63 else if c = ("Counted" : Str) then some 84 else none

noncomputable def theCx (w : World) (h : Heap) (mg mb : Str → Option Value) : Cx := { w := w, h0 := h, K := hd.heap_39 w.params, cls := clsTab, mg := mg, mb := mb }

theorem cell_name (p : Params) : nsIn (hd.heap_39 p) mainGlobals "Cell" = some (some (.ref 63)) := by k_is
theorem counted_name (p : Params) : nsIn (hd.heap_39 p) mainGlobals "Counted" = some (some (.ref 84)) := by k_is
theorem cell_init (p : Params) : findIn (hd.heap_39 p) (.ref 63) "__init__" = some (some (.ref 60)) := by k_is
theorem counted_init (p : Params) : findIn (hd.heap_39 p) (.ref 84) "__init__" = some (some (.ref 81)) := by k_is
theorem cell_makes (p : Params) : makesIn (hd.heap_39 p) 63 = true := by k_is
theorem counted_makes (p : Params) : makesIn (hd.heap_39 p) 84 = true := by k_is
theorem cell_keep (p : Params) : keepIn (hd.heap_39 p) (.ref 63) = true := by k_is
theorem counted_keep (p : Params) : keepIn (hd.heap_39 p) (.ref 84) = true := by k_is
theorem cell_fn (p : Params) : typeIn (hd.heap_39 p) (.ref 60) = some (.type "function") := by k_is
theorem counted_fn (p : Params) : typeIn (hd.heap_39 p) (.ref 81) = some (.type "function") := by k_is

theorem cell_spec (p : Params) : ∃ o, (hd.heap_39 p).lookup 60 = some o ∧ ∃ fd b, o.data = .func fd ∧ initOf "Cell" = some (fd.params, b, fd.scope) ∧ fd.defaults = .none ∧ fd.body = .stmts b ∧ fd.closure = [] ∧ fd.globals = mainGlobals ∧ fd.builtins = builtinsNs ∧ codeIn (hd.heap_39 p) fd.code fd.qualname = true := by
  apply Exists.intro
  apply And.intro
  k_is
  exact ⟨_, _, rfl, by kernel_rfl, rfl, rfl, rfl, rfl, rfl, by kernel_rfl⟩
theorem counted_spec (p : Params) : ∃ o, (hd.heap_39 p).lookup 81 = some o ∧ ∃ fd b, o.data = .func fd ∧ initOf "Counted" = some (fd.params, b, fd.scope) ∧ fd.defaults = .none ∧ fd.body = .stmts b ∧ fd.closure = [] ∧ fd.globals = mainGlobals ∧ fd.builtins = builtinsNs ∧ codeIn (hd.heap_39 p) fd.code fd.qualname = true := by
  apply Exists.intro
  apply And.intro
  k_is
  exact ⟨_, _, rfl, by kernel_rfl, rfl, rfl, rfl, rfl, rfl, by kernel_rfl⟩

theorem attr_cell (p : Params) : ∀ x ∈ attrsOf "Cell", plainGet (hd.heap_39 p) 63 x = true ∧ hasDictIn (hd.heap_39 p) 63 = true ∧ (∃ attr, findIn (hd.heap_39 p) (.ref 63) x = some attr ∧ noGet (hd.heap_39 p) attr = true) ∧
    takerIn (hd.heap_39 p) 63 x = some none ∧ findIn (hd.heap_39 p) (.ref 63) "__setattr__" = some (some (.builtin "object.__setattr__")) ∧ plainOver (hd.heap_39 p) 63 = true := by
  intro x hx
  simp only [attrsOf, beq_self_eq_true, if_true, List.mem_cons, List.not_mem_nil, or_false] at hx
  rcases hx with rfl | rfl | rfl | rfl | rfl | rfl | rfl | rfl | rfl | rfl <;> exact ⟨by k_is, by k_is, ⟨none, by k_is, by k_is⟩, by k_is, by k_is, by k_is⟩
theorem attr_counted (p : Params) : ∀ x ∈ attrsOf "Counted", plainGet (hd.heap_39 p) 84 x = true ∧ hasDictIn (hd.heap_39 p) 84 = true ∧ (∃ attr, findIn (hd.heap_39 p) (.ref 84) x = some attr ∧ noGet (hd.heap_39 p) attr = true) ∧
    takerIn (hd.heap_39 p) 84 x = some none ∧ findIn (hd.heap_39 p) (.ref 84) "__setattr__" = some (some (.builtin "object.__setattr__")) ∧ plainOver (hd.heap_39 p) 84 = true := by
  intro x hx
  have e : attrsOf ("Counted" : Str) = (["cells", "vars", "log", "last", "buffer", "full", "freed", "plan", "tables"] : List Str) := by decide
  rw [e] at hx
  simp only [List.mem_cons, List.not_mem_nil, or_false] at hx
  rcases hx with rfl | rfl | rfl | rfl | rfl | rfl | rfl | rfl | rfl <;> exact ⟨by k_is, by k_is, ⟨none, by k_is, by k_is⟩, by k_is, by k_is, by k_is⟩

theorem bl_names (p : Params) : ∀ f v, (f, v) ∈ builtinsTab → nsIn (hd.heap_39 p) mainGlobals f = some none ∧ bootBuiltins f = some v ∧ f ≠ ("__name__" : Str) := by
  intro f v h
  simp only [builtinsTab, List.mem_cons, List.not_mem_nil, or_false, Prod.mk.injEq] at h
  rcases h with ⟨rfl, rfl⟩ | ⟨rfl, rfl⟩ | ⟨rfl, rfl⟩ | ⟨rfl, rfl⟩ | ⟨rfl, rfl⟩ | ⟨rfl, rfl⟩ | ⟨rfl, rfl⟩ <;> exact ⟨by k_is, by kernel_rfl, by decide⟩

theorem the_static {w : World} {h : Heap} {mg mb : Str → Option Value} {loose : List Str} {mean : ExcName → Option Value} (KX : (hd.heap_39 w.params).In h) (T : Top hd.view_39 loose mean mg mb h) : StaticOK (theCx w h mg mb) where
  nolimit := T.nolimit
  g := T.g
  b := T.b
  bl := fun f v hf => by
    obtain ⟨a, b, c⟩ := bl_names w.params f v hf
    exact ⟨mg_none_of KX T.g a, by show mb f = _; rw [T.builtins f c, b]⟩
  kin := KX
  cls := fun c C hc x hx => by
    have hc : clsTab c = some C := hc
    unfold clsTab at hc
    split at hc
    · rename_i e; subst e; cases hc; exact attr_cell w.params x hx
    · split at hc
      · rename_i e; subst e; cases hc; exact attr_counted w.params x hx
      · cases hc

theorem the_staticF {w : World} {h : Heap} {mg mb : Str → Option Value} {loose : List Str} {mean : ExcName → Option Value} (KX : (hd.heap_39 w.params).In h) (T : Top hd.view_39 loose mean mg mb h) : StaticF (theCx w h mg mb) where
  fns := fun f d _ hf => by
    have hm : d ∈ recsOf hd.view_39 := by rw [recs_same]; exact List.mem_of_find?_eq_some hf
    have hn : d.name = f := by simpa using List.find?_some hf
    obtain ⟨a, o, pm, code, doc, e1, e2, e3, e4⟩ := T.fn d hm
    refine ⟨a, hn ▸ e1, ?_, o, _, e2, e3, rfl, rfl, rfl, rfl, rfl, rfl, rfl, e4⟩
    have := List.all_eq_true.mp (recs_keep w.params) d hm
    split at this
    · rename_i v hv
      have := mg_of KX T.g hv
      rw [e1] at this; cases this
      assumption
    · cases this
  cls := fun c a b sc hc hi => by
    rw [Bool.or_eq_true, beq_iff_eq, beq_iff_eq] at hc
    rcases hc with rfl | rfl
    · obtain ⟨o, ho, fd, b', h1, h2, h3, h4, h5, h6, h7, h8⟩ := cell_spec w.params
      rw [h2] at hi; cases hi
      exact ⟨63, 60, by show clsTab ("Cell" : Str) = some 63; decide, mg_of KX T.g (cell_name _), cell_keep _, cell_makes _, cell_init _, cell_fn _, o, fd, KX _ _ ho, h1, rfl, h3, h4, rfl, h5, h6, h7, codeRec_of KX h8⟩
    · obtain ⟨o, ho, fd, b', h1, h2, h3, h4, h5, h6, h7, h8⟩ := counted_spec w.params
      rw [h2] at hi; cases hi
      exact ⟨84, 81, by show clsTab ("Counted" : Str) = some 84; decide, mg_of KX T.g (counted_name _), counted_keep _, counted_makes _, counted_init _, counted_fn _, o, fd, KX _ _ ho, h1, rfl, h3, h4, rfl, h5, h6, h7, codeRec_of KX h8⟩
end
/-! AS28 -/
section
set_option maxRecDepth 100000
set_option maxHeartbeats 8000000
open PySem PySem.W PyProof.Rows PySem.Calls

open Classical in
noncomputable def whC {α β : Type} (step : α → Option (Sum α β)) (x : α) : Option β := if h : ∃ b k, whN step k x = some b then some h.choose else none
theorem whC_snd {α β : Type} {step : α → Option (Sum α β)} {x : α} {b : β} (h : whC step x = some b) : ∃ k, whN step k x = some b := by
  unfold whC at h
  split at h
  · rename_i q; cases h; exact q.choose_spec
  · cases h
theorem whN_det {α β : Type} {step : α → Option (Sum α β)} : ∀ {k k' : Nat} {x : α} {b b' : β}, whN step k x = some b → whN step k' x = some b' → b = b'
  | 0, _, _, _, _, h, _ => by cases h
  | _ + 1, 0, _, _, _, _, h => by cases h
  | k + 1, k' + 1, x, b, b', h, h' => by
    unfold whN at h h'
    cases e : step x with
    | none => rw [e] at h; cases h
    | some y =>
      rw [e] at h h'
      cases y with
      | inl y => exact whN_det (k := k) (k' := k') h h'
      | inr c => cases h; cases h'; rfl
theorem whC_of {α β : Type} {step : α → Option (Sum α β)} {x : α} {b : β} {k : Nat} (h : whN step k x = some b) : whC step x = some b := by
  unfold whC
  have q : ∃ b k, whN step k x = some b := ⟨b, k, h⟩
  rw [dif_pos q]
  obtain ⟨k', hk'⟩ := q.choose_spec
  exact congrArg some (whN_det hk' h)

def lawFn : Option DefRec := fnOfTab "law"
def lawRest : List Stmt := (lawFn.map fun d => d.body.drop 1).getD []
def lawScope : Scope := (lawFn.map fun d => d.scope).getD default

/-- the script, as the abstract heap has it -/
def scriptSt (xs : List Int) : ASt := { next := 1, get := fun _ => ⟨0, .list (xs.map AVal.int)⟩ }

theorem ints_vrels {X : Cx} {h : Heap} {loc : Nat → Addr} {N : Nat} : ∀ {vs : List Value} {xs : List Int}, IntsAre vs xs → VRels X h loc N vs (xs.map AVal.int) := by
  intro vs xs hI
  induction hI with
  | nil => exact .nil
  | cons k t _ ih => exact .cons (.int k t) ih

theorem lawScope_names : (lawScope.names.all fun p => match p.2 with | .cell => false | .free => false | _ => true) = true := by kernel_rfl

theorem law_run {w : World} {h h₁ : Heap} {mg mb : Str → Option Value} {loose : List Str} {mean : ExcName → Option Value} (KX : (hd.heap_39 w.params).In h) (T : Top hd.view_39 loose mean mg mb h) {env : Env} {m : Str → Option Value} {s : Shared} (hs : s.heap = h₁) {A : Around} {N : Nat} (Rm : Room A N)
    (hsc : env.scope = lawScope) (hgl : env.globals = mainGlobals) (hbl : env.builtins = builtinsNs) (hce : env.cells = []) (F : Fr h env.locals h₁ m) {la : Addr} {vals : List Value} {xs : List Int} (hm : m "script" = some (.ref la)) (hL : h₁.IsList la vals.toArray) (hI : IntsAre vals xs) (hz : xs.length ≤ 63)
    {p1 p2 p3 p4 p5 p6 : Pos} {kd : Nat} {ae' : AEnv} {st' : ASt} (H : exs (R whC N) lawRest { sc := lawScope, vars := [("script", .obj 0)] } (scriptSt xs) = some ((.ret (.bool true), ae'), st'))
    {Q : Flow → Shared → Prop} {E : Value → Shared → Prop} (hQ : ∀ s', (∃ m, s'.heap.Ns env.locals m) → (∀ b o, h.get? b = some o → s'.heap.get? b = some o) → s'.gens = s.gens → s'.os = s.os → Q (.ret (.bool true)) s') :
    wpAny (model PW w) A (execs (.Assign [.Name "script" p1] (.Subscript (.Name "script" p2) (.Slice none (some (.Constant (.int 63) kd p3)) none p4) p5) p6 :: lawRest) env) Q E s := by
  subst hs
  have k1 : env.scope.kind = .function := by rw [hsc]; rfl
  have k2 : env.kindOf "script" = some .local := by show env.scope.names.lookup ("script" : Str) = _; rw [hsc]; rfl
  refine wpAny_execs_cons (wpAny_Assign_Name (Subscript_ (wpAny_Name (wpAny_loadName_local k1 k2 F.ns hm ?_) (by decide))) rfl)
  refine wpAny_Slice (wpAny_pure (wpAny_Constant_int (k := kd) (pos := p3) (wpAny_pure ?_)))
  obtain ⟨ol, hol, hcl, nl, hdl⟩ := hL
  have hold : ∀ b o, s.heap.get? b = some o → (s.heap.push { cls := .type "slice", data := .fields #[.none, .int 63 s.toks, .none] }).get? b = some o := fun b o e => Heap.get?_push_of_some _ e
  have hlen : vals.length = xs.length := (ints_vrels (X := theCx w h mg mb) (h := h) (loc := fun _ => 0) (N := 0) hI).length.trans (by simp)
  refine tail_any (s := { s with heap := s.heap.push { cls := .type "slice", data := .fields #[.none, .int 63 s.toks, .none] }, toks := s.toks + 1 }) (ops := [.ref s.heap.objs.size, .ref la]) (T := "list") ⟨_, hold _ _ hol, hcl⟩ PySem.F.slot_list_getitem.lookup ?_ rfl
  refine wpAny_getItem_list_slice (items := vals.toArray) ⟨ol, hold _ _ hol, hcl, nl, hdl⟩ (Heap.IsSliceOf.new _ _ _ _) .none (.int 63 s.toks) .none (by intro q; cases q) ?_ (by rw [List.size_toArray, hlen]; exact Nat.le_trans (by omega) million)
  have e : slicePick vals.toArray none (some 63) none = vals.toArray := by
    have := slicePick_upto' vals.toArray 63
    rw [show ((63 : Nat) : Int) = (63 : Int) from rfl] at this
    rw [this, List.toList_toArray, List.take_of_length_le (by omega)]
  rw [e]
  have hkp : (env.scope.kind == .class || (env.scope.kind == .module && env.locals != env.globals)) = false := by rw [k1]; rfl
  obtain ⟨oL, esL, epL, hoL, hdL, hL2⟩ := F.ns
  have hold2 : ∀ b o, s.heap.get? b = some o → ((s.heap.push { cls := .type "slice", data := .fields #[.none, .int 63 s.toks, .none] }).push { cls := .type "list", data := .seq vals.toArray }).get? b = some o := fun b o e => Heap.get?_push_of_some _ (hold b o e)
  have hnew := Heap.get?_push_size (s.heap.push { cls := .type "slice", data := .fields #[.none, .int 63 s.toks, .none] }) (o := { cls := .type "list", data := .seq vals.toArray }) rfl
  have hnone : ∀ b, s.heap.objs.size ≤ b → s.heap.get? b = none := fun b hb => none_ge _ hb
  generalize hD : (s.heap.push { cls := .type "slice", data := .fields #[.none, .int 63 s.toks, .none] }).objs.size = D at hnew ⊢
  rw [Heap.size_push] at hD
  have hDn : s.heap.get? D = none := hnone _ (by omega)
  generalize hH : (s.heap.push { cls := .type "slice", data := .fields #[.none, .int 63 s.toks, .none] }).push { cls := .type "list", data := .seq vals.toArray } = H2 at hold2 hnew ⊢
  refine wpAny_storeName_local k2 ⟨oL, esL, epL, hold2 _ _ hoL, hdL, hL2⟩ (fun h' hn hsb => ?_) hkp
  dsimp only
  have hDL : D ≠ env.locals := fun q => by rw [q, hoL] at hDn; cases hDn
  have hD' := hsb.extBut D _ hDL hnew
  have base : ∀ b o, h.get? b = some o → h'.get? b = some o := fun b o e => hsb.extBut b o (fun q => by
    have h1 := Heap.lt_size e
    have h2 := F.above
    rw [q] at h1; exact Nat.lt_irrefl _ (Nat.lt_of_lt_of_le h1 h2)) (hold2 b o (F.keep b o e))
  have hz0 : h.get? D = none := by
    cases e : h.get? D with
    | none => rfl
    | some o => have := F.keep _ _ e; rw [hDn] at this; cases this
  have G : OK (theCx w h mg mb) { s with heap := h', toks := s.toks + 1 + 1 } (fun _ => D) (scriptSt xs) := by
    refine ⟨base, fun i hi => hz0, fun i j hi hj _ => ?_, fun i hi => ⟨vals, _, hD', ints_vrels hI⟩⟩
    have : i < 1 := hi
    have : j < 1 := hj
    omega
  have nocell : ∀ x, env.kindOf x ≠ some .cell ∧ env.kindOf x ≠ some .free := fun x => by
    have e : env.kindOf x = lawScope.names.lookup x := by show env.scope.names.lookup x = _; rw [hsc]
    rw [e]
    have key := List.all_eq_true.mp lawScope_names
    refine ⟨fun q => ?_, fun q => ?_⟩
    · have := key _ (mem_of_lookup q); cases this
    · have := key _ (mem_of_lookup q); cases this
  have V : EnvOK (theCx w h mg mb) env { sc := lawScope, vars := [("script", .obj 0)] } h' (fun _ => D) (scriptSt xs).next := by
    refine ⟨k1, hgl, hbl, fun x k hx => .inl (by show env.scope.names.lookup x = _; rw [hsc]; exact hx), ⟨_, hn, fun x a hx _ => ?_⟩, fun x hx => ?_, fun x y c hx _ => ?_, fun i _ => hDL, ?_, fun x c hx => ?_, fun x c hx => ?_⟩
    · have hx : List.lookup x [(("script" : Str), AVal.obj 0)] = some a := hx
      rw [List.lookup_cons] at hx
      split at hx
      · rename_i q
        cases hx
        have q : x = ("script" : Str) := by simpa using q
        exact ⟨.ref D, if_pos q, VRel.obj (loc := fun _ => D) (id := 0) (Nat.zero_lt_one)⟩
      · cases hx
    · rcases hx with q | q
      · exact absurd q (nocell x).1
      · exact absurd q (nocell x).2
    · rw [hce] at hx; cases hx
    · show h.get? env.locals = none
      exact none_ge _ F.above
    · rw [hce] at hx; cases hx
    · rw [hce] at hx; cases hx
  refine exs_snd (snd_R (X := theCx w h mg mb) (the_static KX T) (the_staticF KX T) whC_snd N) H Rm G V fun fl s' loc' G' x' V' f' => ?_
  cases f' with
  | ret rv =>
    cases rv
    exact hQ s' (let ⟨m, hm, _⟩ := V'.ns; ⟨m, hm⟩) G'.base x'.gens x'.os
end
/-! AS29 -/
section
set_option maxRecDepth 100000
set_option maxHeartbeats 8000000
open PySem PySem.W PyProof.Rows PySem.Calls

theorem law_run' {w : World} {h h₁ : Heap} {mg mb : Str → Option Value} {loose : List Str} {mean : ExcName → Option Value} (KX : (hd.heap_39 w.params).In h) (T : Top hd.view_39 loose mean mg mb h) {env : Env} {m : Str → Option Value} {s : Shared} (hs : s.heap = h₁) {A : Around} {N : Nat} (Rm : Room A N)
    {body : List Stmt} {p1 p2 p3 p4 p5 p6 : Pos} {kd : Nat} (hB : body = .Assign [.Name "script" p1] (.Subscript (.Name "script" p2) (.Slice none (some (.Constant (.int 63) kd p3)) none p4) p5) p6 :: lawRest)
    (hsc : env.scope = lawScope) (hgl : env.globals = mainGlobals) (hbl : env.builtins = builtinsNs) (hce : env.cells = []) (F : Fr h env.locals h₁ m) {la : Addr} {vals : List Value} {xs : List Int} (hm : m "script" = some (.ref la)) (hL : h.IsList la vals.toArray) (hI : IntsAre vals xs) (hz : xs.length ≤ 63)
    (H : ∃ ae' st', exs (R whC N) lawRest { sc := lawScope, vars := [("script", .obj 0)] } (scriptSt xs) = some ((.ret (.bool true), ae'), st'))
    {Q : Flow → Shared → Prop} {E : Value → Shared → Prop} (hQ : ∀ s', (∃ m, s'.heap.Ns env.locals m) → (∀ b o, h.get? b = some o → s'.heap.get? b = some o) → s'.gens = s.gens → s'.os = s.os → Q (.ret (.bool true)) s') :
    wpAny (model PW w) A (execs body env) Q E s := by
  subst hB
  obtain ⟨ae', st', H⟩ := H
  exact law_run KX T hs Rm hsc hgl hbl hce F hm (hL.at fun o e => F.keep _ _ e) hI hz H hQ

theorem room60 (env : Env) : Room (callerA.deeper env) 60 := ⟨rfl, by
  have : (callerA.deeper env).depth = 302 := rfl
  rw [this]; decide, by
  have : (callerA.deeper env).units = 7 := rfl
  rw [this]; decide⟩

theorem reduce (H : ∀ xs : List Int, xs.length ≤ 63 → ∃ ae' st', exs (R whC 60) lawRest { sc := lawScope, vars := [("script", .obj 0)] } (scriptSt xs) = some ((.ret (.bool true), ae'), st')) : PySem.Challenge.rw_pf0208_01.Holds := hd (by
  k_go0
  rename_i w s₀ s₁ mg mb G Y fa o pm doc kV ho hg KX Xx V GL T B TE TW wa wo M wc wm hcd xs hs hlay0 hL1 hr1 hl2 as1 as2 la vals as3 hL ra w1 r0 hI hr hcond1 hcond2 K0 hD h₁ F N0
  refine law_run' (p1 := ⟨368, 4, 368, 10⟩) (p2 := ⟨368, 13, 368, 19⟩) (p3 := ⟨368, 21, 368, 23⟩) (p4 := ⟨368, 20, 368, 23⟩) (p5 := ⟨368, 13, 368, 24⟩) (p6 := ⟨368, 4, 368, 24⟩) (kd := 0) KX T rfl (room60 _) (by kernel_rfl) (by kernel_rfl) rfl rfl rfl F rfl hL hI (by omega) (H xs (by omega)) fun s' hm keep hg' ho' => ?_
  obtain ⟨m', hm⟩ := hm
  refine goodW_bool (L := s₁.heap.objs.size) ⟨hm, keep, F.above⟩ (hg'.trans hg) ?_ ?_ ho'
  · intro cls
    first | rfl | (simp; done) | kernel_rfl
  · first | rfl | (simp; done) | kernel_rfl)
end
end Mine
namespace Mine
open PySem PySem.W PyProof.Rows
/-! P1 -/
section
set_option maxRecDepth 100000

def wp {α : Type} (m : M α) (st : ASt) (Q : α → ASt → Prop) : Prop := ∃ a st', m st = some (a, st') ∧ Q a st'

section
variable {α β : Type} {st : ASt}
theorem wp_pure {a : α} {Q : α → ASt → Prop} (h : Q a st) : wp (pure a) st Q := ⟨a, st, rfl, h⟩
theorem wp_bind {m : M α} {f : α → M β} {Q : β → ASt → Prop} (h : wp m st fun a st' => wp (f a) st' Q) : wp (m >>= f) st Q := by
  obtain ⟨a, st', e, b, st'', e', q⟩ := h
  exact ⟨b, st'', by show (m st >>= fun x => f x.1 x.2) = _; rw [e]; exact e', q⟩
theorem wp_of {m : M α} {a : α} {st' : ASt} {Q : α → ASt → Prop} (h : m st = some (a, st')) (q : Q a st') : wp m st Q := ⟨a, st', h, q⟩
theorem wp_mono {m : M α} {Q Q' : α → ASt → Prop} (h : wp m st Q) (k : ∀ a st', Q a st' → Q' a st') : wp m st Q' := by
  obtain ⟨a, st', e, q⟩ := h
  exact ⟨a, st', e, k _ _ q⟩
theorem wp_opt {x : Option α} {a : α} {Q : α → ASt → Prop} (h : x = some a) (q : Q a st) : wp (opt x) st Q := ⟨a, st, by subst h; rfl, q⟩
theorem wp_true {c : Prop} [Decidable c] {a b : M α} {Q : α → ASt → Prop} (h : c) (q : wp a st Q) : wp (if c then a else b) st Q := by rw [if_pos h]; exact q
theorem wp_false {c : Prop} [Decidable c] {a b : M α} {Q : α → ASt → Prop} (h : ¬ c) (q : wp b st Q) : wp (if c then a else b) st Q := by rw [if_neg h]; exact q
end

theorem wp_guard {α : Type} {st : ASt} {b : Bool} {a : M α} {Q : α → ASt → Prop} (h : b = true) (q : wp a st Q) : wp (if !b then fail else a) st Q := by rw [h]; exact q
/-- the object at id is o -/
def ASt.Ob (st : ASt) (id : Nat) (o : AObj) : Prop := id < st.next ∧ st.get id = o
def ASt.At (st : ASt) (id : Nat) (d : AData) : Prop := id < st.next ∧ (st.get id).data = d

theorem ASt.Ob.at {st : ASt} {id : Nat} {o : AObj} (h : st.Ob id o) : st.At id o.data := ⟨h.1, by rw [h.2]⟩
theorem wp_getD {st : ASt} {id : Nat} {d : AData} {Q : AData → ASt → Prop} (h : st.At id d) (q : Q d st) : wp (getD id) st Q :=
  ⟨d, st, by unfold getD ASt.obj?; rw [if_pos h.1, ← h.2]; rfl, q⟩
theorem wp_putD {st : ASt} {id : Nat} {d : AData} {Q : Unit → ASt → Prop} (h : id < st.next) (q : Q () (st.put id d)) : wp (putD id d) st Q :=
  ⟨(), _, by unfold putD; rw [if_pos h], q⟩
theorem wp_newD {st : ASt} {d : AData} {Q : Nat → ASt → Prop} (q : Q st.next (st.new d)) : wp (newD d) st Q := ⟨_, _, rfl, q⟩

section
variable {wh : ((AEnv × ASt) → Option (Sum (AEnv × ASt) ((Out × AEnv) × ASt))) → AEnv × ASt → Option ((Out × AEnv) × ASt)} {n : Nat} {env : AEnv} {st : ASt}
variable {p q : Pos} {x : Str} {Q : AVal → ASt → Prop} {r : Rec}

theorem evs_nil {Q : List AVal → ASt → Prop} (q : Q [] st) : wp (evs r env []) st Q := wp_pure q
theorem evs_cons {e : Expr} {es : List Expr} {Q : List AVal → ASt → Prop} (h : wp (r.ev e env) st fun v st' => wp (evs r env es) st' fun vs st'' => Q (v :: vs) st'') : wp (evs r env (e :: es)) st Q :=
  wp_bind (wp_mono h fun _ _ k => wp_bind (wp_mono k fun _ _ q => wp_pure q))

theorem ev_const {c : Const} {k : Nat} {v : AVal} (h : constA c = some v) (q : Q v st) : wp ((R wh (n + 1)).ev (.Constant c k p) env) st Q := wp_opt h q
theorem ev_name {v : AVal} (hb : badName x = false) (hg : env.get x = some v) (q : Q v st) : wp ((R wh (n + 1)).ev (.Name x p) env) st Q := by
  show wp (if badName x then fail else opt (env.get x)) st Q
  rw [hb]; exact wp_opt hg q
theorem ev_tuple {es : List Expr} {c : Nat} (h : (es.all notStar && decide (es.length ≤ 1000000)) = true) (k : wp (evs (R wh n) env es) st fun vs st' => Q (.tup vs) st') : wp ((R wh (n + 1)).ev (.Tuple es c p) env) st Q := by
  show wp (if !(es.all notStar && decide (es.length ≤ 1000000)) then fail else do let vs ← evs (R wh n) env es; pure (.tup vs)) st Q
  rw [h]; exact wp_bind (wp_mono k fun a st' q => wp_pure q)
theorem ev_list {es : List Expr} (h : (es.all notStar && decide (es.length ≤ 1000000)) = true) (k : wp (evs (R wh n) env es) st fun vs st' => wp (newD (.list vs)) st' fun id st'' => Q (.obj id) st'') : wp ((R wh (n + 1)).ev (.List es p) env) st Q := by
  show wp (if !(es.all notStar && decide (es.length ≤ 1000000)) then fail else do let vs ← evs (R wh n) env es; let id ← newD (.list vs); pure (.obj id)) st Q
  rw [h]; exact wp_bind (wp_mono k fun a st' q => wp_bind (wp_mono q fun a st' q => wp_pure q))
theorem ev_attr {o : Expr} {a : Str} (h : notSuper o = true) (k : wp ((R wh n).ev o env) st fun ov st' => wp (attrGet ov a) st' Q) : wp ((R wh (n + 1)).ev (.Attribute o a p) env) st Q := by
  show wp (if !notSuper o then fail else do let ov ← (R wh n).ev o env; attrGet ov a) st Q
  rw [h]; exact wp_bind k
theorem ev_sub {o i : Expr} (h : notSlice i = true) (k : wp ((R wh n).ev o env) st fun ov st' => wp ((R wh n).ev i env) st' fun iv st'' => wp (itemGet ov iv) st'' Q) : wp ((R wh (n + 1)).ev (.Subscript o i p) env) st Q := by
  have e : (R wh (n + 1)).ev (.Subscript o i p) env = (if !notSlice i then fail else ((R wh n).ev o env >>= fun ov => (R wh n).ev i env >>= fun iv => itemGet ov iv)) := by
    cases i <;> first | rfl | cases h
  rw [e]; exact wp_guard h (wp_bind (wp_mono k fun a st' q => wp_bind q))
theorem ev_bin {l rr : Expr} {op : Operator} (k : wp ((R wh n).ev l env) st fun a st' => wp ((R wh n).ev rr env) st' fun b st'' => wp (bin op a b) st'' Q) : wp ((R wh (n + 1)).ev (.BinOp l op rr p) env) st Q :=
  wp_bind (wp_mono k fun _ _ q => wp_bind q)
theorem ev_un {l : Expr} {op : UnaryOp} (k : wp ((R wh n).ev l env) st fun a st' => wp (unary op a) st' Q) : wp ((R wh (n + 1)).ev (.UnaryOp op l p) env) st Q :=
  wp_bind k
theorem ev_bool {es : List Expr} {op : BoolOp} (k : wp (boolA (R wh n) env op es) st Q) : wp ((R wh (n + 1)).ev (.BoolOp op es p) env) st Q := k
theorem boolA_one {e : Expr} {op : BoolOp} (k : wp (r.ev e env) st Q) : wp (boolA r env op [e]) st Q := k
theorem boolA_and {e e' : Expr} {es : List Expr} (k : wp (r.ev e env) st fun v st' => wp (truth v) st' fun t st'' => (t = true → wp (boolA r env .And (e' :: es)) st'' Q) ∧ (t = false → Q v st'')) : wp (boolA r env .And (e :: e' :: es)) st Q :=
  wp_bind (wp_mono k fun v st' q => wp_bind (wp_mono q fun t st'' q => by
    cases t
    · exact wp_pure (q.2 rfl)
    · exact q.1 rfl))
theorem boolA_or {e e' : Expr} {es : List Expr} (k : wp (r.ev e env) st fun v st' => wp (truth v) st' fun t st'' => (t = false → wp (boolA r env .Or (e' :: es)) st'' Q) ∧ (t = true → Q v st'')) : wp (boolA r env .Or (e :: e' :: es)) st Q :=
  wp_bind (wp_mono k fun v st' q => wp_bind (wp_mono q fun t st'' q => by
    cases t
    · exact q.1 rfl
    · exact wp_pure (q.2 rfl)))
theorem ev_cmp {l x : Expr} {op : CmpOp} (h : behindInMarks op x = false) (k : wp ((R wh n).ev l env) st fun a st' => wp ((R wh n).ev x env) st' fun b st'' => wp (cmp op a b) st'' fun c st''' => Q (.bool c) st''') : wp ((R wh (n + 1)).ev (.Compare l [op] [x] p) env) st Q := by
  show wp (if behindInMarks op x then fail else do
    let a ← (R wh n).ev l env
    let b ← (R wh n).ev x env
    let c ← cmp op a b
    pure (.bool c)) st Q
  rw [h]; exact wp_bind (wp_mono k fun _ _ q => wp_bind (wp_mono q fun _ _ q => wp_bind (wp_mono q fun _ _ q => wp_pure q)))
theorem ev_if {t b o : Expr} (k : wp ((R wh n).ev t env) st fun v st' => wp (truth v) st' fun c st'' => (c = true → wp ((R wh n).ev b env) st'' Q) ∧ (c = false → wp ((R wh n).ev o env) st'' Q)) : wp ((R wh (n + 1)).ev (.IfExp t b o p) env) st Q :=
  wp_bind (wp_mono k fun v st' q => wp_bind (wp_mono q fun t st'' q => by
    cases t
    · exact q.2 rfl
    · exact q.1 rfl))
theorem ev_comp {elt : Expr} {g : Comprehension} {sc : Scope} (h : (notSet g.iter && g.is_async == 0 && compOk sc env.sc) = true)
  (k : wp (srcOf (R wh n) env g.iter) st fun src st' => tgtOk src g.target = true ∧ wp (srcItems src) st' fun items st'' => items.length ≤ 1000000 ∧ wp (compLoop (R wh n) src (src.watch st'') g.target elt g.ifs items (compEnvA sc env)) st'' fun ys st3 => wp (newD (.list ys)) st3 fun id st4 => Q (.obj id) st4) : wp ((R wh (n + 1)).ev (.ListComp elt [g] sc p) env) st Q := by
  show wp (if !(notSet g.iter && g.is_async == 0 && compOk sc env.sc) then fail else _) st Q
  rw [h]
  exact wp_bind (wp_mono k fun src _ q => wp_bind (wp_mono q.2 fun items st2 q2 => wp_bind (wp_of (a := src.watch st2) rfl (wp_bind (wp_mono q2.2 fun ys st3 q' => wp_true (by rw [q.1]; simp; exact q2.1) (wp_bind (wp_mono q' fun _ _ q => wp_pure q)))))))
theorem ev_list_call {e' : Expr} {f : Str} {q : Pos} (hf : f = "list") (h : (isGlob env f && [e'].all notStar && decide (([e'] : List Expr).length < 8)) = true) (hs : notStar e' = true)
  (k : wp (srcOf (R wh n) env e') st fun src st' => listable src = true ∧ wp (srcItems src) st' fun l st'' => l.length ≤ 1000000 ∧ wp (newD (.list l)) st'' fun id st3 => Q (.obj id) st3) : wp ((R wh (n + 1)).ev (.Call (.Name f q) [e'] [] p) env) st Q := by
  subst hf
  show wp (if !(isGlob env "list" && [e'].all notStar && decide (([e'] : List Expr).length < 8)) then fail else if ("list" : Str) == "list" then _ else _) st Q
  exact wp_guard h (wp_true (by decide +kernel) (wp_bind (wp_mono k fun src st' q => wp_bind (wp_mono q.2 fun l st2 q2 => wp_true (by rw [q.1, hs]; simp; exact q2.1) (wp_bind (wp_mono q2.2 fun _ _ q => wp_pure q))))))
theorem ev_builtin {e' : Expr} {f : Str} {q : Pos} (hf : (f == ("list" : Str)) = false ∧ builtin1 f = true) (h : (isGlob env f && [e'].all notStar && decide (([e'] : List Expr).length < 8)) = true)
  (k : wp ((R wh n).ev e' env) st fun v st' => wp (builtinA f v) st' Q) : wp ((R wh (n + 1)).ev (.Call (.Name f q) [e'] [] p) env) st Q := by
  show wp (if !(isGlob env f && [e'].all notStar && decide (([e'] : List Expr).length < 8)) then fail else if f == "list" then _ else if builtin1 f then _ else _) st Q
  exact wp_guard h (wp_false (by rw [hf.1]; decide) (wp_true hf.2 (wp_bind k)))
theorem ev_call {args : List Expr} {f : Str} {q : Pos} (hf : (f == ("list" : Str)) = false ∧ builtin1 f = false) (h : (isGlob env f && args.all notStar && decide (args.length < 8)) = true)
  (k : wp (evs (R wh n) env args) st fun vs st' => wp ((R wh n).call f vs) st' Q) : wp ((R wh (n + 1)).ev (.Call (.Name f q) args [] p) env) st Q := by
  show wp (if !(isGlob env f && args.all notStar && decide (args.length < 8)) then fail else if f == "list" then _ else if builtin1 f then _ else _) st Q
  exact wp_guard h (wp_false (by rw [hf.1]; decide) (wp_false (by rw [hf.2]; decide) (wp_bind k)))
theorem ev_meth {o : Expr} {m : Str} {args : List Expr} {apos : Pos} (h : (notSuper o && args.all notStar && decide (args.length < 8) && apos.endLine == p.line) = true)
  (k : wp ((R wh n).ev o env) st fun ov st' => ∃ id, ov = .obj id ∧ ((∃ l, st'.At id (.list l)) ∧ wp (evs (R wh n) env args) st' (fun vs st'' => wp (methL id m vs) st'' Q) ∨ (∃ l, st'.At id (.idict l)) ∧ wp (evs (R wh n) env args) st' (fun vs st'' => wp (methI id m vs) st'' Q))) : wp ((R wh (n + 1)).ev (.Call (.Attribute o m apos) args [] p) env) st Q := by
  show wp (if !(notSuper o && args.all notStar && decide (args.length < 8) && apos.endLine == p.line) then fail else _) st Q
  rw [h]
  refine wp_bind (wp_mono k ?_)
  rintro _ st' ⟨id, rfl, ⟨⟨l, hl⟩, k⟩ | ⟨⟨l, hl⟩, k⟩⟩
  · exact wp_bind (wp_getD hl (wp_bind k))
  · exact wp_bind (wp_getD hl (wp_bind k))
theorem ev_upto {o u : Expr} {q2 : Pos} (k : wp ((R wh n).ev o env) st fun ov st' => wp ((R wh n).ev u env) st' fun uv st'' => ∃ id i l, ov = .obj id ∧ uv = .int i ∧ st''.At id (.list l) ∧ (0 ≤ i ∧ i ≤ 1000 ∧ l.length ≤ 1000000) ∧ wp (newD (.list (l.take i.toNat))) st'' fun id st3 => Q (.obj id) st3) : wp ((R wh (n + 1)).ev (.Subscript o (.Slice none (some u) none q2) p) env) st Q := by
  refine wp_bind (wp_mono k fun _ _ k => wp_bind (wp_mono k ?_))
  rintro _ st'' ⟨id, i, l, rfl, rfl, hl, hc, k⟩
  exact wp_bind (wp_getD hl (wp_true hc (wp_bind (wp_mono k fun _ _ q => wp_pure q))))
theorem ev_back {o s : Expr} {q2 : Pos} (k : wp ((R wh n).ev o env) st fun ov st' => wp ((R wh n).ev s env) st' fun uv st'' => ∃ id l, ov = .obj id ∧ uv = .int (-1) ∧ st''.At id (.list l) ∧ l.length ≤ 1000000 ∧ wp (newD (.list l.reverse)) st'' fun id st3 => Q (.obj id) st3) : wp ((R wh (n + 1)).ev (.Subscript o (.Slice none none (some s) q2) p) env) st Q := by
  refine wp_bind (wp_mono k fun _ _ k => wp_bind (wp_mono k ?_))
  rintro _ st'' ⟨id, l, rfl, rfl, hl, hc, k⟩
  exact wp_bind (wp_getD hl (wp_true ⟨rfl, hc⟩ (wp_bind (wp_mono k fun _ _ q => wp_pure q))))

/-! statements -/
variable {P : Out × AEnv → ASt → Prop} {rest : List Stmt}
theorem exs_nil (q : P (.next, env) st) : wp (exs r [] env) st P := wp_pure q
theorem exs_cons {s : Stmt} (k : wp (r.ex s env) st fun x st' => match x.1 with | .next => wp (exs r rest x.2) st' P | .ret v => P (.ret v, x.2) st') : wp (exs r (s :: rest) env) st P :=
  wp_bind (wp_mono k fun x st' q => by
    obtain ⟨o, env'⟩ := x
    cases o
    · exact q
    · exact wp_pure q)
theorem st_expr {e : Expr} (h : notComp e = true) (k : wp ((R wh n).ev e env) st fun _ st' => wp (exs (R wh (n + 1)) rest env) st' P) : wp (exs (R wh (n + 1)) (.Expr e p :: rest) env) st P := by
  refine exs_cons ?_
  show wp (if !notComp e then fail else (do let _ ← (R wh n).ev e env; pure (Out.next, env) : M (Out × AEnv))) st _
  exact wp_guard h (wp_bind (wp_mono k fun _ _ k => wp_pure k))
theorem st_ret {e : Expr} (k : wp ((R wh n).ev e env) st fun v st' => P (.ret v, env) st') : wp (exs (R wh (n + 1)) (.Return (some e) p :: rest) env) st P :=
  exs_cons (wp_bind (wp_mono k fun _ _ k => wp_pure k))
theorem st_ret0 (k : P (.ret .none, env) st) : wp (exs (R wh (n + 1)) (.Return none p :: rest) env) st P :=
  exs_cons (wp_pure k)
theorem st_assign {t e : Expr} (h : (pairOk t e && notSD e) = true) (k : wp ((R wh n).ev e env) st fun v st' => wp (assignT (R wh n) t env v) st' fun env' st'' => wp (exs (R wh (n + 1)) rest env') st'' P) : wp (exs (R wh (n + 1)) (.Assign [t] e p :: rest) env) st P := by
  refine exs_cons ?_
  show wp (if !(pairOk t e && notSD e) then fail else _) st _
  exact wp_guard h (wp_bind (wp_mono k fun _ _ k => wp_bind (wp_mono k fun _ _ k => wp_pure k)))
theorem st_aug_attr {o e : Expr} {a : Str} {op : Operator} {q : Pos} (k : wp ((R wh n).ev o env) st fun ov st' => wp (attrGet ov a) st' fun old st'' => wp ((R wh n).ev e env) st'' fun v st3 => wp (aug op old v) st3 fun new st4 => wp (attrSet ov a new) st4 fun _ st5 => wp (exs (R wh (n + 1)) rest env) st5 P) : wp (exs (R wh (n + 1)) (.AugAssign (.Attribute o a q) op e p :: rest) env) st P :=
  exs_cons (wp_bind (wp_mono k fun _ _ k => wp_bind (wp_mono k fun _ _ k => wp_bind (wp_mono k fun _ _ k => wp_bind (wp_mono k fun _ _ k => wp_bind (wp_mono k fun _ _ k => wp_pure k))))))
theorem st_aug_sub {o i e : Expr} {op : Operator} {q : Pos} (h : notSlice i = true) (k : wp ((R wh n).ev o env) st fun ov st' => wp ((R wh n).ev i env) st' fun iv st' => wp (itemGet ov iv) st' fun old st'' => wp ((R wh n).ev e env) st'' fun v st3 => wp (aug op old v) st3 fun new st4 => wp (itemSet ov iv new) st4 fun _ st5 => wp (exs (R wh (n + 1)) rest env) st5 P) : wp (exs (R wh (n + 1)) (.AugAssign (.Subscript o i q) op e p :: rest) env) st P := by
  refine exs_cons ?_
  show wp (if !notSlice i then fail else _) st _
  rw [h]
  exact wp_bind (wp_mono k fun _ _ k => wp_bind (wp_mono k fun _ _ k => wp_bind (wp_mono k fun _ _ k => wp_bind (wp_mono k fun _ _ k => wp_bind (wp_mono k fun _ _ k => wp_bind (wp_mono k fun _ _ k => wp_pure k))))))
theorem st_del {o i : Expr} {q : Pos} (k : wp ((R wh n).ev o env) st fun ov st' => wp ((R wh n).ev i env) st' fun iv st' => wp (itemDel ov iv) st' fun _ st5 => wp (exs (R wh (n + 1)) rest env) st5 P) : wp (exs (R wh (n + 1)) (.Delete [.Subscript o i q] p :: rest) env) st P :=
  exs_cons (wp_bind (wp_mono k fun _ _ k => wp_bind (wp_mono k fun _ _ k => wp_bind (wp_mono k fun _ _ k => wp_pure k))))
/-- what comes behind a branch -/
def ThenP (wh : ((AEnv × ASt) → Option (Sum (AEnv × ASt) ((Out × AEnv) × ASt))) → AEnv × ASt → Option ((Out × AEnv) × ASt)) (n : Nat) (rest : List Stmt) (P : Out × AEnv → ASt → Prop) : Out × AEnv → ASt → Prop := fun x st' => match x.1 with | .next => wp (exs (R wh n) rest x.2) st' P | .ret v => P (.ret v, x.2) st'
theorem st_if {t : Expr} {b o : List Stmt} (k : wp ((R wh n).ev t env) st fun v st' => wp (truth v) st' fun c st'' => (c = true → wp (exs (R wh n) b env) st'' (ThenP wh (n + 1) rest P)) ∧ (c = false → wp (exs (R wh n) o env) st'' (ThenP wh (n + 1) rest P))) : wp (exs (R wh (n + 1)) (.If t b o p :: rest) env) st P :=
  exs_cons (wp_bind (wp_mono k fun v st' q => wp_bind (wp_mono q fun t st'' q => by
    cases t
    · exact q.2 rfl
    · exact q.1 rfl)))
theorem st_for {t e : Expr} {b : List Stmt} (h : notSet e = true) (k : wp (srcOf (R wh n) env e) st fun src st' => tgtOk src t = true ∧ wp (srcItems src) st' fun items st'' => wp (forLoop (R wh n) src (src.watch st'') t b items env) st'' (ThenP wh (n + 1) rest P)) : wp (exs (R wh (n + 1)) (.For t e b [] p :: rest) env) st P := by
  refine exs_cons ?_
  show wp (if !notSet e then fail else _) st _
  rw [h]
  exact wp_bind (wp_mono k fun src st' q => wp_bind (wp_mono q.2 fun items st2 q2 => wp_bind (wp_of (a := src.watch st2) rfl (wp_true q.1 q2))))
theorem then_next (k : wp (exs (R wh n) rest env) st P) : ThenP wh n rest P (.next, env) st := k
theorem then_ret {v : AVal} (k : P (.ret v, env) st) : ThenP wh n rest P (.ret v, env) st := k

/-! targets -/
variable {E : AEnv → ASt → Prop}
theorem as_name {v : AVal} {env' : AEnv} (h : env.set x v = some env') (q : E env' st) : wp (assignT r (.Name x p) env v) st E := wp_opt h q
theorem as_attr {o : Expr} {a : Str} {v : AVal} (k : wp (r.ev o env) st fun ov st' => wp (attrSet ov a v) st' fun _ st'' => E env st'') : wp (assignT r (.Attribute o a p) env v) st E :=
  wp_bind (wp_mono k fun _ _ k => wp_bind (wp_mono k fun _ _ k => wp_pure k))
theorem as_sub {o i : Expr} {v : AVal} (k : wp (r.ev o env) st fun ov st' => wp (r.ev i env) st' fun iv st' => wp (itemSet ov iv v) st' fun _ st'' => E env st'') : wp (assignT r (.Subscript o i p) env v) st E :=
  wp_bind (wp_mono k fun _ _ k => wp_bind (wp_mono k fun _ _ k => wp_bind (wp_mono k fun _ _ k => wp_pure k)))
theorem as_tup {ts : List Expr} {c : Nat} {vs : List AVal} (k : wp (bindTs r ts env vs) st E) : wp (assignT r (.Tuple ts c p) env (.tup vs)) st E := k
theorem bts_nil (q : E env st) : wp (bindTs r [] env []) st E := wp_pure q
theorem bts_name {ts : List Expr} {v : AVal} {vs : List AVal} {env' : AEnv} (h : env.set x v = some env') (q : wp (bindTs r ts env' vs) st E) : wp (bindTs r (.Name x p :: ts) env (v :: vs)) st E := wp_bind (wp_opt h q)
theorem bts_attr {o : Expr} {a : Str} {ts : List Expr} {v : AVal} {vs : List AVal} (k : wp (r.ev o env) st fun ov st' => wp (attrSet ov a v) st' fun _ st'' => wp (bindTs r ts env vs) st'' E) : wp (bindTs r (.Attribute o a p :: ts) env (v :: vs)) st E :=
  wp_bind (wp_bind (wp_mono k fun _ _ k => wp_bind (wp_mono k fun _ _ k => wp_pure k)))

/-! access -/
theorem attr_get {c a : Str} {id : Nat} {l : List (Str × AVal)} {v : AVal} (h : (attrsOf c).contains a = true) (hl : st.At id (.sdict l)) (hv : getK a l = some v) (q : Q v st) : wp (attrGet (.inst c id) a) st Q := by
  show wp (if (attrsOf c).contains a then _ else _) st Q
  exact wp_true h (wp_bind (wp_getD hl (wp_opt hv q)))
theorem attr_set {U : Unit → ASt → Prop} {c a : Str} {id : Nat} {l : List (Str × AVal)} {v : AVal} (h : (attrsOf c).contains a = true) (hl : st.At id (.sdict l)) (hz : l.length ≤ 100) (q : U () (st.put id (.sdict (putK a v l)))) : wp (attrSet (.inst c id) a v) st U := by
  show wp (if (attrsOf c).contains a then _ else _) st U
  exact wp_true h (wp_bind (wp_getD hl (wp_true hz (wp_putD hl.1 q))))
theorem item_tup {l : List AVal} {k : Int} {v : AVal} (h : 0 ≤ k ∧ k < 1000) (hv : l[k.toNat]? = some v) (q : Q v st) : wp (itemGet (.tup l) (.int k)) st Q := wp_true h (wp_opt hv q)
theorem item_idict {l : List (Int × AVal)} {id : Nat} {k : Int} {v : AVal} (hl : st.At id (.idict l)) (hv : getK k l = some v) (q : Q v st) : wp (itemGet (.obj id) (.int k)) st Q := wp_bind (wp_getD hl (wp_opt hv q))
theorem item_list {l : List AVal} {id : Nat} {k : Int} {v : AVal} (hl : st.At id (.list l)) (h : 0 ≤ k ∧ k < 1000) (hv : l[k.toNat]? = some v) (q : Q v st) : wp (itemGet (.obj id) (.int k)) st Q := wp_bind (wp_getD hl (wp_true h (wp_opt hv q)))
theorem item_sdict {l : List (Str × AVal)} {id : Nat} {k : Str} {v : AVal} (hl : st.At id (.sdict l)) (hv : getK k l = some v) (q : Q v st) : wp (itemGet (.obj id) (.str k)) st Q := wp_bind (wp_getD hl (wp_opt hv q))
theorem set_idict {U : Unit → ASt → Prop} {l : List (Int × AVal)} {id : Nat} {k : Int} {v : AVal} (hl : st.At id (.idict l)) (hz : l.length ≤ 1000000) (q : U () (st.put id (.idict (putK k v l)))) : wp (itemSet (.obj id) (.int k) v) st U := wp_bind (wp_getD hl (wp_true hz (wp_putD hl.1 q)))
theorem set_list {U : Unit → ASt → Prop} {l : List AVal} {id : Nat} {k : Int} {v : AVal} (hl : st.At id (.list l)) (hz : 0 ≤ k ∧ k < l.length ∧ l.length ≤ 1000) (q : U () (st.put id (.list (l.set k.toNat v)))) : wp (itemSet (.obj id) (.int k) v) st U := wp_bind (wp_getD hl (wp_true hz (wp_putD hl.1 q)))
theorem set_sdict {U : Unit → ASt → Prop} {l : List (Str × AVal)} {id : Nat} {k : Str} {v : AVal} (hl : st.At id (.sdict l)) (hz : l.length ≤ 100) (q : U () (st.put id (.sdict (putK k v l)))) : wp (itemSet (.obj id) (.str k) v) st U := wp_bind (wp_getD hl (wp_true hz (wp_putD hl.1 q)))
theorem del_idict {U : Unit → ASt → Prop} {l : List (Int × AVal)} {id : Nat} {k : Int} (hl : st.At id (.idict l)) (hz : (getK k l).isSome ∧ l.length ≤ 1000000) (q : U () (st.put id (.idict (delK k l)))) : wp (itemDel (.obj id) (.int k)) st U := wp_bind (wp_getD hl (wp_true hz (wp_putD hl.1 q)))
variable {B : Bool → ASt → Prop}
theorem truth_b {b : Bool} (q : B b st) : wp (truth (.bool b)) st B := wp_pure q
theorem truth_l {id : Nat} {l : List AVal} (hl : st.At id (.list l)) (hz : l.length ≤ 1000000) (q : B (!l.isEmpty) st) : wp (truth (.obj id)) st B := wp_bind (wp_getD hl (wp_true hz (wp_pure q)))
theorem cmp_in {id : Nat} {l : List (Int × AVal)} {k : Int} (hl : st.At id (.idict l)) (q : B (getK k l).isSome st) : wp (cmp .In (.int k) (.obj id)) st B := wp_bind (wp_getD hl (wp_pure q))
theorem cmp_notin {id : Nat} {l : List (Int × AVal)} {k : Int} (hl : st.At id (.idict l)) (q : B (!(getK k l).isSome) st) : wp (cmp .NotIn (.int k) (.obj id)) st B := wp_bind (wp_getD hl (wp_pure q))
theorem cmp_eq {a b : AVal} {c : Bool} (h : aeq a b st = some (c, st)) (q : B c st) : wp (cmp .Eq a b) st B := wp_of h q
theorem cmp_ne {a b : AVal} {c : Bool} (h : aeq a b st = some (c, st)) (q : B (!c) st) : wp (cmp .NotEq a b) st B := wp_bind (wp_of h (wp_pure q))

theorem m_append {l : List AVal} {id : Nat} {v : AVal} (hl : st.At id (.list l)) (hz : l.length ≤ 1000000) (q : Q .none (st.put id (.list (l ++ [v])))) : wp (methL id "append" [v]) st Q := by
  refine wp_bind (wp_getD hl ?_)
  exact wp_true (by decide +kernel) (wp_true hz (wp_bind (wp_putD hl.1 (wp_pure q))))
theorem m_extend {l m : List AVal} {id j : Nat} (hl : st.At id (.list l)) (hm : st.At j (.list m)) (hj : j ≠ id) (hz : l.length + m.length ≤ 1000000) (q : Q .none (st.put id (.list (l ++ m)))) : wp (methL id "extend" [.obj j]) st Q := by
  refine wp_bind (wp_getD hl ?_)
  exact wp_false (by decide +kernel) (wp_true (by decide +kernel) (wp_false hj (wp_bind (wp_getD hm (wp_true hz (wp_bind (wp_putD hl.1 (wp_pure q))))))))
theorem m_remove {l : List AVal} {id : Nat} {k : Int} (hl : st.At id (.list l)) (hz : (l.all isIntA && l.any (eqIntA k) && decide (l.length ≤ 1000000)) = true) (q : Q .none (st.put id (.list (l.eraseP (eqIntA k))))) : wp (methL id "remove" [.int k]) st Q := by
  refine wp_bind (wp_getD hl ?_)
  exact wp_false (by decide +kernel) (wp_false (by decide +kernel) (wp_true (by decide +kernel) (wp_true hz (wp_bind (wp_putD hl.1 (wp_pure q))))))
theorem m_pop {l : List AVal} {id : Nat} {v : AVal} (hl : st.At id (.list (l ++ [v]))) (hz : (l ++ [v]).length ≤ 1000000) (q : Q v (st.put id (.list l))) : wp (methL id "pop" []) st Q := by
  refine wp_bind (wp_getD hl ?_)
  refine wp_true (by decide +kernel) ?_
  unfold mPop
  rw [List.getLast?_append]
  exact wp_true hz (wp_bind (wp_putD hl.1 (by rw [List.dropLast_concat]; exact wp_pure q)))
theorem m_get {l : List (Int × AVal)} {id : Nat} {k : Int} {d : AVal} (hl : st.At id (.idict l)) (q : Q ((getK k l).getD d) st) : wp (methI id "get" [.int k, d]) st Q := by
  refine wp_bind (wp_getD hl ?_)
  exact wp_true (by decide +kernel) (wp_pure q)
theorem m_get1 {l : List (Int × AVal)} {id : Nat} {k : Int} (hl : st.At id (.idict l)) (q : Q ((getK k l).getD .none) st) : wp (methI id "get" [.int k]) st Q := by
  refine wp_bind (wp_getD hl ?_)
  exact wp_true (by decide +kernel) (wp_pure q)
theorem m_popk {l : List (Int × AVal)} {id : Nat} {k : Int} {v : AVal} (hl : st.At id (.idict l)) (hv : getK k l = some v) (hz : l.length ≤ 1000000) (q : Q v (st.put id (.idict (delK k l)))) : wp (methI id "pop" [.int k]) st Q := by
  refine wp_bind (wp_getD hl ?_)
  refine wp_false (by decide +kernel) (wp_true (by decide +kernel) ?_)
  show wp (match ([] : List AVal), getK k l with
  | [], some v => if l.length ≤ 1000000 then do putD id (.idict (delK k l)); pure v else fail
  | _, _ => fail) st Q
  rw [hv]
  exact wp_true hz (wp_bind (wp_putD hl.1 (wp_pure q)))
theorem add_lists {i j : Nat} {l m : List AVal} (hl : st.At i (.list l)) (hm : st.At j (.list m)) (hz : l.length + m.length ≤ 1000000) (q : wp (newD (.list (l ++ m))) st fun id st' => Q (.obj id) st') : wp (bin .Add (.obj i) (.obj j)) st Q :=
  wp_bind (wp_getD hl (wp_bind (wp_getD hm (wp_true hz (wp_bind (wp_mono q fun _ _ q => wp_pure q))))))

/-! calls -/
def retOf : Out → AVal
  | .next => .none
  | .ret v => v
theorem call_fn {f : Str} {d : DefRec} {args : List AVal} (hd : fnOfTab f = some d) (hc : (f == ("Cell" : Str) || f == ("Counted" : Str)) = false) (hp : d.params.args.length = args.length ∧ (plainParams d.params && bodyOk (d.params.args.map (·.arg)) d.scope) = true)
  (k : wp (exs (R wh n) d.body { sc := d.scope, vars := (d.params.args.map (·.arg)).zip args }) st fun x st' => Q (retOf x.1) st') : wp ((R wh (n + 1)).call f args) st Q := by
  show wp (if (f == ("Cell" : Str) || f == ("Counted" : Str)) = true then _ else match fnOfTab f with
    | some d => runBody (R wh n) d.params d.body d.scope args
    | none => fail) st Q
  rw [hd]
  refine wp_false (by rw [hc]; decide) ?_
  show wp (if _ then _ else _) st Q
  refine wp_true hp (wp_bind (wp_mono k ?_))
  rintro ⟨o, env'⟩ st' q
  cases o <;> exact wp_pure q
end
end
/-! P2 -/
section
set_option maxRecDepth 100000

inductive K where
  | array | object | ref
  deriving DecidableEq
def encK : K → Str
  | .array => "array"
  | .object => "object"
  | .ref => "ref"
inductive V where
  | int (n : Int) | cell (n : Int)
  deriving DecidableEq
def enc : V → AVal
  | .int n => .tup [.str "int", .int n]
  | .cell n => .tup [.str "cell", .int n]
structure C where
  sort : K
  count : Int
  slots : List (Int × V)
  colour : Str
  buf : Bool
  hasD : Bool
  isD : Bool
  fr : Bool
inductive L where
  | copy (a b : Int) | free (n : Int) | destruct (n : Int)
  deriving DecidableEq
def encL : L → AVal
  | .copy a b => .tup [.str "copy", .int a, .int b]
  | .free n => .tup [.str "free", .int n]
  | .destruct n => .tup [.str "destruct", .int n]
structure HS where
  cells : List (Int × C)
  vars : List (Int × V)
  log : List L
  last : Int
  buffer : List Int
  freed : Int

/-! lists of pairs -/
section
variable {κ α β : Type} [DecidableEq κ]
theorem getK_mapv {f : κ → α → β} {k : κ} : ∀ {l : List (κ × α)}, getK k (l.map fun p => (p.1, f p.1 p.2)) = (getK k l).map (f k)
  | [] => rfl
  | (j, v) :: r => by
    show (if j = k then some (f j v) else getK k _) = ((if j = k then some v else getK k r) : Option α).map (f k)
    by_cases q : j = k
    · rw [if_pos q, if_pos q, q]; rfl
    · rw [if_neg q, if_neg q]; exact getK_mapv
theorem putK_mapv {f : κ → α → β} {k : κ} {v : α} : ∀ {l : List (κ × α)}, putK k (f k v) (l.map fun p => (p.1, f p.1 p.2)) = (putK k v l).map fun p => (p.1, f p.1 p.2)
  | [] => rfl
  | (j, w) :: r => by
    show (if j = k then (j, f k v) :: _ else (j, f j w) :: putK k _ _) = (if j = k then (j, v) :: r else (j, w) :: putK k v r).map _
    by_cases q : j = k
    · rw [if_pos q, if_pos q, q]; rfl
    · rw [if_neg q, if_neg q, putK_mapv]; rfl
theorem delK_mapv {f : κ → α → β} {k : κ} {l : List (κ × α)} : delK k (l.map fun p => (p.1, f p.1 p.2)) = (delK k l).map fun p => (p.1, f p.1 p.2) := by
  unfold delK; rw [List.filter_map]; rfl
theorem getK_putK {k j : κ} {v : α} : ∀ {l : List (κ × α)}, getK j (putK k v l) = if j = k then some v else getK j l
  | [] => by
    show (if k = j then some v else none) = _
    by_cases q : j = k
    · rw [if_pos q, if_pos q.symm]
    · rw [if_neg q, if_neg fun e => q e.symm]; rfl
  | (i, w) :: r => by
    show getK j (if i = k then (i, v) :: r else (i, w) :: putK k v r) = if j = k then some v else if i = j then some w else getK j r
    by_cases q : i = k
    · rw [if_pos q]
      show (if i = j then some v else getK j r) = _
      by_cases q2 : j = k
      · rw [if_pos (q.trans q2.symm), if_pos q2]
      · rw [if_neg (fun e => q2 (e.symm.trans q)), if_neg q2, if_neg (fun e => q2 (e.symm.trans q))]
    · rw [if_neg q]
      show (if i = j then some w else getK j (putK k v r)) = _
      by_cases q2 : i = j
      · rw [if_pos q2, if_neg (fun e => q (q2.trans e)), if_pos q2]
      · rw [if_neg q2, getK_putK, if_neg q2]
theorem getK_delK {k j : κ} : ∀ {l : List (κ × α)}, getK j (delK k l) = if j = k then none else getK j l
  | [] => by show none = _; by_cases q : j = k <;> simp [q, getK]
  | (i, w) :: r => by
    have ih := getK_delK (k := k) (j := j) (l := r)
    unfold delK at ih ⊢
    by_cases q : i = k
    · rw [List.filter_cons_of_neg (by simpa using q), ih]
      by_cases q2 : j = k
      · rw [if_pos q2, if_pos q2]
      · rw [if_neg q2, if_neg q2]
        show _ = if i = j then _ else _
        rw [if_neg (fun e => q2 (e.symm.trans q))]
    · rw [List.filter_cons_of_pos (by simpa using q)]
      show (if i = j then some w else getK j _) = if j = k then none else if i = j then some w else getK j r
      rw [ih]
      by_cases q2 : i = j
      · rw [if_pos q2, if_neg (fun e => q (q2.trans e)), if_pos q2]
      · rw [if_neg q2, if_neg q2]
theorem putK_new {k : κ} {v : α} : ∀ {l : List (κ × α)}, getK k l = none → putK k v l = l ++ [(k, v)]
  | [], _ => rfl
  | (j, w) :: r, h => by
    by_cases q : j = k
    · subst q; simp [getK] at h
    · rw [getK, if_neg q] at h
      show (if j = k then _ else (j, w) :: putK k v r) = _
      rw [if_neg q, putK_new h]; rfl
theorem putK_old {k : κ} {v : α} : ∀ {l : List (κ × α)}, getK k l = some v → putK k v l = l
  | (j, w) :: r, h => by
    by_cases q : j = k
    · rw [getK, if_pos q] at h; cases h
      show (if j = k then (j, v) :: r else _) = _
      rw [if_pos q]
    · rw [getK, if_neg q] at h
      show (if j = k then _ else (j, w) :: putK k v r) = _
      rw [if_neg q, putK_old h]
theorem getK_mem {k : κ} {v : α} : ∀ {l : List (κ × α)}, getK k l = some v → (k, v) ∈ l
  | (j, w) :: r, h => by
    by_cases q : j = k
    · rw [getK, if_pos q] at h; cases h; subst q; exact .head _
    · rw [getK, if_neg q] at h; exact .tail _ (getK_mem h)
theorem length_putK_le {k : κ} {v : α} : ∀ {l : List (κ × α)}, (putK k v l).length ≤ l.length + 1
  | [] => Nat.le_refl _
  | (j, w) :: r => by
    show (if j = k then (j, v) :: r else (j, w) :: putK k v r).length ≤ _
    by_cases q : j = k
    · rw [if_pos q]; exact Nat.le_succ _
    · rw [if_neg q]; exact Nat.succ_le_succ (length_putK_le (l := r))
end

/-! the counted heap, as it lies -/
structure HIds where
  root : Nat
  cells : Nat
  vars : Nat
  log : Nat
  buffer : Nat
  plan : Nat
  tables : Nat
structure Loc where
  cell : Int → Nat
  slot : Int → Nat
inductive Tag where
  | root | cells | vars | log | buffer | tables | cell (n : Int) | slot (n : Int)
  deriving DecidableEq
def Tag.id (X : HIds) (loc : Loc) : Tag → Nat
  | .root => X.root
  | .cells => X.cells
  | .vars => X.vars
  | .log => X.log
  | .buffer => X.buffer
  | .tables => X.tables
  | .cell n => loc.cell n
  | .slot n => loc.slot n
def encV (_ : Int) (v : V) : AVal := enc v
def instA (loc : Loc) (n : Int) (_ : C) : AVal := .inst "Cell" (loc.cell n)
def encM (l : List (Int × V)) : List (Int × AVal) := l.map fun p => (p.1, encV p.1 p.2)
def cellL (s : Nat) (n : Int) (c : C) : List (Str × AVal) := [("sort", .str (encK c.sort)), ("number", .int n), ("count", .int c.count), ("slots", .obj s), ("colour", .str c.colour), ("is_buffered", .bool c.buf), ("has_destructor", .bool c.hasD), ("is_destructed", .bool c.isD), ("is_freed", .bool c.fr), ("weak", .none)]
def rootL (X : HIds) (last freed : Int) : List (Str × AVal) := [("cells", .obj X.cells), ("vars", .obj X.vars), ("log", .obj X.log), ("last", .int last), ("buffer", .obj X.buffer), ("full", .int 1000), ("freed", .int freed), ("plan", .obj X.plan), ("tables", .obj X.tables)]
def cellsA (loc : Loc) (l : List (Int × C)) : List (Int × AVal) := l.map fun p => (p.1, instA loc p.1 p.2)
def content (X : HIds) (loc : Loc) (H : HS) : Tag → Option AData
  | .root => some (.sdict (rootL X H.last H.freed))
  | .cells => some (.idict (cellsA loc H.cells))
  | .vars => some (.idict (encM H.vars))
  | .log => some (.list (H.log.map encL))
  | .buffer => some (.list (H.buffer.map AVal.int))
  | .tables => some (.list [])
  | .cell n => (getK n H.cells).map fun c => .sdict (cellL (loc.slot n) n c)
  | .slot n => (getK n H.cells).map fun c => .idict (encM c.slots)

abbrev Frm := Nat → AObj → Prop
def Frm.add (F : Frm) (i : Nat) (o : AObj) : Frm := fun j p => F j p ∨ (j = i ∧ p = o)

structure Rep (X : HIds) (loc : Loc) (H : HS) (F : Frm) (st : ASt) : Prop where
  dat : ∀ t d, content X loc H t = some d → st.At (t.id X loc) d
  inj : ∀ t t', (content X loc H t).isSome → (content X loc H t').isSome → t.id X loc = t'.id X loc → t = t'
  frame : ∀ i o, F i o → st.Ob i o
  off : ∀ i o, F i o → ∀ t, (content X loc H t).isSome → t.id X loc ≠ i

theorem At_put_self {st : ASt} {i : Nat} {d : AData} (h : i < st.next) : (st.put i d).At i d := ⟨h, by show (if i = i then (⟨_, d⟩ : AObj) else _).data = d; rw [if_pos rfl]⟩
theorem At_put_ne {st : ASt} {i j : Nat} {d d' : AData} (h : st.At j d') (q : j ≠ i) : (st.put i d).At j d' := ⟨h.1, by show (if j = i then (⟨_, d⟩ : AObj) else _).data = d'; rw [if_neg q]; exact h.2⟩
theorem Ob_put_ne {st : ASt} {i j : Nat} {d : AData} {o : AObj} (h : st.Ob j o) (q : j ≠ i) : (st.put i d).Ob j o := ⟨h.1, by show (if j = i then (⟨_, d⟩ : AObj) else _) = o; rw [if_neg q]; exact h.2⟩
theorem At_new {st : ASt} {j : Nat} {d d' : AData} (h : st.At j d') : (st.new d).At j d' := ⟨Nat.lt_succ_of_lt h.1, by show (if j = st.next then (⟨_, d⟩ : AObj) else _).data = d'; rw [if_neg (Nat.ne_of_lt h.1)]; exact h.2⟩
theorem Ob_new {st : ASt} {j : Nat} {d : AData} {o : AObj} (h : st.Ob j o) : (st.new d).Ob j o := ⟨Nat.lt_succ_of_lt h.1, by show (if j = st.next then (⟨_, d⟩ : AObj) else _) = o; rw [if_neg (Nat.ne_of_lt h.1)]; exact h.2⟩
theorem Ob_new_self {st : ASt} {d : AData} : (st.new d).Ob st.next ⟨0, d⟩ := ⟨Nat.lt_succ_self _, by show (if st.next = st.next then (⟨_, d⟩ : AObj) else _) = _; rw [if_pos rfl]⟩

section
variable {X : HIds} {loc : Loc} {H H' : HS} {F F' : Frm} {st : ASt}

theorem Rep.mono (r : Rep X loc H F st) (h : ∀ i o, F' i o → F i o) : Rep X loc H F' st := ⟨r.dat, r.inj, fun i o q => r.frame i o (h i o q), fun i o q => r.off i o (h i o q)⟩
theorem Rep.drop {i : Nat} {o : AObj} (r : Rep X loc H (F.add i o) st) : Rep X loc H F st := r.mono fun _ _ h => .inl h
theorem Rep.new {d : AData} (r : Rep X loc H F st) : Rep X loc H (F.add st.next ⟨0, d⟩) (st.new d) := by
  refine ⟨fun t d' h => At_new (r.dat t d' h), r.inj, fun i o h => ?_, fun i o h t ht => ?_⟩
  · rcases h with h | ⟨rfl, rfl⟩
    · exact Ob_new (r.frame _ _ h)
    · exact Ob_new_self
  · rcases h with h | ⟨rfl, rfl⟩
    · exact r.off _ _ h t ht
    · obtain ⟨d', hd⟩ := Option.isSome_iff_exists.mp ht
      exact Nat.ne_of_lt (r.dat t d' hd).1
theorem Rep.put {t : Tag} {d : AData} (r : Rep X loc H F st) (h1 : (content X loc H t).isSome) (h2 : ∀ t', t' ≠ t → content X loc H' t' = content X loc H t') (h3 : content X loc H' t = some d) : Rep X loc H' F (st.put (t.id X loc) d) := by
  have live : ∀ t', (content X loc H' t').isSome → (content X loc H t').isSome := fun t' h => by
    by_cases q : t' = t
    · rw [q]; exact h1
    · rw [← h2 t' q]; exact h
  refine ⟨fun t' d' h => ?_, fun t1 t2 h1 h2 e => r.inj t1 t2 (live _ h1) (live _ h2) e, fun i o h => ?_, fun i o h t' ht => r.off i o h t' (live _ ht)⟩
  · by_cases q : t' = t
    · subst q
      rw [h3] at h; cases h
      obtain ⟨d', hd⟩ := Option.isSome_iff_exists.mp h1
      exact At_put_self (r.dat t' d' hd).1
    · rw [h2 t' q] at h
      exact At_put_ne (r.dat t' d' h) fun e => q (r.inj t' t (by rw [h]; rfl) h1 e)
  · exact Ob_put_ne (r.frame i o h) fun e => r.off i o h t h1 e.symm

def HS.setC (H : HS) (n : Int) (c : C) : HS := { H with cells := putK n c H.cells }

theorem Rep.root (r : Rep X loc H F st) : st.At X.root (.sdict (rootL X H.last H.freed)) := r.dat .root _ rfl
theorem Rep.cells (r : Rep X loc H F st) : st.At X.cells (.idict (cellsA loc H.cells)) := r.dat .cells _ rfl
theorem Rep.vars (r : Rep X loc H F st) : st.At X.vars (.idict (encM H.vars)) := r.dat .vars _ rfl
theorem Rep.log (r : Rep X loc H F st) : st.At X.log (.list (H.log.map encL)) := r.dat .log _ rfl
theorem Rep.buffer (r : Rep X loc H F st) : st.At X.buffer (.list (H.buffer.map AVal.int)) := r.dat .buffer _ rfl
theorem Rep.tables (r : Rep X loc H F st) : st.At X.tables (.list []) := r.dat .tables _ rfl
theorem Rep.cell {n : Int} {c : C} (r : Rep X loc H F st) (h : getK n H.cells = some c) : st.At (loc.cell n) (.sdict (cellL (loc.slot n) n c)) := r.dat (.cell n) _ (by show (getK n H.cells).map _ = _; rw [h]; rfl)
theorem Rep.slot {n : Int} {c : C} (r : Rep X loc H F st) (h : getK n H.cells = some c) : st.At (loc.slot n) (.idict (encM c.slots)) := r.dat (.slot n) _ (by show (getK n H.cells).map _ = _; rw [h]; rfl)

theorem Rep.put_cell {n : Int} {c c' : C} {d : AData} (r : Rep X loc H F st) (h : getK n H.cells = some c) (hs : c'.slots = c.slots) (hd : d = .sdict (cellL (loc.slot n) n c')) : Rep X loc (H.setC n c') F (st.put (loc.cell n) d) := by
  refine r.put (t := .cell n) (by show ((getK n H.cells).map _).isSome = true; rw [h]; rfl) (fun t' q => ?_) ?_
  · cases t' with
    | cells =>
      show some (AData.idict (cellsA loc (putK n c' H.cells))) = some (AData.idict (cellsA loc H.cells))
      unfold cellsA
      rw [← putK_mapv, putK_old]
      rw [getK_mapv, h]; rfl
    | cell m =>
      show (getK m (putK n c' H.cells)).map _ = (getK m H.cells).map _
      rw [getK_putK, if_neg fun e => q (by rw [e])]
    | slot m =>
      show (getK m (putK n c' H.cells)).map _ = (getK m H.cells).map _
      rw [getK_putK]
      by_cases e : m = n
      · subst e; rw [if_pos rfl, h]; show some (AData.idict (encM c'.slots)) = some (AData.idict (encM c.slots)); rw [hs]
      · rw [if_neg e]
    | _ => rfl
  · show (getK n (putK n c' H.cells)).map _ = some d
    rw [getK_putK, if_pos rfl, hd]; rfl

theorem Rep.put_root {a b : Int} {d : AData} (r : Rep X loc H F st) (hd : d = .sdict (rootL X a b)) : Rep X loc { H with last := a, freed := b } F (st.put X.root d) := by
  subst hd
  refine r.put (t := .root) rfl (fun t' q => ?_) rfl
  cases t' <;> first | rfl | exact absurd rfl q
theorem Rep.put_vars {l : List (Int × V)} {d : AData} (r : Rep X loc H F st) (hd : d = .idict (encM l)) : Rep X loc { H with vars := l } F (st.put X.vars d) := by
  subst hd
  refine r.put (t := .vars) rfl (fun t' q => ?_) rfl
  cases t' <;> first | rfl | exact absurd rfl q
theorem Rep.put_log {l : List L} {d : AData} (r : Rep X loc H F st) (hd : d = .list (l.map encL)) : Rep X loc { H with log := l } F (st.put X.log d) := by
  subst hd
  refine r.put (t := .log) rfl (fun t' q => ?_) rfl
  cases t' <;> first | rfl | exact absurd rfl q
theorem Rep.put_buffer {l : List Int} {d : AData} (r : Rep X loc H F st) (hd : d = .list (l.map AVal.int)) : Rep X loc { H with buffer := l } F (st.put X.buffer d) := by
  subst hd
  refine r.put (t := .buffer) rfl (fun t' q => ?_) rfl
  cases t' <;> first | rfl | exact absurd rfl q
theorem Rep.put_slot {n : Int} {c : C} {l : List (Int × V)} {d : AData} (r : Rep X loc H F st) (h : getK n H.cells = some c) (hd : d = .idict (encM l)) : Rep X loc (H.setC n { c with slots := l }) F (st.put (loc.slot n) d) := by
  subst hd
  refine r.put (t := .slot n) (by show ((getK n H.cells).map _).isSome = true; rw [h]; rfl) (fun t' q => ?_) ?_
  · cases t' with
    | cells =>
      show some (AData.idict (cellsA loc (putK n _ H.cells))) = some (AData.idict (cellsA loc H.cells))
      unfold cellsA
      rw [← putK_mapv, putK_old]
      rw [getK_mapv, h]; rfl
    | cell m =>
      show (getK m (putK n _ H.cells)).map _ = (getK m H.cells).map _
      rw [getK_putK]
      by_cases e : m = n
      · subst e; rw [if_pos rfl, h]; rfl
      · rw [if_neg e]
    | slot m =>
      show (getK m (putK n _ H.cells)).map _ = (getK m H.cells).map _
      rw [getK_putK, if_neg fun e => q (by rw [e])]
    | _ => rfl
  · show (getK n (putK n _ H.cells)).map _ = some _
    rw [getK_putK, if_pos rfl]; rfl

theorem At_det {st : ASt} {i : Nat} {d d' : AData} (h : st.At i d) (h' : st.At i d') : d = d' := h.2.symm.trans h'.2

/-- a new cell gets its place -/
def Loc.upd (loc : Loc) (n : Int) (a b : Nat) : Loc := { cell := fun m => if m = n then a else loc.cell m, slot := fun m => if m = n then b else loc.slot m }
theorem Rep.add_cell {n : Int} {c : C} {a b va vb : Nat} {d : AData} (r : Rep X loc H ((F.add a ⟨va, .sdict (cellL b n c)⟩).add b ⟨vb, .idict (encM c.slots)⟩) st) (hn : getK n H.cells = none) (hFa : ∀ o, ¬ F a o) (hFb : ∀ o, ¬ F b o)
    (hd : d = .idict (putK n (.inst "Cell" a) (cellsA loc H.cells))) : Rep X (loc.upd n a b) { H with cells := putK n c H.cells } F (st.put X.cells d) := by
  subst hd
  have oa := r.frame a _ (.inl (.inr ⟨rfl, rfl⟩))
  have ob := r.frame b _ (.inr ⟨rfl, rfl⟩)
  have fa := r.off a _ (.inl (.inr ⟨rfl, rfl⟩))
  have fb := r.off b _ (.inr ⟨rfl, rfl⟩)
  have hab : a ≠ b := fun e => by subst e; have := At_det oa.at ob.at; cases this
  have same : ∀ t : Tag, t ≠ .cell n → t ≠ .slot n → t.id X (loc.upd n a b) = t.id X loc := fun t h1 h2 => by
    cases t with
    | cell m => exact if_neg fun e => h1 (by rw [e])
    | slot m => exact if_neg fun e => h2 (by rw [e])
    | _ => rfl
  have cn : (Tag.cell n).id X (loc.upd n a b) = a := if_pos rfl
  have sn : (Tag.slot n).id X (loc.upd n a b) = b := if_pos rfl
  have cont : ∀ t : Tag, t ≠ .cell n → t ≠ .slot n → t ≠ .cells → content X (loc.upd n a b) { H with cells := putK n c H.cells } t = content X loc H t := fun t h1 h2 h3 => by
    cases t with
    | cells => exact absurd rfl h3
    | cell m =>
      have e : m ≠ n := fun e => h1 (by rw [e])
      show (getK m (putK n c H.cells)).map _ = (getK m H.cells).map _
      rw [getK_putK, if_neg e]
      have : (loc.upd n a b).slot m = loc.slot m := if_neg e
      rw [this]
    | slot m =>
      show (getK m (putK n c H.cells)).map _ = (getK m H.cells).map _
      rw [getK_putK, if_neg fun e => h2 (by rw [e])]
    | _ => rfl
  have live : ∀ t : Tag, t ≠ .cell n → t ≠ .slot n → (content X (loc.upd n a b) { H with cells := putK n c H.cells } t).isSome → (content X loc H t).isSome := fun t h1 h2 h => by
    by_cases q : t = .cells
    · subst q; rfl
    · rwa [cont t h1 h2 q] at h
  have hca : a ≠ X.cells := fun e => fa .cells rfl e.symm
  have hcb : b ≠ X.cells := fun e => fb .cells rfl e.symm
  refine ⟨fun t d' h => ?_, fun t t' h h' e => ?_, fun i o h => ?_, fun i o h t ht => ?_⟩
  · by_cases q1 : t = .cell n
    · subst q1
      rw [cn]
      refine At_put_ne ?_ hca
      have e : content X (loc.upd n a b) { H with cells := putK n c H.cells } (.cell n) = some (.sdict (cellL b n c)) := by
        show (getK n (putK n c H.cells)).map _ = _
        rw [getK_putK, if_pos rfl]
        have : (loc.upd n a b).slot n = b := if_pos rfl
        rw [this]; rfl
      rw [e] at h; cases h; exact oa.at
    · by_cases q2 : t = .slot n
      · subst q2
        rw [sn]
        refine At_put_ne ?_ hcb
        have e : content X (loc.upd n a b) { H with cells := putK n c H.cells } (.slot n) = some (.idict (encM c.slots)) := by
          show (getK n (putK n c H.cells)).map _ = _
          rw [getK_putK, if_pos rfl]; rfl
        rw [e] at h; cases h; exact ob.at
      · rw [same t q1 q2]
        by_cases q3 : t = .cells
        · subst q3
          have e : content X (loc.upd n a b) { H with cells := putK n c H.cells } .cells = some (.idict (putK n (.inst "Cell" a) (cellsA loc H.cells))) := by
            show some (AData.idict (cellsA (loc.upd n a b) (putK n c H.cells))) = _
            have e1 : cellsA (loc.upd n a b) H.cells = cellsA loc H.cells := by
              refine List.map_congr_left fun p hp => ?_
              have : p.1 ≠ n := fun e => by
                obtain ⟨m, cm⟩ := p
                subst e
                have key : ∀ l : List (Int × C), (m, cm) ∈ l → getK m l ≠ none := fun l => by
                  induction l with
                  | nil => intro h; cases h
                  | cons x l ih =>
                    obtain ⟨j, v⟩ := x
                    intro h e
                    by_cases q : j = m
                    · rw [getK, if_pos q] at e; cases e
                    · rw [getK, if_neg q] at e
                      rcases List.mem_cons.mp h with h | h
                      · cases h; exact q rfl
                      · exact ih h e
                exact key _ hp hn
              show (p.1, AVal.inst "Cell" ((loc.upd n a b).cell p.1)) = (p.1, AVal.inst "Cell" (loc.cell p.1))
              have : (loc.upd n a b).cell p.1 = loc.cell p.1 := if_neg this
              rw [this]
            have e2 : instA (loc.upd n a b) n c = .inst "Cell" a := by show AVal.inst "Cell" ((loc.upd n a b).cell n) = _; rw [show (loc.upd n a b).cell n = a from if_pos rfl]
            have e3 : cellsA (loc.upd n a b) (putK n c H.cells) = putK n (instA (loc.upd n a b) n c) (cellsA (loc.upd n a b) H.cells) := putK_mapv.symm
            rw [e3, e2, e1]
          rw [e] at h; cases h
          exact At_put_self (r.dat .cells _ rfl).1
        · rw [cont t q1 q2 q3] at h
          exact At_put_ne (r.dat t d' h) fun e => q3 (r.inj t .cells (by rw [h]; rfl) rfl e)
  · by_cases q1 : t = .cell n
    · subst q1
      by_cases q1' : t' = .cell n
      · exact q1'.symm
      · by_cases q2' : t' = .slot n
        · subst q2'; rw [cn, sn] at e; exact absurd e hab
        · rw [cn, same t' q1' q2'] at e
          exact absurd e.symm (fa t' (live t' q1' q2' h'))
    · by_cases q2 : t = .slot n
      · subst q2
        by_cases q1' : t' = .cell n
        · subst q1'; rw [cn, sn] at e; exact absurd e.symm hab
        · by_cases q2' : t' = .slot n
          · exact q2'.symm
          · rw [sn, same t' q1' q2'] at e
            exact absurd e.symm (fb t' (live t' q1' q2' h'))
      · by_cases q1' : t' = .cell n
        · subst q1'; rw [cn, same t q1 q2] at e; exact absurd e (fa t (live t q1 q2 h))
        · by_cases q2' : t' = .slot n
          · subst q2'; rw [sn, same t q1 q2] at e; exact absurd e (fb t (live t q1 q2 h))
          · rw [same t q1 q2, same t' q1' q2'] at e
            exact r.inj t t' (live t q1 q2 h) (live t' q1' q2' h') e
  · exact Ob_put_ne (r.frame i o (.inl (.inl h))) fun e => r.off i o (.inl (.inl h)) .cells rfl e.symm
  · by_cases q1 : t = .cell n
    · subst q1; rw [cn]; exact fun e => hFa o (e ▸ h)
    · by_cases q2 : t = .slot n
      · subst q2; rw [sn]; exact fun e => hFb o (e ▸ h)
      · rw [same t q1 q2]; exact r.off i o (.inl (.inl h)) t (live t q1 q2 ht)

theorem Rep.del_cell {n : Int} {d : AData} (r : Rep X loc H F st) (hd : d = .idict (delK n (cellsA loc H.cells))) : Rep X loc { H with cells := delK n H.cells } F (st.put X.cells d) := by
  subst hd
  have live : ∀ t : Tag, (content X loc { H with cells := delK n H.cells } t).isSome → (content X loc H t).isSome ∧ (t ≠ .cells → content X loc { H with cells := delK n H.cells } t = content X loc H t) := fun t h => by
    cases t with
    | cells => exact ⟨rfl, fun q => absurd rfl q⟩
    | cell m =>
      have h : ((getK m (delK n H.cells)).map fun c => AData.sdict (cellL (loc.slot m) m c)).isSome = true := h
      show ((getK m H.cells).map fun c => AData.sdict (cellL (loc.slot m) m c)).isSome = true ∧ (_ → (getK m (delK n H.cells)).map (fun c => AData.sdict (cellL (loc.slot m) m c)) = (getK m H.cells).map fun c => AData.sdict (cellL (loc.slot m) m c))
      rw [getK_delK] at h ⊢
      by_cases e : m = n
      · rw [if_pos e] at h; cases h
      · rw [if_neg e] at h ⊢; exact ⟨h, fun _ => rfl⟩
    | slot m =>
      have h : ((getK m (delK n H.cells)).map fun c => AData.idict (encM c.slots)).isSome = true := h
      show ((getK m H.cells).map fun c => AData.idict (encM c.slots)).isSome = true ∧ (_ → (getK m (delK n H.cells)).map (fun c => AData.idict (encM c.slots)) = (getK m H.cells).map fun c => AData.idict (encM c.slots))
      rw [getK_delK] at h ⊢
      by_cases e : m = n
      · rw [if_pos e] at h; cases h
      · rw [if_neg e] at h ⊢; exact ⟨h, fun _ => rfl⟩
    | _ => exact ⟨rfl, fun _ => rfl⟩
  refine ⟨fun t d' h => ?_, fun t1 t2 h1 h2 e => r.inj t1 t2 (live _ h1).1 (live _ h2).1 e, fun i o h => ?_, fun i o h t' ht => r.off i o h t' (live _ ht).1⟩
  · by_cases q : t = .cells
    · subst q
      have e : content X loc { H with cells := delK n H.cells } .cells = some (.idict (delK n (cellsA loc H.cells))) := by
        show some (AData.idict (cellsA loc (delK n H.cells))) = _
        unfold cellsA; rw [delK_mapv]
      rw [e] at h; cases h
      exact At_put_self (r.dat .cells _ rfl).1
    · have l := live t (by rw [h]; rfl)
      rw [l.2 q] at h
      exact At_put_ne (r.dat t d' h) fun e => q (r.inj t .cells l.1 rfl e)
  · exact Ob_put_ne (r.frame i o h) fun e => r.off i o h .cells rfl e.symm

/-- a cell's slots give way to a new table -/
theorem Rep.new_slots {n : Int} {c : C} {b vb : Nat} {l : List (Int × V)} {d : AData} (r : Rep X loc H (F.add b ⟨vb, .idict (encM l)⟩) st) (h : getK n H.cells = some c) (hFb : ∀ o, ¬ F b o)
    (hd : d = .sdict (cellL b n c)) : Rep X { loc with slot := fun m => if m = n then b else loc.slot m } (H.setC n { c with slots := l }) F (st.put (loc.cell n) d) := by
  subst hd
  have ob := r.frame b _ (.inr ⟨rfl, rfl⟩)
  have fb := r.off b _ (.inr ⟨rfl, rfl⟩)
  have cl : (content X loc H (.cell n)).isSome := by show ((getK n H.cells).map _).isSome = true; rw [h]; rfl
  have same : ∀ t : Tag, t ≠ .slot n → t.id X { loc with slot := fun m => if m = n then b else loc.slot m } = t.id X loc := fun t h2 => by
    cases t with
    | slot m => exact if_neg fun e => h2 (by rw [e])
    | _ => rfl
  have sn : (Tag.slot n).id X { loc with slot := fun m => if m = n then b else loc.slot m } = b := if_pos rfl
  have cont : ∀ t : Tag, t ≠ .cell n → t ≠ .slot n → content X { loc with slot := fun m => if m = n then b else loc.slot m } (H.setC n { c with slots := l }) t = content X loc H t := fun t h1 h2 => by
    cases t with
    | cells =>
      show some (AData.idict (cellsA loc (putK n _ H.cells))) = some (AData.idict (cellsA loc H.cells))
      unfold cellsA
      rw [← putK_mapv, putK_old]
      rw [getK_mapv, h]; rfl
    | cell m =>
      have e : m ≠ n := fun e => h1 (by rw [e])
      show (getK m (putK n _ H.cells)).map (fun c => AData.sdict (cellL (if m = n then b else loc.slot m) m c)) = (getK m H.cells).map _
      rw [getK_putK, if_neg e, if_neg e]
    | slot m =>
      show (getK m (putK n _ H.cells)).map _ = (getK m H.cells).map _
      rw [getK_putK, if_neg fun e => h2 (by rw [e])]
    | _ => rfl
  have e1 : content X { loc with slot := fun m => if m = n then b else loc.slot m } (H.setC n { c with slots := l }) (.cell n) = some (.sdict (cellL b n c)) := by
    show (getK n (putK n _ H.cells)).map (fun c => AData.sdict (cellL (if n = n then b else loc.slot n) n c)) = _
    rw [getK_putK, if_pos rfl, if_pos rfl]; rfl
  have e2 : content X { loc with slot := fun m => if m = n then b else loc.slot m } (H.setC n { c with slots := l }) (.slot n) = some (.idict (encM l)) := by
    show (getK n (putK n _ H.cells)).map _ = _
    rw [getK_putK, if_pos rfl]; rfl
  have live : ∀ t : Tag, t ≠ .slot n → (content X { loc with slot := fun m => if m = n then b else loc.slot m } (H.setC n { c with slots := l }) t).isSome → (content X loc H t).isSome := fun t h2 h => by
    by_cases q : t = .cell n
    · subst q; exact cl
    · rwa [cont t q h2] at h
  have hcb : b ≠ loc.cell n := fun e => fb (.cell n) cl e.symm
  refine ⟨fun t d' h => ?_, fun t t' h h' e => ?_, fun i o h => ?_, fun i o h t ht => ?_⟩
  · by_cases q1 : t = .slot n
    · subst q1
      rw [sn]; rw [e2] at h; cases h
      exact At_put_ne ob.at hcb
    · rw [same t q1]
      by_cases q2 : t = .cell n
      · subst q2
        rw [e1] at h; cases h
        obtain ⟨d0, hd0⟩ := Option.isSome_iff_exists.mp cl
        exact At_put_self (r.dat (.cell n) _ hd0).1
      · rw [cont t q2 q1] at h
        exact At_put_ne (r.dat t d' h) fun e => q2 (r.inj t (.cell n) (by rw [h]; rfl) cl e)
  · by_cases q1 : t = .slot n
    · subst q1
      by_cases q1' : t' = .slot n
      · exact q1'.symm
      · rw [sn, same t' q1'] at e; exact absurd e.symm (fb t' (live t' q1' h'))
    · by_cases q1' : t' = .slot n
      · subst q1'; rw [sn, same t q1] at e; exact absurd e (fb t (live t q1 h))
      · rw [same t q1, same t' q1'] at e
        exact r.inj t t' (live t q1 h) (live t' q1' h') e
  · exact Ob_put_ne (r.frame i o (.inl h)) fun e => r.off i o (.inl h) (.cell n) cl e.symm
  · by_cases q1 : t = .slot n
    · subst q1; rw [sn]; exact fun e => hFb o (e ▸ h)
    · rw [same t q1]; exact r.off i o (.inl h) t (live t q1 ht)
end
end
end Mine
namespace Mine
open PySem PySem.W PyProof.Rows
/-! P3 -/
section
set_option maxRecDepth 100000
set_option autoImplicit false

/-! values -/
def V.isCell : V → Bool
  | .cell _ => true
  | .int _ => false
def V.num : V → Int
  | .cell n => n
  | .int n => n
def V.tag : V → Str
  | .cell _ => "cell"
  | .int _ => "int"
def HS.cellOf (H : HS) : V → Option C
  | .cell n => getK n H.cells
  | .int _ => none
def HS.isRef (H : HS) (v : V) : Bool := match H.cellOf v with
  | some c => decide (c.sort = .ref)
  | none => false

theorem isRef_some {H : HS} {v : V} {c : C} (h : H.cellOf v = some c) : H.isRef v = decide (c.sort = .ref) := by unfold HS.isRef; rw [h]
theorem isRef_none {H : HS} {v : V} (h : H.cellOf v = none) : H.isRef v = false := by unfold HS.isRef; rw [h]
theorem cellOf_get {H : HS} {v : V} {c : C} (h : H.cellOf v = some c) : getK v.num H.cells = some c := by
  cases v
  · cases h
  · exact h

section
variable {st : ASt}
theorem str_beq (x y : Str) : PyData.eqv (.str x) (.str y) = decide (x = y) := by rw [PyData.eqv]; rfl
theorem int_beq (x y : Int) : PyData.eqv (.int x) (.int y) = decide (x = y) := by rw [PyData.eqv]; rfl
theorem aeq_int {a b : Int} : aeq (.int a) (.int b) st = some (decide (a = b), st) := by
  show some (PyData.eqv (.int a) (.int b), st) = _
  rw [int_beq]
theorem aeq_str {a b : Str} (ha : PyData.strOk a = true) (hb : PyData.strOk b = true) : aeq (.str a) (.str b) st = some (decide (a = b), st) := by
  show (if (PyData.str a).canLay0 && (PyData.str b).canLay0 then some (PyData.eqv (.str a) (.str b), st) else none) = _
  rw [PyData.canLay0, PyData.canLay0, ha, hb, str_beq]; rfl
theorem encK_ok (a : K) : PyData.strOk (encK a) = true := by cases a <;> decide +kernel
theorem encK_eq (a b : K) : decide (encK a = encK b) = decide (a = b) := by cases a <;> cases b <;> decide +kernel
theorem aeq_sort {a b : K} : aeq (.str (encK a)) (.str (encK b)) st = some (decide (a = b), st) := by
  rw [aeq_str (encK_ok a) (encK_ok b), encK_eq]
theorem aeq_ref {a : K} : aeq (.str (encK a)) (.str "ref") st = some (decide (a = .ref), st) := aeq_sort (b := .ref)
theorem aeq_object {a : K} : aeq (.str (encK a)) (.str "object") st = some (decide (a = .object), st) := aeq_sort (b := .object)
theorem V.tag_ok (v : V) : PyData.strOk v.tag = true := by
  cases v
  · show PyData.strOk ("int" : Str) = true; decide +kernel
  · show PyData.strOk ("cell" : Str) = true; decide +kernel
theorem aeq_tagc {v : V} : aeq (.str v.tag) (.str "cell") st = some (v.isCell, st) := by
  rw [aeq_str (V.tag_ok v) (by decide +kernel)]
  cases v
  · rfl
  · rfl
theorem aeq_tagi {v : V} : aeq (.str v.tag) (.str "int") st = some (!v.isCell, st) := by
  rw [aeq_str (V.tag_ok v) (by decide +kernel)]
  cases v
  · rfl
  · rfl
def V.dat : V → PyData
  | .int n => .tuple [.str "int", .int n]
  | .cell n => .tuple [.str "cell", .int n]
theorem V.dat_ok (v : V) : v.dat.canLay0 = true := by
  cases v <;> · simp only [V.dat, PyData.canLay0, PyData.canLayAll0]; decide +kernel
theorem V.dat_eq (v w : V) : PyData.eqv v.dat w.dat = decide (v = w) := by
  cases v <;> cases w <;> simp only [V.dat, PyData.eqv, PyData.eqvAll, Bool.and_true]
  · rw [show (("int" : Str) == ("int" : Str)) = true by decide +kernel]
    rename_i a b
    by_cases q : a = b
    · subst q; simp
    · simp [q]
  · rw [show (("int" : Str) == ("cell" : Str)) = false by decide +kernel]; simp
  · rw [show (("cell" : Str) == ("int" : Str)) = false by decide +kernel]; simp
  · rw [show (("cell" : Str) == ("cell" : Str)) = true by decide +kernel]
    rename_i a b
    by_cases q : a = b
    · subst q; simp
    · simp [q]
theorem dataOf_enc (n : Nat) (v : V) : dataOf st (n + 2) (enc v) = some v.dat := by cases v <;> rfl
theorem aeq_enc {v w : V} : aeq (enc v) (enc w) st = some (decide (v = w), st) := by
  unfold aeq
  rw [dataOf_enc 6 v, dataOf_enc 6 w]
  show (if v.dat.canLay0 && w.dat.canLay0 then some (PyData.eqv v.dat w.dat, st) else none) = _
  rw [v.dat_ok, w.dat_ok, V.dat_eq]; rfl
end

/-- names with their values, whatever else there is -/
def Has (env : AEnv) (sc : Scope) (L : List (Str × AVal)) : Prop := env.sc = sc ∧ ∀ x v, L.lookup x = some v → env.vars.lookup x = some v
theorem lookup_setv {x y : Str} {v : AVal} : ∀ {l : List (Str × AVal)}, (setv x v l).lookup y = if y = x then some v else l.lookup y
  | [] => by
    show List.lookup y [(x, v)] = _
    rw [List.lookup_cons]
    by_cases q : y = x
    · subst q; simp
    · rw [if_neg q]
      have : (y == x) = false := by simpa using q
      rw [this]
  | (z, w) :: r => by
    show List.lookup y (if z == x then (z, v) :: r else (z, w) :: setv x v r) = _
    by_cases q : z = x
    · subst q
      rw [if_pos (by simp), List.lookup_cons]
      by_cases q2 : y = z
      · subst q2; simp
      · have : (y == z) = false := by simpa using q2
        rw [this, if_neg q2, List.lookup_cons, this]
    · rw [if_neg (by simpa using q), List.lookup_cons, lookup_setv, List.lookup_cons]
      by_cases q2 : y = z
      · subst q2; simp [q]
      · have : (y == z) = false := by simpa using q2
        rw [this]
theorem Has.of {env : AEnv} {sc : Scope} {L : List (Str × AVal)} (h1 : env.sc = sc) (h2 : env.vars = L) : Has env sc L := ⟨h1, fun _ _ h => by rw [h2]; exact h⟩
theorem Has.get {env : AEnv} {sc : Scope} {L : List (Str × AVal)} {x : Str} {v : AVal} (h : Has env sc L) (hr : readable (sc.names.lookup x) = true) (hv : L.lookup x = some v) : env.get x = some v := by
  unfold AEnv.get
  rw [h.1, hr]; exact h.2 _ _ hv
theorem Has.set {env : AEnv} {sc : Scope} {L : List (Str × AVal)} {x : Str} (v : AVal) (h : Has env sc L) : Has { env with vars := setv x v env.vars } sc ((x, v) :: L) := by
  refine ⟨h.1, fun y w q => ?_⟩
  rw [List.lookup_cons] at q
  show (setv x v env.vars).lookup y = some w
  rw [lookup_setv]
  by_cases e : y = x
  · subst e; simp at q; rw [if_pos rfl, q]
  · have : (y == x) = false := by simpa using e
    rw [this] at q
    rw [if_neg e]; exact h.2 _ _ q
/-- all the names of L are in L' with the same values -/
def subL (L L' : List (Str × AVal)) : Prop := ∀ x v, L.lookup x = some v → L'.lookup x = some v
theorem Has.weak {env : AEnv} {sc : Scope} {L L' : List (Str × AVal)} (h : Has env sc L') (s : subL L L') : Has env sc L := ⟨h.1, fun x v q => h.2 x v (s x v q)⟩
theorem subL_nil {L : List (Str × AVal)} : subL [] L := fun _ _ h => by cases h
theorem subL_cons {x : Str} {v : AVal} {L L' : List (Str × AVal)} (h : L'.lookup x = some v) (k : subL L L') : subL ((x, v) :: L) L' := fun y w q => by
  rw [List.lookup_cons] at q
  by_cases e : y = x
  · subst e; simp at q; rw [← q]; exact h
  · have : (y == x) = false := by simpa using e
    rw [this] at q; exact k y w q

section
variable {wh : ((AEnv × ASt) → Option (Sum (AEnv × ASt) ((Out × AEnv) × ASt))) → AEnv × ASt → Option ((Out × AEnv) × ASt)} {n : Nat} {env : AEnv} {st : ASt} {Q : AVal → ASt → Prop} {E : AEnv → ASt → Prop} {B : Bool → ASt → Prop} {U : Unit → ASt → Prop} {p : Pos} {x : Str} {r : Rec}
theorem call_f {f nm : Str} {pr : Arguments} {bd : List Stmt} {sc : Scope} {ps : Pos} {args : List AVal} (hd : fnOfTab f = some ⟨nm, pr, bd, sc, ps⟩) (hc : (f == ("Cell" : Str) || f == ("Counted" : Str)) = false) (hp : pr.args.length = args.length ∧ (plainParams pr && bodyOk (pr.args.map (·.arg)) sc) = true)
  (k : wp (exs (R wh n) bd { sc := sc, vars := (pr.args.map (·.arg)).zip args }) st fun x st' => Q (retOf x.1) st') : wp ((R wh (n + 1)).call f args) st Q := call_fn hd hc hp k

theorem br_t {b : Bool} {A B : Prop} (h : b = true) (k : A) : (b = true → A) ∧ (b = false → B) := ⟨fun _ => k, fun q => by rw [h] at q; cases q⟩
theorem br_f {b : Bool} {A B : Prop} (h : b = false) (k : B) : (b = true → A) ∧ (b = false → B) := ⟨fun q => by rw [h] at q; (cases q), fun _ => k⟩
theorem br_f' {b : Bool} {A B : Prop} (h : b = false) (k : A) : (b = false → A) ∧ (b = true → B) := ⟨fun _ => k, fun q => by rw [h] at q; cases q⟩
theorem br_t' {b : Bool} {A B : Prop} (h : b = true) (k : B) : (b = false → A) ∧ (b = true → B) := ⟨fun q => by rw [h] at q; (cases q), fun _ => k⟩
theorem meth_l {id : Nat} {l : List AVal} {es : List Expr} {m : Str} (hl : st.At id (.list l)) (k : wp (evs r env es) st fun vs st' => wp (methL id m vs) st' Q) : ∃ i, AVal.obj id = .obj i ∧ ((∃ l, st.At i (.list l)) ∧ wp (evs r env es) st (fun vs st'' => wp (methL i m vs) st'' Q) ∨ (∃ l, st.At i (.idict l)) ∧ wp (evs r env es) st (fun vs st'' => wp (methI i m vs) st'' Q)) := ⟨id, rfl, .inl ⟨⟨l, hl⟩, k⟩⟩
theorem meth_i {id : Nat} {l : List (Int × AVal)} {es : List Expr} {m : Str} (hl : st.At id (.idict l)) (k : wp (evs r env es) st fun vs st' => wp (methI id m vs) st' Q) : ∃ i, AVal.obj id = .obj i ∧ ((∃ l, st.At i (.list l)) ∧ wp (evs r env es) st (fun vs st'' => wp (methL i m vs) st'' Q) ∨ (∃ l, st.At i (.idict l)) ∧ wp (evs r env es) st (fun vs st'' => wp (methI i m vs) st'' Q)) := ⟨id, rfl, .inr ⟨⟨l, hl⟩, k⟩⟩

theorem glob_has {sc : Scope} {L : List (Str × AVal)} {f : Str} (h : Has env sc L) : isGlob env f = isGlob ⟨sc, []⟩ f := by unfold isGlob; rw [h.1]
theorem ev_callH {n : Nat} {sc : Scope} {L : List (Str × AVal)} {args : List Expr} {f : Str} {q : Pos} (h : Has env sc L) (hf : (f == ("list" : Str)) = false ∧ builtin1 f = false) (hg : (isGlob ⟨sc, []⟩ f && args.all notStar && decide (args.length < 8)) = true)
  (k : wp (evs (R wh n) env args) st fun vs st' => wp ((R wh n).call f vs) st' Q) : wp ((R wh (n + 1)).ev (.Call (.Name f q) args [] p) env) st Q := ev_call hf (by rw [glob_has h]; exact hg) k
theorem as_nameH {sc : Scope} {L : List (Str × AVal)} {v : AVal} (h : Has env sc L) (hb : bindable (sc.names.lookup x) = true) (q : ∀ env', Has env' sc ((x, v) :: L) → E env' st) : wp (assignT r (.Name x p) env v) st E :=
  as_name (by unfold AEnv.set; rw [h.1, hb]; rfl) (q _ (h.set v))
theorem bts_nameH {sc : Scope} {L : List (Str × AVal)} {ts : List Expr} {v : AVal} {vs : List AVal} (h : Has env sc L) (hb : bindable (sc.names.lookup x) = true) (q : ∀ env', Has env' sc ((x, v) :: L) → wp (bindTs r ts env' vs) st E) : wp (bindTs r (.Name x p :: ts) env (v :: vs)) st E :=
  bts_name (by unfold AEnv.set; rw [h.1, hb]; rfl) (q _ (h.set v))
theorem bts_sub {o i : Expr} {ts : List Expr} {v : AVal} {vs : List AVal} (k : wp (r.ev o env) st fun ov st' => wp (r.ev i env) st' fun iv st' => wp (itemSet ov iv v) st' fun _ st'' => wp (bindTs r ts env vs) st'' E) : wp (bindTs r (.Subscript o i p :: ts) env (v :: vs)) st E :=
  wp_bind (wp_bind (wp_mono k fun _ _ k => wp_bind (wp_mono k fun _ _ k => wp_bind (wp_mono k fun _ _ k => wp_pure k))))

theorem ev_dict0 {n : Nat} (k : wp (newD (.idict [])) st fun id st' => Q (.obj id) st') : wp ((R wh (n + 1)).ev (.Dict [] [] p) env) st Q := by
  exact wp_bind (wp_of (a := []) (st' := st) rfl (wp_true (by rfl) (wp_bind (wp_mono k fun _ _ q => wp_pure q))))
theorem call_init {n : Nat} {f : Str} {pr : Arguments} {bd : List Stmt} {sc : Scope} {args : List AVal} (hf : (f == ("Cell" : Str) || f == ("Counted" : Str)) = true) (hi : initOf f = some (pr, bd, sc)) (hp : pr.args.length = args.length + 1 ∧ (plainParams pr && bodyOk (pr.args.map (·.arg)) sc) = true)
  (k : wp (newD (.sdict [])) st fun id st' => wp (exs (R wh n) bd { sc := sc, vars := (pr.args.map (·.arg)).zip (.inst f id :: args) }) st' fun x st'' => retOf x.1 = .none ∧ Q (.inst f id) st'') : wp ((R wh (n + 1)).call f args) st Q := by
  show wp (if (f == ("Cell" : Str) || f == ("Counted" : Str)) = true then (match initOf f with
    | some (a, b, s) => do
      let id ← newD (.sdict [])
      let v ← runBody (R wh n) a b s (.inst f id :: args)
      match v with
      | .none => pure (.inst f id)
      | _ => fail
    | none => fail) else _) st Q
  refine wp_true hf ?_
  rw [hi]
  refine wp_bind (wp_mono k fun id st' k => wp_bind ?_)
  refine wp_true hp (wp_bind (wp_mono k ?_))
  rintro ⟨o, env'⟩ st'' ⟨e, q⟩
  cases o
  · exact wp_pure (wp_pure q)
  · cases e; exact wp_pure (wp_pure q)

/-! typed access -/
theorem item_v0 {v : V} (q : Q (.str v.tag) st) : wp (itemGet (enc v) (.int 0)) st Q := by
  cases v <;> exact item_tup (by decide) rfl q
theorem item_v1c {n : Int} (q : Q (.int n) st) : wp (itemGet (enc (.cell n)) (.int 1)) st Q := item_tup (by decide) rfl q
theorem item_v1 {v : V} (q : Q (.int v.num) st) : wp (itemGet (enc v) (.int 1)) st Q := by
  cases v <;> exact item_tup (by decide) rfl q
theorem getK_encM {k : Int} {l : List (Int × V)} : getK k (encM l) = (getK k l).map enc := getK_mapv (f := encV)
theorem putK_encM {k : Int} {v : V} {l : List (Int × V)} : putK k (enc v) (encM l) = encM (putK k v l) := putK_mapv (f := encV)
theorem delK_encM {k : Int} {l : List (Int × V)} : delK k (encM l) = encM (delK k l) := delK_mapv (f := encV)
theorem len_encM {l : List (Int × V)} : (encM l).length = l.length := List.length_map _
theorem item_m {l : List (Int × V)} {id : Nat} {k : Int} {v : V} (hl : st.At id (.idict (encM l))) (hv : getK k l = some v) (q : Q (enc v) st) : wp (itemGet (.obj id) (.int k)) st Q :=
  item_idict hl (by rw [getK_encM, hv]; rfl) q
theorem in_m {l : List (Int × V)} {id : Nat} {k : Int} (hl : st.At id (.idict (encM l))) (q : B (getK k l).isSome st) : wp (cmp .In (.int k) (.obj id)) st B :=
  cmp_in hl (by rw [getK_encM, Option.isSome_map]; exact q)
theorem get_m {l : List (Int × V)} {id : Nat} {k i : Int} (hl : st.At id (.idict (encM l))) (q : Q (enc ((getK k l).getD (.int i))) st) : wp (methI id "get" [.int k, .tup [.str "int", .int i]]) st Q :=
  m_get hl (by
    have : (getK k (encM l)).getD (.tup [.str "int", .int i]) = enc ((getK k l).getD (.int i)) := by
      rw [getK_encM]; cases getK k l <;> rfl
    rw [this]; exact q)
theorem get_mv {l : List (Int × V)} {id : Nat} {k : Int} {d : V} (hl : st.At id (.idict (encM l))) (q : Q (enc ((getK k l).getD d)) st) : wp (methI id "get" [.int k, enc d]) st Q :=
  m_get hl (by
    have : (getK k (encM l)).getD (enc d) = enc ((getK k l).getD d) := by
      rw [getK_encM]; cases getK k l <;> rfl
    rw [this]; exact q)
theorem cmp_gt {a b : Int} (q : B (decide (a > b)) st) : wp (cmp .Gt (.int a) (.int b)) st B := wp_pure q
theorem cmp_isnot_i {c : Str} {id : Nat} (q : B true st) : wp (cmp .IsNot (.inst c id) .none) st B := wp_pure q
theorem cmp_isnot_n (q : B false st) : wp (cmp .IsNot .none .none) st B := wp_pure q
theorem cmp_is_i {c : Str} {id : Nat} (q : B false st) : wp (cmp .Is (.inst c id) .none) st B := wp_pure q
theorem cmp_is_n (q : B true st) : wp (cmp .Is .none .none) st B := wp_pure q
theorem un_not {b : Bool} (q : Q (.bool !b) st) : wp (unary .Not (.bool b)) st Q := wp_bind (wp_pure (wp_pure q))
theorem un_neg {i : Int} (q : Q (.int (-i)) st) : wp (unary .USub (.int i)) st Q := wp_pure q
theorem aug_add {i j : Int} (q : Q (.int (i + j)) st) : wp (aug .Add (.int i) (.int j)) st Q := wp_pure q
theorem aug_sub {i j : Int} (q : Q (.int (i - j)) st) : wp (aug .Sub (.int i) (.int j)) st Q := wp_pure q
theorem bin_add {i j : Int} (q : Q (.int (i + j)) st) : wp (bin .Add (.int i) (.int j)) st Q := wp_pure q
theorem bin_sub {i j : Int} (q : Q (.int (i - j)) st) : wp (bin .Sub (.int i) (.int j)) st Q := wp_pure q

/-! loops -/
theorem wp_check {src : Src} {ver : Nat} (h : src.watch st = ver) (q : U () st) : wp (checkV src ver) st U := by
  refine wp_of (a := ()) (st' := st) ?_ q
  unfold checkV; rw [if_pos h]
theorem forLoop_inv {src : Src} {ver : Nat} {t : Expr} {body : List Stmt} {P : Out × AEnv → ASt → Prop} (I : List AVal → AEnv → ASt → Prop)
  (step : ∀ v vs env st, I (v :: vs) env st → src.watch st = ver ∧ wp (assignT r t env v) st fun env' st' => wp (exs r body env') st' fun x st'' => match x.1 with | .next => I vs x.2 st'' | .ret v => P (.ret v, x.2) st'')
  (fin : ∀ env st, I [] env st → src.watch st = ver ∧ P (.next, env) st) : ∀ {items : List AVal} {env : AEnv} {st : ASt}, I items env st → wp (forLoop r src ver t body items env) st P
  | [], env, st, h => wp_bind (wp_check (fin env st h).1 (wp_pure (fin env st h).2))
  | v :: vs, env, st, h => by
    obtain ⟨h1, h2⟩ := step v vs env st h
    refine wp_bind (wp_check h1 (wp_bind (wp_mono h2 fun env' st' k => wp_bind (wp_mono k ?_))))
    rintro ⟨o, env''⟩ st'' q
    cases o
    · exact forLoop_inv I step fin q
    · exact wp_pure q
theorem Has.pop {sc : Scope} {L : List (Str × AVal)} {k : Str} {v : AVal} (h : Has env sc ((k, v) :: L)) (hf : L.lookup k = none) : Has env sc L := h.weak fun y w q => by
  rw [List.lookup_cons]
  by_cases e : y = k
  · subst e; rw [hf] at q; cases q
  · have : (y == k) = false := by simpa using e
    rw [this]; exact q
theorem forLoop_has {src : Src} {ver : Nat} {t : Expr} {body : List Stmt} {P : Out × AEnv → ASt → Prop} {sc : Scope} {L : List (Str × AVal)} (hE : Has env sc L) (I : List AVal → ASt → Prop)
  {items : List AVal} (h0 : I items st)
  (step : ∀ v vs env st, Has env sc L → I (v :: vs) st → src.watch st = ver ∧ wp (assignT r t env v) st fun env' st' => wp (exs r body env') st' fun x st'' => match x.1 with | .next => Has x.2 sc L ∧ I vs st'' | .ret v => P (.ret v, x.2) st'')
  (fin : ∀ env st, Has env sc L → I [] st → src.watch st = ver ∧ P (.next, env) st) : wp (forLoop r src ver t body items env) st P :=
  forLoop_inv (fun vs env st => Has env sc L ∧ I vs st) (fun v vs env st h => step v vs env st h.1 h.2) (fun env st h => fin env st h.1 h.2) ⟨hE, h0⟩
theorem compLoop_pure {src : Src} {ver : Nat} {t elt : Expr} {ifs : List Expr} {Q : List AVal → ASt → Prop} (I : AEnv → Prop) (g : AVal → Option AVal) (hw : src.watch st = ver) {items : List AVal} {env : AEnv}
  (step : ∀ v ∈ items, ∀ env, I env → wp (assignT r t env v) st fun env' st' => st' = st ∧ I env' ∧ wp (tests r env' ifs) st fun b st' => st' = st ∧ (b = true → wp (r.ev elt env') st fun y st' => st' = st ∧ g v = some y) ∧ (b = false → g v = none))
  (h : I env) (q : Q (items.filterMap g) st) : wp (compLoop r src ver t elt ifs items env) st Q := by
  induction items generalizing env Q with
  | nil => exact wp_bind (wp_check hw (wp_pure q))
  | cons v vs ih =>
    refine wp_bind (wp_check hw (wp_bind (wp_mono (step v (.head _) env h) ?_)))
    rintro env' st' ⟨rfl, h', k⟩
    refine wp_bind (wp_mono k ?_)
    rintro b st' ⟨rfl, k1, k2⟩
    cases b
    · have e := k2 rfl
      rw [List.filterMap_cons, e] at q
      exact ih (fun w hw => step w (.tail _ hw)) h' q
    · refine wp_bind (wp_mono (k1 rfl) ?_)
      rintro y st' ⟨rfl, e⟩
      rw [List.filterMap_cons, e] at q
      exact wp_bind (ih (Q := fun ys st'' => wp (pure (y :: ys)) st'' Q) (fun w hw => step w (.tail _ hw)) h' (wp_pure q))
theorem compLoop_has {src : Src} {ver : Nat} {t elt : Expr} {ifs : List Expr} {Q : List AVal → ASt → Prop} {sc : Scope} {L : List (Str × AVal)} (hE : Has env sc L) (g : AVal → Option AVal) (hw : src.watch st = ver) {items : List AVal}
  (step : ∀ v ∈ items, ∀ env, Has env sc L → wp (assignT r t env v) st fun env' st' => st' = st ∧ Has env' sc L ∧ wp (tests r env' ifs) st fun b st' => st' = st ∧ (b = true → wp (r.ev elt env') st fun y st' => st' = st ∧ g v = some y) ∧ (b = false → g v = none))
  (q : Q (items.filterMap g) st) : wp (compLoop r src ver t elt ifs items env) st Q := compLoop_pure (fun env => Has env sc L) g hw step hE q
theorem tests_nil {B : Bool → ASt → Prop} (q : B true st) : wp (tests r env []) st B := wp_pure q
theorem tests_one {B : Bool → ASt → Prop} {c : Expr} (k : wp (r.ev c env) st fun v st' => wp (truth v) st' B) : wp (tests r env [c]) st B :=
  wp_bind (wp_mono k fun _ _ k => wp_bind (wp_mono k fun b _ q => by
    cases b
    · exact wp_pure q
    · exact wp_pure q))

/-! sources -/
theorem src_name {Q : Src → ASt → Prop} {id : Nat} {l : List AVal} (k : wp (r.ev (.Name x p) env) st fun v st' => v = .obj id ∧ st'.At id (.list l) ∧ Q (.lst id) st') : wp (srcOf r env (.Name x p)) st Q := by
  refine wp_bind (wp_mono k ?_)
  rintro _ st' ⟨rfl, h, q⟩
  exact wp_bind (wp_getD h (wp_pure q))
theorem src_attr {Q : Src → ASt → Prop} {o : Expr} {a : Str} {id : Nat} (k : wp (r.ev (.Attribute o a p) env) st fun v st' => v = .obj id ∧ ((∃ l, st'.At id (.list l)) ∧ Q (.lst id) st' ∨ (∃ l, st'.At id (.idict l)) ∧ Q (.keys id) st')) : wp (srcOf r env (.Attribute o a p)) st Q := by
  refine wp_bind (wp_mono k ?_)
  rintro _ st' ⟨rfl, ⟨⟨l, h⟩, q⟩ | ⟨⟨l, h⟩, q⟩⟩
  · exact wp_bind (wp_getD h (wp_pure q))
  · exact wp_bind (wp_getD h (wp_pure q))
theorem src_reversed {Q : Src → ASt → Prop} {e : Expr} {f : Str} {q : Pos} (hf : f = "reversed") (h : (isGlob env f && notStar e) = true) (k : wp (r.ev e env) st fun v st' => ∃ id l, v = .obj id ∧ st'.At id (.list l) ∧ Q (.rev id) st') : wp (srcOf r env (.Call (.Name f q) [e] [] p)) st Q := by
  subst hf
  show wp (if !(isGlob env "reversed" && notStar e) then fail else _) st Q
  refine wp_guard h (wp_true (by decide +kernel) (wp_bind (wp_mono k ?_)))
  rintro _ st' ⟨id, l, rfl, h, q⟩
  exact wp_bind (wp_getD h (wp_pure q))
theorem src_enumerate {Q : Src → ASt → Prop} {e : Expr} {f : Str} {q : Pos} (hf : f = "enumerate") (h : (isGlob env f && notStar e) = true) (k : wp (r.ev e env) st fun v st' => ∃ id l, v = .obj id ∧ st'.At id (.list l) ∧ Q (.enum id) st') : wp (srcOf r env (.Call (.Name f q) [e] [] p)) st Q := by
  subst hf
  show wp (if !(isGlob env "enumerate" && notStar e) then fail else _) st Q
  refine wp_guard h (wp_false (by decide +kernel) (wp_true (by decide +kernel) (wp_bind (wp_mono k ?_))))
  rintro _ st' ⟨id, l, rfl, h, q⟩
  exact wp_bind (wp_getD h (wp_pure q))
theorem src_range {Q : Src → ASt → Prop} {e : Expr} {f : Str} {q : Pos} (hf : f = "range") (h : (isGlob env f && notStar e) = true) (k : wp (r.ev e env) st fun v st' => ∃ b, v = .int b ∧ Q (.range 0 b) st') : wp (srcOf r env (.Call (.Name f q) [e] [] p)) st Q := by
  subst hf
  show wp (if !(isGlob env "range" && notStar e) then fail else _) st Q
  refine wp_guard h (wp_false (by decide +kernel) (wp_false (by decide +kernel) (wp_true (by decide +kernel) (wp_bind (wp_mono k ?_)))))
  rintro _ st' ⟨b, rfl, q⟩
  exact wp_pure q
theorem src_range2 {Q : Src → ASt → Prop} {e e' : Expr} {f : Str} {q : Pos} (hf : f = "range") (h : (isGlob env f && notStar e && notStar e') = true) (k : wp (r.ev e env) st fun v st' => wp (r.ev e' env) st' fun v' st' => ∃ a b, v = .int a ∧ v' = .int b ∧ Q (.range a b) st') : wp (srcOf r env (.Call (.Name f q) [e, e'] [] p)) st Q := by
  subst hf
  show wp (if !(isGlob env "range" && notStar e && notStar e') then fail else _) st Q
  refine wp_guard h (wp_true (by decide +kernel) (wp_bind (wp_mono k fun v st' k => wp_bind (wp_mono k ?_))))
  rintro _ st' ⟨a, b, rfl, rfl, q⟩
  exact wp_pure q
theorem src_values {Q : Src → ASt → Prop} {o : Expr} {m : Str} {apos : Pos} (hm : m = "values") (h : (notSuper o && apos.endLine == p.line) = true) (k : wp (r.ev o env) st fun v st' => ∃ id l, v = .obj id ∧ st'.At id (.idict l) ∧ Q (.values id) st') : wp (srcOf r env (.Call (.Attribute o m apos) [] [] p)) st Q := by
  subst hm
  show wp (if !(notSuper o && apos.endLine == p.line) then fail else _) st Q
  refine wp_guard h (wp_true (by decide +kernel) (wp_bind (wp_mono k ?_)))
  rintro _ st' ⟨id, l, rfl, h, q⟩
  exact wp_bind (wp_getD h (wp_pure q))
theorem src_items {Q : Src → ASt → Prop} {o : Expr} {m : Str} {apos : Pos} (hm : m = "items") (h : (notSuper o && apos.endLine == p.line) = true) (k : wp (r.ev o env) st fun v st' => ∃ id l, v = .obj id ∧ st'.At id (.idict l) ∧ Q (.items id) st') : wp (srcOf r env (.Call (.Attribute o m apos) [] [] p)) st Q := by
  subst hm
  show wp (if !(notSuper o && apos.endLine == p.line) then fail else _) st Q
  refine wp_guard h (wp_false (by decide +kernel) (wp_true (by decide +kernel) (wp_bind (wp_mono k ?_))))
  rintro _ st' ⟨id, l, rfl, h, q⟩
  exact wp_bind (wp_getD h (wp_pure q))
theorem src_sub {Q : Src → ASt → Prop} {o i : Expr} (k : wp (r.ev (.Subscript o i p) env) st fun v st' => ∃ id, v = .obj id ∧ ((∃ l, st'.At id (.list l)) ∧ Q (.lst id) st' ∨ (∃ l, st'.At id (.idict l)) ∧ Q (.keys id) st')) : wp (srcOf r env (.Subscript o i p)) st Q := by
  refine wp_bind (wp_mono k ?_)
  rintro _ st' ⟨id, rfl, ⟨⟨l, h⟩, q⟩ | ⟨⟨l, h⟩, q⟩⟩
  · exact wp_bind (wp_getD h (wp_pure q))
  · exact wp_bind (wp_getD h (wp_pure q))
variable {L : List AVal → ASt → Prop}
theorem its_keys {id : Nat} {l : List (Int × AVal)} (h : st.At id (.idict l)) (q : L (l.map fun p => .int p.1) st) : wp (srcItems (.keys id)) st L := wp_bind (wp_getD h (wp_pure q))
theorem its_values {id : Nat} {l : List (Int × AVal)} (h : st.At id (.idict l)) (q : L (l.map fun p => p.2) st) : wp (srcItems (.values id)) st L := wp_bind (wp_getD h (wp_pure q))
theorem its_items {id : Nat} {l : List (Int × AVal)} (h : st.At id (.idict l)) (q : L (l.map fun p => .tup [.int p.1, p.2]) st) : wp (srcItems (.items id)) st L := wp_bind (wp_getD h (wp_pure q))
theorem its_lst {id : Nat} {l : List AVal} (h : st.At id (.list l)) (q : L l st) : wp (srcItems (.lst id)) st L := wp_bind (wp_getD h (wp_pure q))
theorem its_rev {id : Nat} {l : List AVal} (h : st.At id (.list l)) (q : L l.reverse st) : wp (srcItems (.rev id)) st L := wp_bind (wp_getD h (wp_pure q))
theorem its_enum {id : Nat} {l : List AVal} (h : st.At id (.list l)) (q : L (l.zipIdx.map fun p => .tup [.int (p.2 : Int), p.1]) st) : wp (srcItems (.enum id)) st L := wp_bind (wp_getD h (wp_pure q))
theorem its_range {a b : Int} (h : (0 ≤ a ∧ a ≤ 1000) ∧ -1000 ≤ b ∧ b ≤ 1000) (q : L ((List.range (b - a).toNat).map fun (k : Nat) => .int (a + (k : Int))) st) : wp (srcItems (.range a b)) st L := wp_true h (wp_pure q)
end

/-! typed writes on the heap -/
section
variable {X : HIds} {loc : Loc} {H : HS} {F : Frm} {st : ASt} {U : Unit → ASt → Prop} {Q : AVal → ASt → Prop} {n : Int} {c : C}
theorem item_cells (r : Rep X loc H F st) (h : getK n H.cells = some c) (q : Q (.inst "Cell" (loc.cell n)) st) : wp (itemGet (.obj X.cells) (.int n)) st Q :=
  item_idict r.cells (by unfold cellsA; rw [getK_mapv, h]; rfl) q
theorem get_cells_s (r : Rep X loc H F st) (h : getK n H.cells = some c) (q : Q (.inst "Cell" (loc.cell n)) st) : wp (methI X.cells "get" [.int n]) st Q :=
  m_get1 r.cells (by unfold cellsA; rw [getK_mapv, h]; exact q)
theorem get_cells_n (r : Rep X loc H F st) (h : getK n H.cells = none) (q : Q .none st) : wp (methI X.cells "get" [.int n]) st Q :=
  m_get1 r.cells (by unfold cellsA; rw [getK_mapv, h]; exact q)
theorem set_count {k : Int} (r : Rep X loc H F st) (h : getK n H.cells = some c) (q : ∀ st', Rep X loc (H.setC n { c with count := k }) F st' → (∀ m, (getK m H.cells).isSome → st'.get (loc.slot m) = st.get (loc.slot m)) → U () st') : wp (attrSet (.inst "Cell" (loc.cell n)) "count" (.int k)) st U :=
  attr_set rfl (r.cell h) (by show (10 : Nat) ≤ 100; decide) (q _ (r.put_cell h rfl rfl) fun m hm => by
    refine if_neg fun e => ?_
    have := r.inj (.slot m) (.cell n) (by show ((getK m H.cells).map _).isSome = true; rw [Option.isSome_map]; exact hm) (by show ((getK n H.cells).map _).isSome = true; rw [h]; rfl) e
    cases this)
theorem set_colour {k : Str} (r : Rep X loc H F st) (h : getK n H.cells = some c) (q : ∀ st', Rep X loc (H.setC n { c with colour := k }) F st' → U () st') : wp (attrSet (.inst "Cell" (loc.cell n)) "colour" (.str k)) st U :=
  attr_set rfl (r.cell h) (by show (10 : Nat) ≤ 100; decide) (q _ (r.put_cell h rfl rfl))
theorem set_buf {k : Bool} (r : Rep X loc H F st) (h : getK n H.cells = some c) (q : ∀ st', Rep X loc (H.setC n { c with buf := k }) F st' → U () st') : wp (attrSet (.inst "Cell" (loc.cell n)) "is_buffered" (.bool k)) st U :=
  attr_set rfl (r.cell h) (by show (10 : Nat) ≤ 100; decide) (q _ (r.put_cell h rfl rfl))
theorem set_hasD {k : Bool} (r : Rep X loc H F st) (h : getK n H.cells = some c) (q : ∀ st', Rep X loc (H.setC n { c with hasD := k }) F st' → U () st') : wp (attrSet (.inst "Cell" (loc.cell n)) "has_destructor" (.bool k)) st U :=
  attr_set rfl (r.cell h) (by show (10 : Nat) ≤ 100; decide) (q _ (r.put_cell h rfl rfl))
theorem set_isD {k : Bool} (r : Rep X loc H F st) (h : getK n H.cells = some c) (q : ∀ st', Rep X loc (H.setC n { c with isD := k }) F st' → U () st') : wp (attrSet (.inst "Cell" (loc.cell n)) "is_destructed" (.bool k)) st U :=
  attr_set rfl (r.cell h) (by show (10 : Nat) ≤ 100; decide) (q _ (r.put_cell h rfl rfl))
theorem set_fr {k : Bool} (r : Rep X loc H F st) (h : getK n H.cells = some c) (q : ∀ st', Rep X loc (H.setC n { c with fr := k }) F st' → U () st') : wp (attrSet (.inst "Cell" (loc.cell n)) "is_freed" (.bool k)) st U :=
  attr_set rfl (r.cell h) (by show (10 : Nat) ≤ 100; decide) (q _ (r.put_cell h rfl rfl))
theorem set_weak (r : Rep X loc H F st) (h : getK n H.cells = some c) (q : ∀ st', Rep X loc (H.setC n c) F st' → U () st') : wp (attrSet (.inst "Cell" (loc.cell n)) "weak" .none) st U :=
  attr_set rfl (r.cell h) (by show (10 : Nat) ≤ 100; decide) (q _ (r.put_cell h rfl rfl))
theorem set_last {k : Int} (r : Rep X loc H F st) (q : ∀ st', Rep X loc { H with last := k } F st' → U () st') : wp (attrSet (.inst "Counted" X.root) "last" (.int k)) st U :=
  attr_set rfl r.root (by show (9 : Nat) ≤ 100; decide) (q _ (r.put_root (a := k) (b := H.freed) rfl))
theorem set_freed {k : Int} (r : Rep X loc H F st) (q : ∀ st', Rep X loc { H with freed := k } F st' → U () st') : wp (attrSet (.inst "Counted" X.root) "freed" (.int k)) st U :=
  attr_set rfl r.root (by show (9 : Nat) ≤ 100; decide) (q _ (r.put_root (a := H.last) (b := k) rfl))
theorem log_append {l : L} (r : Rep X loc H F st) (hz : H.log.length ≤ 1000000) (q : ∀ st', Rep X loc { H with log := H.log ++ [l] } F st' → Q .none st') : wp (methL X.log "append" [encL l]) st Q :=
  m_append r.log (by rw [List.length_map]; exact hz) (q _ (r.put_log (by rw [List.map_append]; rfl)))
theorem buf_append {m : Int} (r : Rep X loc H F st) (hz : H.buffer.length ≤ 1000000) (q : ∀ st', Rep X loc { H with buffer := H.buffer ++ [m] } F st' → Q .none st') : wp (methL X.buffer "append" [.int m]) st Q :=
  m_append r.buffer (by rw [List.length_map]; exact hz) (q _ (r.put_buffer (by rw [List.map_append]; rfl)))
theorem buf_remove {m : Int} (r : Rep X loc H F st) (hm : m ∈ H.buffer) (hz : H.buffer.length ≤ 1000000) (q : ∀ st', Rep X loc { H with buffer := H.buffer.erase m } F st' → Q .none st') : wp (methL X.buffer "remove" [.int m]) st Q := by
  have e : ∀ l : List Int, (l.map AVal.int).eraseP (eqIntA m) = (l.erase m).map AVal.int := fun l => by
    induction l with
    | nil => rfl
    | cons a l ih =>
      rw [List.map_cons, List.eraseP_cons, List.erase_cons]
      show (bif (a == m) then _ else _) = _
      cases q : (a == m)
      · show _ :: _ = _; rw [ih]; rfl
      · rfl
  refine m_remove r.buffer ?_ (by rw [e]; exact q _ (r.put_buffer rfl))
  rw [List.length_map, decide_eq_true hz, Bool.and_true, Bool.and_eq_true]
  refine ⟨List.all_eq_true.mpr fun x hx => ?_, List.any_eq_true.mpr ⟨.int m, List.mem_map.mpr ⟨m, hm, rfl⟩, by show (m == m) = true; simp⟩⟩
  obtain ⟨i, _, rfl⟩ := List.mem_map.mp hx; rfl
theorem set_vars {k : Int} {v : V} (r : Rep X loc H F st) (hz : H.vars.length ≤ 1000000) (q : ∀ st', Rep X loc { H with vars := putK k v H.vars } F st' → U () st') : wp (itemSet (.obj X.vars) (.int k) (enc v)) st U :=
  set_idict r.vars (by rw [len_encM]; exact hz) (q _ (r.put_vars (by rw [putK_encM])))
theorem set_slot {k : Int} {v : V} (r : Rep X loc H F st) (h : getK n H.cells = some c) (hz : c.slots.length ≤ 1000000) (q : ∀ st', Rep X loc (H.setC n { c with slots := putK k v c.slots }) F st' → (∀ m, m ≠ n → (getK m H.cells).isSome → st'.get (loc.slot m) = st.get (loc.slot m)) → U () st') : wp (itemSet (.obj (loc.slot n)) (.int k) (enc v)) st U :=
  set_idict (r.slot h) (by rw [len_encM]; exact hz) (q _ (r.put_slot h (by rw [putK_encM])) fun m hm hs => by
    refine if_neg fun e => ?_
    have := r.inj (.slot m) (.slot n) (by show ((getK m H.cells).map _).isSome = true; rw [Option.isSome_map]; exact hs) (by show ((getK n H.cells).map _).isSome = true; rw [h]; rfl) e
    cases this; exact hm rfl)
theorem wp_new {Q : Nat → ASt → Prop} {d : AData} (r : Rep X loc H F st) (q : ∀ id st', Rep X loc H (F.add id ⟨0, d⟩) st' → (∀ o, ¬ F id o) → st' = st.new d → Q id st') : wp (newD d) st Q :=
  wp_newD (q _ _ r.new (fun o h => Nat.lt_irrefl _ (r.frame _ o h).1) rfl)
/-- a temporary gets new data -/
theorem Rep.put_tmp {i : Nat} {o : AObj} {d : AData} (r : Rep X loc H (F.add i o) st) (hF : ∀ o, ¬ F i o) : Rep X loc H (F.add i ⟨o.ver + 1, d⟩) (st.put i d) := by
  have oi := r.frame i o (.inr ⟨rfl, rfl⟩)
  refine ⟨fun t d' h => At_put_ne (r.dat t d' h) (r.off i o (.inr ⟨rfl, rfl⟩) t (by rw [h]; rfl)), r.inj, fun j p h => ?_, fun j p h t ht => ?_⟩
  · rcases h with h | ⟨rfl, rfl⟩
    · exact Ob_put_ne (r.frame j p (.inl h)) fun e => hF p (e ▸ h)
    · exact ⟨oi.1, by show (if j = j then (⟨_, d⟩ : AObj) else _) = _; rw [if_pos rfl, oi.2]⟩
  · rcases h with h | ⟨rfl, rfl⟩
    · exact r.off j p (.inl h) t ht
    · exact r.off j o (.inr ⟨rfl, rfl⟩) t ht
end

inductive Pl where
  | vars | slots (n : Int)
def HS.pl (H : HS) : Pl → Option (List (Int × V))
  | .vars => some H.vars
  | .slots n => (getK n H.cells).map (·.slots)
def HS.setPl (H : HS) (p : Pl) (l : List (Int × V)) : HS := match p with
  | .vars => { H with vars := l }
  | .slots n => match getK n H.cells with
    | some c => H.setC n { c with slots := l }
    | none => H
def Pl.id (X : HIds) (loc : Loc) : Pl → Nat
  | .vars => X.vars
  | .slots n => loc.slot n
theorem Rep.pl {X : HIds} {loc : Loc} {H : HS} {F : Frm} {st : ASt} {p : Pl} {l : List (Int × V)} (r : Rep X loc H F st) (h : H.pl p = some l) : st.At (p.id X loc) (.idict (encM l)) := by
  cases p with
  | vars => cases h; exact r.vars
  | slots n =>
    have h : (getK n H.cells).map (·.slots) = some l := h
    cases e : getK n H.cells with
    | none => rw [e] at h; cases h
    | some c => rw [e] at h; cases h; exact r.slot e
theorem Rep.put_pl {X : HIds} {loc : Loc} {H : HS} {F : Frm} {st : ASt} {p : Pl} {l l' : List (Int × V)} (r : Rep X loc H F st) (h : H.pl p = some l) : Rep X loc (H.setPl p l') F (st.put (p.id X loc) (.idict (encM l'))) := by
  cases p with
  | vars => exact r.put_vars rfl
  | slots n =>
    have h : (getK n H.cells).map (·.slots) = some l := h
    cases e : getK n H.cells with
    | none => rw [e] at h; cases h
    | some c =>
      have := r.put_slot (l := l') e rfl
      show Rep X loc (match getK n H.cells with | some c => H.setC n { c with slots := l' } | none => H) F _
      rw [e]; exact this

section
variable {X : HIds} {loc : Loc} {H H' : HS} {F : Frm} {st : ASt} {wh : ((AEnv × ASt) → Option (Sum (AEnv × ASt) ((Out × AEnv) × ASt))) → AEnv × ASt → Option ((Out × AEnv) × ASt)} {n : Nat} {v w : V} {c : C} {Q : AVal → ASt → Prop} {U : Unit → ASt → Prop} {p : Pl} {k : Int}

theorem item_pl {l : List (Int × V)} (r : Rep X loc H F st) (h : H.pl p = some l) (hv : getK k l = some v) (q : Q (enc v) st) : wp (itemGet (.obj (p.id X loc)) (.int k)) st Q := item_m (r.pl h) hv q
theorem in_pl {B : Bool → ASt → Prop} {l : List (Int × V)} (r : Rep X loc H F st) (h : H.pl p = some l) (q : B (getK k l).isSome st) : wp (cmp .In (.int k) (.obj (p.id X loc))) st B := in_m (r.pl h) q
theorem set_pl {l : List (Int × V)} (r : Rep X loc H F st) (h : H.pl p = some l) (hz : l.length ≤ 1000000) (q : ∀ st', Rep X loc (H.setPl p (putK k v l)) F st' → U () st') : wp (itemSet (.obj (p.id X loc)) (.int k) (enc v)) st U :=
  set_idict (r.pl h) (by rw [len_encM]; exact hz) (by rw [putK_encM]; exact q _ (r.put_pl h))
theorem pop_pl {l : List (Int × V)} (r : Rep X loc H F st) (h : H.pl p = some l) (hv : getK k l = some v) (hz : l.length ≤ 1000000) (q : ∀ st', Rep X loc (H.setPl p (delK k l)) F st' → Q (enc v) st') : wp (methI (p.id X loc) "pop" [.int k]) st Q :=
  m_popk (r.pl h) (by rw [getK_encM, hv]; rfl) (by rw [len_encM]; exact hz) (by rw [delK_encM]; exact q _ (r.put_pl h))

end
theorem Rep.top {X : HIds} {loc : Loc} {H : HS} {F : Frm} {st : ASt} {i vr : Nat} {d : AData} (r : Rep X loc H (F.add i ⟨vr, d⟩) st) : st.At i d := (r.frame i _ (.inr ⟨rfl, rfl⟩)).at
theorem Rep.top2 {X : HIds} {loc : Loc} {H : HS} {F : Frm} {st : ASt} {i j vr : Nat} {d : AData} {o : AObj} (r : Rep X loc H ((F.add i ⟨vr, d⟩).add j o) st) : st.At i d := (r.frame i _ (.inl (.inr ⟨rfl, rfl⟩))).at
theorem Rep.mid {X : HIds} {loc : Loc} {H : HS} {F : Frm} {st : ASt} {i j : Nat} {o o' : AObj} (r : Rep X loc H ((F.add i o).add j o') st) : Rep X loc H (F.add j o') st := r.mono fun _ _ h => h.elim (fun h => .inl (.inl h)) .inr
theorem Frm.sub {F : Frm} {i j : Nat} {o : AObj} (h : ∀ p, ¬ (F.add i o) j p) : ∀ p, ¬ F j p := fun p q => h p (.inl q)
theorem isSome_t {α : Type} {o : Option α} {a : α} (h : o = some a) : o.isSome = true := by rw [h]; rfl
theorem isSome_f {α : Type} {o : Option α} (h : o = none) : o.isSome = false := by rw [h]; rfl

/-- an attribute of a temporary -/
theorem set_tmp {X : HIds} {loc : Loc} {H : HS} {F : Frm} {st : ASt} {U : Unit → ASt → Prop} {i vr : Nat} {l : List (Str × AVal)} {c a : Str} {v : AVal} (r : Rep X loc H (F.add i ⟨vr, .sdict l⟩) st) (hF : ∀ o, ¬ F i o) (h : (attrsOf c).contains a = true) (hz : l.length ≤ 100) (q : ∀ st', Rep X loc H (F.add i ⟨vr + 1, .sdict (putK a v l)⟩) st' → U () st') : wp (attrSet (.inst c i) a v) st U :=
  attr_set h (r.frame _ _ (.inr ⟨rfl, rfl⟩)).at hz (q _ (r.put_tmp hF))
theorem Rep.swap {X : HIds} {loc : Loc} {H : HS} {F : Frm} {st : ASt} {i j : Nat} {o p : AObj} (r : Rep X loc H ((F.add i o).add j p) st) : Rep X loc H ((F.add j p).add i o) st :=
  r.mono fun _ _ h => h.elim (fun h => h.elim (fun h => .inl (.inl h)) .inr) fun h => .inl (.inr h)

end
/-! ready-made steps -/
local macro_rules | `(tactic| walk_at "at") => `(tactic| first
  | assumption
  | exact Rep.root (by assumption)
  | exact Rep.cells (by assumption)
  | exact Rep.vars (by assumption)
  | exact Rep.log (by assumption)
  | exact Rep.buffer (by assumption)
  | exact Rep.tables (by assumption)
  | exact Rep.cell (by assumption) (by assumption)
  | exact Rep.slot (by assumption) (by assumption)
  | exact Rep.pl (by assumption) (by assumption)
  | exact Rep.top (by assumption)
  | exact Rep.top2 (by assumption))
local macro_rules | `(tactic| walk_at "br") => `(tactic| first
  | with_reducible refine br_t (by first | assumption | with_unfolding_all rfl) ?_
  | with_reducible refine br_f (by first | assumption | with_unfolding_all rfl) ?_
  | with_reducible refine br_f' (by first | assumption | with_unfolding_all rfl) ?_
  | with_reducible refine br_t' (by first | assumption | with_unfolding_all rfl) ?_
  | with_reducible refine br_t (isSome_t (by assumption)) ?_
  | with_reducible refine br_f (isSome_f (by assumption)) ?_)
local macro_rules | `(tactic| walk_at "step") => `(tactic| first
  | with_reducible refine ev_name (by with_unfolding_all rfl) (by with_unfolding_all rfl) ?_
  | with_reducible refine ev_name (by with_unfolding_all rfl) (Has.get (by assumption) (by with_unfolding_all rfl) (by with_unfolding_all rfl)) ?_
  | with_reducible refine ev_const (by with_unfolding_all rfl) ?_
  | with_reducible refine ev_attr (by with_unfolding_all rfl) ?_
  | with_reducible refine ev_upto ?_
  | with_reducible refine ev_back ?_
  | with_reducible refine ev_sub (by with_unfolding_all rfl) ?_
  | with_reducible refine ev_call (by decide +kernel) (by with_unfolding_all rfl) ?_
  | with_reducible refine ev_callH (by assumption) (by decide +kernel) (by with_unfolding_all rfl) ?_
  | with_reducible refine ev_meth (by with_unfolding_all rfl) ?_
  | with_reducible refine ev_tuple (by with_unfolding_all rfl) ?_
  | with_reducible refine ev_dict0 ?_
  | with_reducible refine ev_list (by with_unfolding_all rfl) ?_
  | with_reducible refine ev_cmp (by with_unfolding_all rfl) ?_
  | with_reducible refine ev_if ?_
  | with_reducible refine ev_bin ?_
  | with_reducible refine ev_un ?_
  | with_reducible refine ev_bool ?_
  | with_reducible refine boolA_one ?_
  | with_reducible refine boolA_and ?_
  | with_reducible refine boolA_or ?_
  | with_reducible refine evs_nil ?_
  | with_reducible refine evs_cons ?_
  | with_reducible refine exs_nil ?_
  | with_reducible refine st_ret ?_
  | with_reducible refine st_ret0 ?_
  | with_reducible refine st_assign (by with_unfolding_all rfl) ?_
  | with_reducible refine st_expr (by with_unfolding_all rfl) ?_
  | with_reducible refine st_if ?_
  | with_reducible refine st_aug_attr ?_
  | with_reducible refine st_aug_sub (by with_unfolding_all rfl) ?_
  | with_reducible refine st_del ?_
  | with_reducible refine then_next ?_
  | with_reducible refine then_ret ?_
  | with_reducible refine as_name (by with_unfolding_all rfl) ?_
  | with_reducible refine as_nameH (by assumption) (by with_unfolding_all rfl) (fun env' hE => ?_)
  | with_reducible refine as_attr ?_
  | with_reducible refine as_sub ?_
  | with_reducible refine as_tup ?_
  | with_reducible refine bts_nil ?_
  | with_reducible refine bts_name (by with_unfolding_all rfl) ?_
  | with_reducible refine bts_nameH (by assumption) (by with_unfolding_all rfl) (fun env' hE => ?_)
  | with_reducible refine bts_attr ?_
  | with_reducible refine truth_b ?_
  | with_reducible refine attr_get (by with_unfolding_all rfl) (by walk_at "at") (by with_unfolding_all rfl) ?_
  | with_reducible refine item_v0 ?_
  | with_reducible refine item_v1c ?_
  | with_reducible refine item_v1 ?_
  | with_reducible refine item_tup (by decide) (by with_unfolding_all rfl) ?_
  | with_reducible refine item_m (by walk_at "at") (by assumption) ?_
  | with_reducible refine item_pl (by assumption) (by assumption) (by assumption) ?_
  | with_reducible refine in_pl (by assumption) (by assumption) ?_
  | with_reducible refine set_pl (by assumption) (by assumption) (by assumption) (fun st' r' => ?_)
  | with_reducible refine pop_pl (by assumption) (by assumption) (by assumption) (by assumption) (fun st' r' => ?_)
  | with_reducible refine wp_new (by assumption) (fun id st' r' hF hs => ?_)
  | with_reducible refine item_cells (by assumption) (by assumption) ?_
  | with_reducible refine get_cells_s (by assumption) (by assumption) ?_
  | with_reducible refine get_cells_n (by assumption) (by assumption) ?_
  | with_reducible refine get_m (by walk_at "at") ?_
  | with_reducible refine get_mv (by walk_at "at") ?_
  | with_reducible refine cmp_eq aeq_tagc ?_
  | with_reducible refine cmp_eq aeq_tagi ?_
  | with_reducible refine cmp_eq aeq_ref ?_
  | with_reducible refine cmp_eq aeq_object ?_
  | with_reducible refine cmp_eq aeq_int ?_
  | with_reducible refine cmp_ne aeq_ref ?_
  | with_reducible refine in_m (by walk_at "at") ?_
  | with_reducible refine cmp_gt ?_
  | with_reducible refine cmp_isnot_i ?_
  | with_reducible refine cmp_isnot_n ?_
  | with_reducible refine cmp_is_i ?_
  | with_reducible refine cmp_is_n ?_
  | with_reducible refine un_not ?_
  | with_reducible refine un_neg ?_
  | with_reducible refine aug_add ?_
  | with_reducible refine aug_sub ?_
  | with_reducible refine bin_add ?_
  | with_reducible refine bin_sub ?_
  | with_reducible refine meth_l (by walk_at "at") ?_
  | with_reducible refine meth_i (by walk_at "at") ?_
  | walk_at "br"
  | walk_at "call")
local macro_rules | `(tactic| walk_at "call") => `(tactic| fail)
local macro_rules | `(tactic| walk_at "init") => `(tactic| (refine call_init (by rfl) (by rfl) ⟨by rfl, by rfl⟩ ?_; dsimp only [List.map, List.zip, List.zipWith]))
local macro_rules | `(tactic| walk_at "fn") => `(tactic| (refine call_f (by rfl) (by decide +kernel) ⟨by rfl, by rfl⟩ ?_; dsimp only [List.map, List.zip, List.zipWith]))
local macro_rules | `(tactic| walk_at "go") => `(tactic| repeat walk_at "step")

section
set_option maxRecDepth 100000
set_option autoImplicit false
section
variable {X : HIds} {loc : Loc} {H : HS} {F : Frm} {st : ASt} {wh : ((AEnv × ASt) → Option (Sum (AEnv × ASt) ((Out × AEnv) × ASt))) → AEnv × ASt → Option ((Out × AEnv) × ASt)} {n : Nat} {v : V} {c : C} {Q : AVal → ASt → Prop}
theorem ok_cell_of_s (r : Rep X loc H F st) (h : H.cellOf v = some c) (q : Q (.inst "Cell" (loc.cell v.num)) st) : wp ((R wh (n + 6)).call "cell_of" [.inst "Counted" X.root, enc v]) st Q := by
  cases v
  · cases h
  rename_i m
  have h : getK m H.cells = some c := h
  walk_at "fn"
  walk_at "go"
  exact q
theorem ok_cell_of_n (r : Rep X loc H F st) (h : H.cellOf v = none) (q : Q .none st) : wp ((R wh (n + 6)).call "cell_of" [.inst "Counted" X.root, enc v]) st Q := by
  walk_at "fn"
  cases v
  · walk_at "go"; exact q
  · rename_i m
    have h : getK m H.cells = none := h
    walk_at "go"; exact q
end
end
/-! P4 -/
section
set_option maxRecDepth 100000
set_option autoImplicit false

def HS.inner (H : HS) (v : V) : Option V := if H.isRef v then (H.cellOf v).bind fun c => getK 0 c.slots else some v
def HS.var (H : HS) (x : Int) : V := (getK x H.vars).getD (.int 0)
def HS.valueOf (H : HS) (x : Int) : Option V := H.inner (H.var x)
def HS.gain (H : HS) (v : V) : HS := match H.cellOf v with
  | some c => H.setC v.num { c with count := c.count + 1 }
  | none => H
def newC (k : K) : C := ⟨k, 0, [], "black", false, false, false, false⟩
def HS.newCell (H : HS) (k : K) : Option HS := if (getK (H.last + 1) H.cells).isNone ∧ H.cells.length ≤ 1000000 then some { H with last := H.last + 1, cells := putK (H.last + 1) (newC k) H.cells } else none

def HS.replaced (H : HS) (p : Pl) (k : Int) (v : V) : Option (HS × List V) := (H.pl p).bind fun l => if l.length ≤ 1000000 then some (H.setPl p (putK k v l), (getK k l).toList) else none
def HS.takenOut (H : HS) (p : Pl) (k : Int) : Option (HS × List V) := (H.pl p).bind fun l => match getK k l with
  | some v => if l.length ≤ 1000000 then some (H.setPl p (delK k l), [v]) else none
  | none => some (H, [])
def HS.written (H : HS) (p : Pl) (k : Int) (v : V) : Option (HS × List V) := (H.pl p).bind fun l => match getK k l with
  | some w => if H.isRef w then H.replaced (.slots w.num) 0 v else H.replaced p k v
  | none => H.replaced p k v

section
variable {X : HIds} {loc : Loc} {H H' : HS} {F : Frm} {st : ASt} {wh : ((AEnv × ASt) → Option (Sum (AEnv × ASt) ((Out × AEnv) × ASt))) → AEnv × ASt → Option ((Out × AEnv) × ASt)} {n : Nat} {v w : V} {c : C} {Q : AVal → ASt → Prop} {U : Unit → ASt → Prop} {p : Pl} {k : Int}

local macro_rules | `(tactic| walk_at "call") => `(tactic| first
  | with_reducible refine ok_cell_of_s (by assumption) (by assumption) ?_
  | with_reducible refine ok_cell_of_n (by assumption) (by assumption) ?_)

theorem ok_is_ref (r : Rep X loc H F st) (q : Q (.bool (H.isRef v)) st) : wp ((R wh (n + 10)).call "is_ref" [.inst "Counted" X.root, enc v]) st Q := by
  walk_at "fn"
  cases h : H.cellOf v with
  | none => rw [isRef_none h] at q; walk_at "go"; exact q
  | some c => rw [isRef_some h] at q; have h2 := cellOf_get h; walk_at "go"; exact q

local macro_rules | `(tactic| walk_at "call") => `(tactic| first
  | with_reducible refine ok_cell_of_s (by assumption) (by assumption) ?_
  | with_reducible refine ok_cell_of_n (by assumption) (by assumption) ?_
  | with_reducible refine ok_is_ref (by assumption) ?_)

theorem ok_inner (r : Rep X loc H F st) (h : H.inner v = some w) (q : Q (enc w) st) : wp ((R wh (n + 14)).call "inner" [.inst "Counted" X.root, enc v]) st Q := by
  walk_at "fn"
  unfold HS.inner at h
  cases hr : H.isRef v with
  | false => rw [hr] at h; cases h; walk_at "go"; exact q
  | true =>
    rw [hr, if_pos rfl] at h
    cases hc : H.cellOf v with
    | none => rw [hc] at h; cases h
    | some c =>
      rw [hc] at h
      have h : getK 0 c.slots = some w := h
      have h2 := cellOf_get hc
      walk_at "go"; exact q

theorem ok_value_of {x : Int} (r : Rep X loc H F st) (h : H.valueOf x = some w) (q : Q (enc w) st) : wp ((R wh (n + 18)).call "value_of" [.inst "Counted" X.root, .int x]) st Q := by
  walk_at "fn"
  walk_at "go"
  exact ok_inner r h q

theorem ok_gain (r : Rep X loc H F st) (q : ∀ st', Rep X loc (H.gain v) F st' → (∀ m, (getK m H.cells).isSome → st'.get (loc.slot m) = st.get (loc.slot m)) → Q (enc v) st') : wp ((R wh (n + 10)).call "gain" [.inst "Counted" X.root, enc v]) st Q := by
  walk_at "fn"
  cases hc : H.cellOf v with
  | none =>
    have e : H.gain v = H := by unfold HS.gain; rw [hc]
    rw [e] at q
    walk_at "go"; exact q _ r fun _ _ => rfl
  | some c =>
    have e : H.gain v = H.setC v.num { c with count := c.count + 1 } := by unfold HS.gain; rw [hc]
    rw [e] at q
    have h2 := cellOf_get hc
    walk_at "go"
    refine set_count r h2 fun st' r' hk => ?_
    walk_at "go"; exact q _ r' hk

theorem ok_replaced {r : HS × List V} (r0 : Rep X loc H F st) (h : H.replaced p k v = some r) (q : ∀ id st', Rep X loc r.1 (F.add id ⟨0, .list (r.2.map enc)⟩) st' → (∀ o, ¬ F id o) → Q (.obj id) st') : wp ((R wh (n + 10)).call "replaced" [.obj (p.id X loc), .int k, enc v]) st Q := by
  walk_at "fn"
  unfold HS.replaced at h
  cases hl : H.pl p with
  | none => rw [hl] at h; cases h
  | some l =>
    rw [hl] at h
    have h : (if l.length ≤ 1000000 then some (H.setPl p (putK k v l), (getK k l).toList) else none) = some r := h
    by_cases hz : l.length ≤ 1000000
    · rw [if_pos hz] at h; cases h
      cases hk : getK k l with
      | none =>
        rw [hk] at q
        walk_at "go"
        exact q _ _ (by assumption) (by assumption)
      | some w =>
        rw [hk] at q
        walk_at "go"
        exact q _ _ (by assumption) (by assumption)
    · rw [if_neg hz] at h; cases h

theorem ok_taken_out {r : HS × List V} (r0 : Rep X loc H F st) (h : H.takenOut p k = some r) (q : ∀ id st', Rep X loc r.1 (F.add id ⟨0, .list (r.2.map enc)⟩) st' → (∀ o, ¬ F id o) → Q (.obj id) st') : wp ((R wh (n + 10)).call "taken_out" [.obj (p.id X loc), .int k]) st Q := by
  walk_at "fn"
  unfold HS.takenOut at h
  cases hl : H.pl p with
  | none => rw [hl] at h; cases h
  | some l =>
    rw [hl, Option.bind_some] at h
    cases hk : getK k l with
    | none =>
      rw [hk] at h; cases h
      walk_at "go"
      exact q _ _ (by assumption) (by assumption)
    | some w =>
      rw [hk] at h
      have h : (if l.length ≤ 1000000 then some (H.setPl p (delK k l), [w]) else none) = some r := h
      by_cases hz : l.length ≤ 1000000
      · rw [if_pos hz] at h; cases h
        walk_at "go"
        exact q _ _ (by assumption) (by assumption)
      · rw [if_neg hz] at h; cases h

local macro_rules | `(tactic| walk_at "call") => `(tactic| first
  | with_reducible refine ok_cell_of_s (by assumption) (by assumption) ?_
  | with_reducible refine ok_cell_of_n (by assumption) (by assumption) ?_
  | with_reducible refine ok_is_ref (by assumption) ?_
  | with_reducible refine ok_value_of (by assumption) (by assumption) ?_
  | with_reducible refine ok_inner (by assumption) (by assumption) ?_
  | with_reducible refine ok_gain (by assumption) (fun st' r' hg => ?_))

theorem ok_written {r : HS × List V} (r0 : Rep X loc H F st) (h : H.written p k v = some r) (q : ∀ id st', Rep X loc r.1 (F.add id ⟨0, .list (r.2.map enc)⟩) st' → (∀ o, ¬ F id o) → Q (.obj id) st') : wp ((R wh (n + 16)).call "written" [.inst "Counted" X.root, .obj (p.id X loc), .int k, enc v]) st Q := by
  walk_at "fn"
  unfold HS.written at h
  cases hl : H.pl p with
  | none => rw [hl] at h; cases h
  | some l =>
    rw [hl, Option.bind_some] at h
    cases hk : getK k l with
    | none =>
      rw [hk] at h
      walk_at "go"
      refine ok_replaced r0 h fun id st' r' hF => ?_
      exact q _ _ (by assumption) (by assumption)
    | some w =>
      rw [hk] at h
      have h : (if H.isRef w then H.replaced (.slots w.num) 0 v else H.replaced p k v) = some r := h
      cases hw : H.isRef w with
      | false =>
        rw [hw] at h
        walk_at "go"
        refine ok_replaced r0 h fun id st' r' hF => ?_
        exact q _ _ (by assumption) (by assumption)
      | true =>
        rw [hw] at h
        cases hc : H.cellOf w with
        | none => rw [isRef_none hc] at hw; cases hw
        | some c =>
          have h2 := cellOf_get hc
          walk_at "go"
          refine ok_replaced (p := .slots w.num) r0 h fun id st' r' hF => ?_
          exact q _ _ (by assumption) (by assumption)

def HS.hasElements (H : HS) (x : Int) : Option Bool := (H.valueOf x).map V.isCell
theorem ok_has_elements {x : Int} {b : Bool} (r : Rep X loc H F st) (h : H.hasElements x = some b) (q : Q (.bool b) st) : wp ((R wh (n + 24)).call "has_elements" [.inst "Counted" X.root, .int x]) st Q := by
  walk_at "fn"
  unfold HS.hasElements at h
  cases hv : H.valueOf x with
  | none => rw [hv] at h; cases h
  | some v => rw [hv] at h; cases h; walk_at "go"; exact q

def HS.inCopy (H : HS) (n : Int) (v : V) : Option V := match H.cellOf v with
  | none => some v
  | some h => if h.sort ≠ .ref then some v else if h.count > 1 then some v else (getK 0 h.slots).map fun w => if w = .cell n then v else w
theorem ok_in_copy {m : Int} {c : C} (r : Rep X loc H F st) (hm : getK m H.cells = some c) (h : H.inCopy m v = some w) (q : Q (enc w) st) : wp ((R wh (n + 14)).call "in_copy" [.inst "Counted" X.root, .inst "Cell" (loc.cell m), enc v]) st Q := by
  walk_at "fn"
  unfold HS.inCopy at h
  cases hc : H.cellOf v with
  | none => rw [hc] at h; cases h; walk_at "go"; exact q
  | some d =>
    rw [hc] at h
    have h : (if d.sort ≠ .ref then some v else if d.count > 1 then some v else (getK 0 d.slots).map fun w => if w = .cell m then v else w) = some w := h
    have h2 := cellOf_get hc
    by_cases hs : d.sort ≠ .ref
    · rw [if_pos hs] at h; cases h
      have hs' : (!decide (d.sort = .ref)) = true := by simpa using hs
      walk_at "go"; exact q
    · rw [if_neg hs] at h
      have hs' : (!decide (d.sort = .ref)) = false := by simpa using hs
      by_cases hn : d.count > 1
      · rw [if_pos hn] at h; cases h
        have hn' : decide (d.count > 1) = true := by simpa using hn
        walk_at "go"; exact q
      · rw [if_neg hn] at h
        have hn' : decide (d.count > 1) = false := by simpa using hn
        cases hg : getK 0 d.slots with
        | none => rw [hg] at h; cases h
        | some w' =>
          rw [hg] at h
          have h : some (if w' = .cell m then v else w') = some w := h
          walk_at "go"
          refine cmp_eq (aeq_enc (w := .cell m)) ?_
          by_cases hw : w' = .cell m
          · rw [if_pos hw] at h; cases h
            have hw' : decide (w' = .cell m) = true := by simpa using hw
            walk_at "go"; exact q
          · have hw' : decide (w' = .cell m) = false := by simpa using hw
            rw [if_neg hw] at h; cases h
            walk_at "go"; exact q
end
end
/-! P5 -/
section
set_option maxRecDepth 100000
set_option autoImplicit false

section
variable {X : HIds} {loc : Loc} {H H' : HS} {F : Frm} {st : ASt} {wh : ((AEnv × ASt) → Option (Sum (AEnv × ASt) ((Out × AEnv) × ASt))) → AEnv × ASt → Option ((Out × AEnv) × ASt)} {n : Nat} {v w : V} {c : C} {Q : AVal → ASt → Prop} {U : Unit → ASt → Prop} {p : Pl} {k : Int}

local macro_rules | `(tactic| walk_at "call") => `(tactic| first
  | with_reducible refine ok_cell_of_s (by assumption) (by assumption) ?_
  | with_reducible refine ok_cell_of_n (by assumption) (by assumption) ?_
  | with_reducible refine ok_is_ref (by assumption) ?_
  | with_reducible refine ok_value_of (by assumption) (by assumption) ?_
  | with_reducible refine ok_inner (by assumption) (by assumption) ?_
  | with_reducible refine ok_in_copy (by assumption) (by assumption) (by assumption) ?_
  | with_reducible refine ok_gain (by assumption) (fun st' r' hg => ?_))

theorem ok_Cell {k : K} {m : Int} (r : Rep X loc H F st) (q : ∀ a b va st', Rep X loc H ((F.add a ⟨va, .sdict (cellL b m (newC k))⟩).add b ⟨0, .idict []⟩) st' → (∀ o, ¬ F a o) → (∀ o, ¬ F b o) → Q (.inst "Cell" a) st') : wp ((R wh (n + 6)).call "Cell" [.str (encK k), .int m]) st Q := by
  walk_at "init"
  refine wp_new r fun a st1 r1 hFa _ => ?_
  walk_at "go"
  refine set_tmp r1 hFa rfl (by decide) fun st2 r2 => ?_
  walk_at "go"
  refine set_tmp r2 hFa rfl (by show (1 : Nat) ≤ 100; decide) fun st3 r3 => ?_
  walk_at "go"
  refine set_tmp r3 hFa rfl (by show (2 : Nat) ≤ 100; decide) fun st4 r4 => ?_
  walk_at "step"
  walk_at "step"
  refine wp_new r4 fun b st5 r5 hFb _ => ?_
  have hab : ∀ o, ¬ (F.add b ⟨0, .idict []⟩) a o := fun o h => h.elim (hFa o) fun h => hFb _ (.inr ⟨h.1.symm, rfl⟩)
  have r5 := r5.swap
  walk_at "go"
  refine set_tmp r5 hab rfl (by show (3 : Nat) ≤ 100; decide) fun st6 r6 => ?_
  walk_at "go"
  refine set_tmp r6 hab rfl (by show (4 : Nat) ≤ 100; decide) fun st7 r7 => ?_
  walk_at "go"
  refine set_tmp r7 hab rfl (by show (5 : Nat) ≤ 100; decide) fun st8 r8 => ?_
  walk_at "go"
  refine set_tmp r8 hab rfl (by show (6 : Nat) ≤ 100; decide) fun st9 r9 => ?_
  walk_at "go"
  refine set_tmp r9 hab rfl (by show (7 : Nat) ≤ 100; decide) fun st10 r10 => ?_
  walk_at "go"
  refine set_tmp r10 hab rfl (by show (8 : Nat) ≤ 100; decide) fun st11 r11 => ?_
  walk_at "go"
  refine set_tmp r11 hab rfl (by show (9 : Nat) ≤ 100; decide) fun st12 r12 => ?_
  walk_at "go"
  exact ⟨rfl, q a b _ _ r12.swap hFa (fun o h => hFb o (.inl h))⟩

theorem newCell_last {k : K} (h : H.newCell k = some H') : H'.last = H.last + 1 := by
  unfold HS.newCell at h
  split at h
  · cases h; rfl
  · cases h
theorem newCell_get {k : K} (h : H.newCell k = some H') : getK H'.last H'.cells = some (newC k) ∧ getK H'.last H.cells = none := by
  unfold HS.newCell at h
  split at h
  · rename_i q
    cases h
    refine ⟨?_, Option.isNone_iff_eq_none.mp q.1⟩
    show getK (H.last + 1) (putK (H.last + 1) (newC k) H.cells) = _
    rw [getK_putK, if_pos rfl]
  · cases h
theorem set_cells {a b va : Nat} {m : Int} {c : C} {loc : Loc} (r : Rep X loc H ((F.add a ⟨va, .sdict (cellL b m c)⟩).add b ⟨0, .idict (encM c.slots)⟩) st) (hn : getK m H.cells = none) (hz : H.cells.length ≤ 1000000) (hFa : ∀ o, ¬ F a o) (hFb : ∀ o, ¬ F b o) (q : ∀ st', Rep X (loc.upd m a b) { H with cells := putK m c H.cells } F st' → U () st') : wp (itemSet (.obj X.cells) (.int m) (.inst "Cell" a)) st U :=
  set_idict r.cells (by unfold cellsA; rw [List.length_map]; exact hz) (q _ (r.add_cell hn hFa hFb rfl))

theorem ok_new_cell {k : K} (r : Rep X loc H F st) (h : H.newCell k = some H') (q : ∀ loc' st', Rep X loc' H' F st' → (∀ m, m ≠ H'.last → loc'.cell m = loc.cell m ∧ loc'.slot m = loc.slot m) → Q (enc (.cell H'.last)) st') : wp ((R wh (n + 10)).call "new_cell" [.inst "Counted" X.root, .str (encK k)]) st Q := by
  unfold HS.newCell at h
  split at h
  · rename_i hh
    cases h
    walk_at "fn"
    walk_at "go"
    refine set_last r fun st1 r1 => ?_
    walk_at "go"
    refine ok_Cell r1 fun a b va st2 r2 hFa hFb => ?_
    walk_at "go"
    refine set_cells (c := newC k) r2 (Option.isNone_iff_eq_none.mp hh.1) hh.2 hFa hFb fun st3 r3 => ?_
    walk_at "go"
    exact q _ _ r3 fun m hm => ⟨if_neg hm, if_neg hm⟩
  · cases h

def HS.setVar (H : HS) (x : Int) (v : V) : Option HS := if H.vars.length ≤ 1000000 then some { H with vars := putK x v H.vars } else none
def HS.refIn (H : HS) (x : Int) : Option (HS × V) := if H.isRef (H.var x) then some (H, H.var x) else
  (H.newCell .ref).bind fun H1 => (((H1.setC H1.last { newC .ref with slots := [(0, H.var x)] }).gain (.cell H1.last)).setVar x (.cell H1.last)).map fun H2 => (H2, .cell H1.last)

theorem ok_ref_in {x : Int} {y : HS × V} (r : Rep X loc H F st) (h : H.refIn x = some y) (q : ∀ loc' st', Rep X loc' y.1 F st' → Q (enc y.2) st') : wp ((R wh (n + 18)).call "ref_in" [.inst "Counted" X.root, .obj X.vars, .int x]) st Q := by
  unfold HS.refIn at h
  walk_at "fn"
  cases hr : H.isRef (H.var x) with
  | true =>
    have hr' : H.isRef ((getK x H.vars).getD (.int 0)) = true := hr
    rw [hr, if_pos rfl] at h; cases h
    walk_at "go"
    exact q _ _ r
  | false =>
    have hr' : H.isRef ((getK x H.vars).getD (.int 0)) = false := hr
    rw [hr, if_neg (by decide)] at h
    cases hn : H.newCell .ref with
    | none => rw [hn] at h; cases h
    | some H1 =>
      rw [hn, Option.bind_some] at h
      have hg := newCell_get hn
      walk_at "go"
      refine ok_new_cell (k := .ref) r hn fun loc1 st1 r1 _ => ?_
      walk_at "go"
      refine item_cells (n := H1.last) r1 hg.1 ?_
      walk_at "go"
      refine attr_get rfl (r1.cell hg.1) rfl ?_
      walk_at "go"
      refine set_slot (v := H.var x) r1 hg.1 (by decide) fun st2 r2 _ => ?_
      walk_at "go"
      rename_i st3 r3 _
      unfold HS.setVar at h
      have e : (H1.setC H1.last { newC .ref with slots := putK 0 (H.var x) (newC .ref).slots }) = H1.setC H1.last { newC .ref with slots := [(0, H.var x)] } := rfl
      rw [e] at r3
      generalize (H1.setC H1.last { newC .ref with slots := [(0, H.var x)] }).gain (.cell H1.last) = H3 at r3 h
      by_cases hz : H3.vars.length ≤ 1000000
      · rw [if_pos hz] at h; cases h
        refine set_vars (v := .cell H1.last) r3 hz fun st4 r4 => ?_
        walk_at "go"
        exact q _ _ r4
      · rw [if_neg hz] at h; cases h

theorem gain_keys {a : Int} : (getK a (H.gain v).cells).isSome = (getK a H.cells).isSome := by
  unfold HS.gain
  cases hc : H.cellOf v with
  | none => rfl
  | some c =>
    show (getK a (putK v.num _ H.cells)).isSome = _
    rw [getK_putK]
    by_cases q : a = v.num
    · rw [if_pos q, q, cellOf_get hc]; rfl
    · rw [if_neg q]
def HS.copyStep (a m : Int) (H : HS) (key : Int) : Option HS := (getK a H.cells).bind fun c => (getK key c.slots).bind fun v => (H.inCopy a v).bind fun w => (getK m (H.gain w).cells).bind fun cm => if cm.slots.length ≤ 1000000 then some ((H.gain w).setC m { cm with slots := putK key w cm.slots }) else none
def HS.copied (H : HS) (a : Int) : Option (HS × Int) := (getK a H.cells).bind fun c => (H.newCell .array).bind fun H1 => if H1.log.length ≤ 1000000 then ((c.slots.map (·.1)).foldlM (HS.copyStep a H1.last) { H1 with log := H1.log ++ [.copy a H1.last] }).map fun H3 => (H3, H1.last) else none

theorem ok_copied {a : Int} {c : C} {y : HS × Int} (r : Rep X loc H F st) (hc : getK a H.cells = some c) (h : H.copied a = some y) (q : ∀ loc' st', Rep X loc' y.1 F st' → Q (enc (.cell y.2)) st') : wp ((R wh (n + 24)).call "copied" [.inst "Counted" X.root, .inst "Cell" (loc.cell a)]) st Q := by
  unfold HS.copied at h
  rw [hc, Option.bind_some] at h
  cases hn : H.newCell .array with
  | none => rw [hn] at h; cases h
  | some H1 =>
    rw [hn, Option.bind_some] at h
    by_cases hz : H1.log.length ≤ 1000000
    · rw [if_pos hz] at h
      have hg := newCell_get hn
      have ham : a ≠ H1.last := fun e => by rw [e, hg.2] at hc; cases hc
      have hc1 : getK a H1.cells = some c := by
        unfold HS.newCell at hn
        split at hn
        · cases hn
          show getK a (putK (H.last + 1) _ _) = _
          rw [getK_putK, if_neg ham]; exact hc
        · cases hn
      walk_at "fn"
      walk_at "go"
      refine ok_new_cell (k := .array) r hn fun loc1 st1 r1 hl => ?_
      rw [← (hl a ham).1]
      walk_at "go"
      refine log_append (l := .copy a H1.last) r1 hz fun st2 r2 => ?_
      walk_at "go"
      cases hf : (c.slots.map (·.1)).foldlM (HS.copyStep a H1.last) { H1 with log := H1.log ++ [.copy a H1.last] } with
      | none => rw [hf] at h; cases h
      | some H3 =>
      rw [hf] at h; cases h
      refine st_for (by with_unfolding_all rfl) (src_attr (id := loc1.slot a) ?_)
      walk_at "go"
      have hc2 : getK a ({ H1 with log := H1.log ++ [.copy a H1.last] } : HS).cells = some c := hc1
      refine ⟨rfl, .inr ⟨⟨_, r2.slot hc2⟩, rfl, its_keys (r2.slot hc2) ?_⟩⟩
      have hk : ((encM c.slots).map fun p => AVal.int p.1) = (c.slots.map (·.1)).map AVal.int := by unfold encM; rw [List.map_map, List.map_map]; rfl
      rw [hk]
      refine forLoop_has (Has.of rfl rfl) (fun vs s => ∃ (ks : List Int) (H' : HS), vs = ks.map AVal.int ∧ Rep X loc1 H' F s ∧ s.get (loc1.slot a) = st2.get (loc1.slot a) ∧ ks.foldlM (HS.copyStep a H1.last) H' = some H3) ⟨_, _, rfl, r2, rfl, hf⟩ ?_ ?_
      · rintro v vs env s hE ⟨ks, H', hv, r', hs, hk⟩
        cases ks with
        | nil => cases hv
        | cons key ks =>
        rw [List.map_cons] at hv
        cases hv
        rw [List.foldlM_cons] at hk
        unfold HS.copyStep at hk
        cases h1 : getK a H'.cells with
        | none => rw [h1] at hk; cases hk
        | some ca =>
        rw [h1] at hk
        cases h2 : getK key ca.slots with
        | none => rw [Option.bind_some, h2] at hk; cases hk
        | some v =>
        rw [Option.bind_some, h2, Option.bind_some] at hk
        cases h3 : H'.inCopy a v with
        | none => rw [h3] at hk; cases hk
        | some w =>
        rw [h3, Option.bind_some] at hk
        cases h4 : getK H1.last (H'.gain w).cells with
        | none => rw [h4] at hk; cases hk
        | some cm =>
        rw [h4, Option.bind_some] at hk
        by_cases hz2 : cm.slots.length ≤ 1000000
        · rw [if_pos hz2] at hk
          refine ⟨by show (s.get _).ver = _; rw [hs]; rfl, ?_⟩
          walk_at "go"
          rename_i env' hE' s1 r1 hg1
          refine set_slot r1 h4 hz2 fun s2 r2 hg2 => ?_
          walk_at "go"
          refine ⟨hE'.pop (by with_unfolding_all rfl), ks, _, rfl, r2, ?_, hk⟩
          rw [hg2 a ham ?_, hg1 a (by rw [h1]; rfl), hs]
          rw [gain_keys, h1]; rfl
        · rw [if_neg hz2] at hk; cases hk
      · rintro env s hE ⟨ks, H', hv, r', hs, hk⟩
        cases ks with
        | cons => cases hv
        | nil =>
        cases hk
        refine ⟨by show (s.get _).ver = _; rw [hs]; rfl, ?_⟩
        walk_at "go"
        exact q _ _ r'
    · rw [if_neg hz] at h; cases h
end
end
/-! P6 -/
section
set_option maxRecDepth 100000
set_option autoImplicit false

def HS.container (H : HS) (x : Int) : Option (HS × Int × List V) := (H.valueOf x).bind fun v => (getK v.num H.cells).bind fun c => if c.sort = .object then some (H, v.num, []) else if c.count = 1 then some (H, v.num, []) else (H.copied v.num).bind fun y => (getK y.2 y.1.cells).bind fun _ => ((y.1.gain (.cell y.2)).written .vars x (.cell y.2)).map fun z => (z.1, y.2, z.2)
def HS.setInt (H : HS) (x i : Int) : Option (HS × List V) := H.written .vars x (.int i)
def HS.newArray (H : HS) (x : Int) : Option (HS × List V) := (H.newCell .array).bind fun H1 => (H1.gain (.cell H1.last)).written .vars x (.cell H1.last)
def HS.newObject (H : HS) (x : Int) (b : Bool) : Option (HS × List V) := (H.newCell .object).bind fun H1 => (getK H1.last (H1.gain (.cell H1.last)).cells).bind fun c => ((H1.gain (.cell H1.last)).setC H1.last { c with hasD := b }).written .vars x (.cell H1.last)
def HS.assign (H : HS) (x y : Int) : Option (HS × List V) := (H.valueOf y).bind fun v => (H.gain v).written .vars x v
def joinL (l : List V) (z : HS × List V) : Option (HS × List V) := if l.length + z.2.length ≤ 1000000 then some (z.1, l ++ z.2) else none
def HS.put (H : HS) (x k y : Int) : Option (HS × List V) := (H.hasElements x).bind fun b => if b = true then (H.valueOf y).bind fun v => ((H.gain v).container x).bind fun z => (z.1.written (.slots z.2.1) k v).bind (joinL z.2.2) else some (H, [])
def HS.take (H : HS) (x y k : Int) : Option (HS × List V) := (H.hasElements y).bind fun b => (if b = true then (H.valueOf y).bind fun w => (H.cellOf w).bind fun c => H.inner ((getK k c.slots).getD (.int 0)) else some (.int 0)).bind fun v => (H.gain v).written .vars x v
def HS.makeRef (H : HS) (x y : Int) : Option (HS × List V) := (H.refIn y).bind fun z => (z.1.gain z.2).replaced .vars x z.2
def HS.putRef (H : HS) (x k y : Int) : Option (HS × List V) := (H.hasElements x).bind fun b => if b = true then (H.refIn y).bind fun w => ((w.1.gain w.2).container x).bind fun z => (z.1.replaced (.slots z.2.1) k w.2).bind (joinL z.2.2) else some (H, [])
def HS.unset (H : HS) (x : Int) : Option (HS × List V) := H.takenOut .vars x
def HS.unsetAt (H : HS) (x k : Int) : Option (HS × List V) := (H.hasElements x).bind fun b => if b = true then (H.container x).bind fun z => (z.1.takenOut (.slots z.2.1) k).bind (joinL z.2.2) else some (H, [])

section
variable {X : HIds} {loc : Loc} {H H' : HS} {F : Frm} {st : ASt} {wh : ((AEnv × ASt) → Option (Sum (AEnv × ASt) ((Out × AEnv) × ASt))) → AEnv × ASt → Option ((Out × AEnv) × ASt)} {n : Nat} {v w : V} {c : C} {Q : AVal → ASt → Prop} {U : Unit → ASt → Prop} {p : Pl} {k : Int} {r : HS × List V}

local macro_rules | `(tactic| walk_at "call") => `(tactic| first
  | with_reducible refine ok_cell_of_s (by assumption) (by assumption) ?_
  | with_reducible refine ok_cell_of_n (by assumption) (by assumption) ?_
  | with_reducible refine ok_is_ref (by assumption) ?_
  | with_reducible refine ok_value_of (by assumption) (by assumption) ?_
  | with_reducible refine ok_inner (by assumption) (by assumption) ?_
  | with_reducible refine ok_has_elements (by assumption) (by assumption) ?_)

theorem written_pl {z : HS × List V} (h : H.written p k v = some z) : ∃ l, H.pl p = some l := by
  unfold HS.written at h
  cases e : H.pl p with
  | none => rw [e] at h; cases h
  | some l => exact ⟨l, rfl⟩
theorem replaced_pl {z : HS × List V} (h : H.replaced p k v = some z) : ∃ l, H.pl p = some l := by
  unfold HS.replaced at h
  cases e : H.pl p with
  | none => rw [e] at h; cases h
  | some l => exact ⟨l, rfl⟩
theorem takenOut_pl {z : HS × List V} (h : H.takenOut p k = some z) : ∃ l, H.pl p = some l := by
  unfold HS.takenOut at h
  cases e : H.pl p with
  | none => rw [e] at h; cases h
  | some l => exact ⟨l, rfl⟩
theorem pl_slots {m : Int} (h : ∃ l, H.pl (.slots m) = some l) : ∃ c, getK m H.cells = some c := by
  obtain ⟨l, h⟩ := h
  have h : (getK m H.cells).map (·.slots) = some l := h
  cases e : getK m H.cells with
  | none => rw [e] at h; cases h
  | some c => exact ⟨c, rfl⟩

theorem ok_container {x : Int} {y : HS × Int × List V} (r0 : Rep X loc H F st) (h : H.container x = some y) (q : ∀ loc' id st', Rep X loc' y.1 (F.add id ⟨0, .list (y.2.2.map enc)⟩) st' → (∀ o, ¬ F id o) → Q (.tup [.inst "Cell" (loc'.cell y.2.1), .obj id]) st') : wp ((R wh (n + 29)).call "container" [.inst "Counted" X.root, .int x]) st Q := by
  unfold HS.container at h
  cases hv : H.valueOf x with
  | none => rw [hv] at h; cases h
  | some v =>
  rw [hv, Option.bind_some] at h
  cases hc : getK v.num H.cells with
  | none => rw [hc] at h; cases h
  | some c =>
  rw [hc, Option.bind_some] at h
  walk_at "fn"
  by_cases hs : c.sort = .object
  · rw [if_pos hs] at h; cases h
    have hs' : decide (c.sort = .object) = true := by simpa using hs
    walk_at "go"
    exact q _ _ _ (by assumption) (by assumption)
  · rw [if_neg hs] at h
    have hs' : decide (c.sort = .object) = false := by simpa using hs
    by_cases hn : c.count = 1
    · rw [if_pos hn] at h; cases h
      have hn' : decide (c.count = 1) = true := by simpa using hn
      walk_at "go"
      exact q _ _ _ (by assumption) (by assumption)
    · rw [if_neg hn] at h
      have hn' : decide (c.count = 1) = false := by simpa using hn
      cases hd : H.copied v.num with
      | none => rw [hd] at h; cases h
      | some z =>
      rw [hd, Option.bind_some] at h
      cases he : getK z.2 z.1.cells with
      | none => rw [he] at h; cases h
      | some cz =>
      rw [he, Option.bind_some] at h
      cases hw : (z.1.gain (.cell z.2)).written .vars x (.cell z.2) with
      | none => rw [hw] at h; cases h
      | some u =>
      rw [hw] at h; cases h
      walk_at "go"
      refine ok_copied r0 hc hd fun loc1 st1 r1 => ?_
      walk_at "go"
      refine ok_gain (v := .cell z.2) r1 fun st2 r2 _ => ?_
      walk_at "go"
      refine ok_written (p := .vars) r2 hw fun id st3 r3 hF => ?_
      walk_at "go"
      exact q _ _ _ r3 hF

theorem ok_set_int {x i : Int} (r0 : Rep X loc H F st) (h : H.setInt x i = some r) (q : ∀ loc' id st', Rep X loc' r.1 (F.add id ⟨0, .list (r.2.map enc)⟩) st' → (∀ o, ¬ F id o) → Q (.obj id) st') : wp ((R wh (n + 20)).call "set_int" [.inst "Counted" X.root, .int x, .int i]) st Q := by
  walk_at "fn"
  walk_at "go"
  exact ok_written (p := .vars) (v := .int i) r0 h fun id st1 r1 hF => q _ _ _ r1 hF

theorem ok_new_array {x : Int} (r0 : Rep X loc H F st) (h : H.newArray x = some r) (q : ∀ loc' id st', Rep X loc' r.1 (F.add id ⟨0, .list (r.2.map enc)⟩) st' → (∀ o, ¬ F id o) → Q (.obj id) st') : wp ((R wh (n + 20)).call "new_array" [.inst "Counted" X.root, .int x]) st Q := by
  unfold HS.newArray at h
  cases hn : H.newCell .array with
  | none => rw [hn] at h; cases h
  | some H1 =>
  rw [hn, Option.bind_some] at h
  walk_at "fn"
  walk_at "go"
  refine ok_new_cell (k := .array) r0 hn fun loc1 st1 r1 _ => ?_
  walk_at "go"
  refine ok_gain (v := .cell H1.last) r1 fun st2 r2 _ => ?_
  walk_at "go"
  exact ok_written (p := .vars) r2 h fun id st1 r1 hF => q _ _ _ r1 hF

theorem ok_new_object {x : Int} {b : Bool} (r0 : Rep X loc H F st) (h : H.newObject x b = some r) (q : ∀ loc' id st', Rep X loc' r.1 (F.add id ⟨0, .list (r.2.map enc)⟩) st' → (∀ o, ¬ F id o) → Q (.obj id) st') : wp ((R wh (n + 20)).call "new_object" [.inst "Counted" X.root, .int x, .bool b]) st Q := by
  unfold HS.newObject at h
  cases hn : H.newCell .object with
  | none => rw [hn] at h; cases h
  | some H1 =>
  rw [hn, Option.bind_some] at h
  cases hc : getK H1.last (H1.gain (.cell H1.last)).cells with
  | none => rw [hc] at h; cases h
  | some c =>
  rw [hc, Option.bind_some] at h
  walk_at "fn"
  walk_at "go"
  refine ok_new_cell (k := .object) r0 hn fun loc1 st1 r1 _ => ?_
  walk_at "go"
  refine ok_gain (v := .cell H1.last) r1 fun st2 r2 _ => ?_
  walk_at "go"
  refine set_hasD r2 hc fun st3 r3 => ?_
  walk_at "go"
  exact ok_written (p := .vars) r3 h fun id st1 r1 hF => q _ _ _ r1 hF

theorem ok_assign {x y : Int} (r0 : Rep X loc H F st) (h : H.assign x y = some r) (q : ∀ loc' id st', Rep X loc' r.1 (F.add id ⟨0, .list (r.2.map enc)⟩) st' → (∀ o, ¬ F id o) → Q (.obj id) st') : wp ((R wh (n + 28)).call "assign" [.inst "Counted" X.root, .int x, .int y]) st Q := by
  unfold HS.assign at h
  cases hn : H.valueOf y with
  | none => rw [hn] at h; cases h
  | some v =>
  rw [hn, Option.bind_some] at h
  walk_at "fn"
  walk_at "go"
  refine ok_gain r0 fun st2 r2 _ => ?_
  walk_at "go"
  exact ok_written (p := .vars) r2 h fun id st1 r1 hF => q _ _ _ r1 hF

theorem ok_take {x y : Int} (r0 : Rep X loc H F st) (h : H.take x y k = some r) (q : ∀ loc' id st', Rep X loc' r.1 (F.add id ⟨0, .list (r.2.map enc)⟩) st' → (∀ o, ¬ F id o) → Q (.obj id) st') : wp ((R wh (n + 32)).call "take" [.inst "Counted" X.root, .int x, .int y, .int k]) st Q := by
  unfold HS.take at h
  cases hn : H.hasElements y with
  | none => rw [hn] at h; cases h
  | some b =>
  rw [hn, Option.bind_some] at h
  walk_at "fn"
  cases b with
  | false =>
    rw [if_neg (by decide), Option.bind_some] at h
    walk_at "go"
    refine ok_gain (v := .int 0) r0 fun st2 r2 _ => ?_
    walk_at "go"
    exact ok_written (p := .vars) r2 h fun id st1 r1 hF => q _ _ _ r1 hF
  | true =>
    rw [if_pos rfl] at h
    cases hv : H.valueOf y with
    | none => rw [hv] at h; cases h
    | some w =>
    rw [hv, Option.bind_some] at h
    cases hw : H.cellOf w with
    | none => rw [hw] at h; cases h
    | some c =>
    rw [hw, Option.bind_some] at h
    cases hi : H.inner ((getK k c.slots).getD (.int 0)) with
    | none => rw [hi] at h; cases h
    | some u =>
    rw [hi, Option.bind_some] at h
    have hc := cellOf_get hw
    walk_at "go"
    refine ok_gain r0 fun st2 r2 _ => ?_
    walk_at "go"
    exact ok_written (p := .vars) r2 h fun id st1 r1 hF => q _ _ _ r1 hF

theorem ok_make_ref {x y : Int} (r0 : Rep X loc H F st) (h : H.makeRef x y = some r) (q : ∀ loc' id st', Rep X loc' r.1 (F.add id ⟨0, .list (r.2.map enc)⟩) st' → (∀ o, ¬ F id o) → Q (.obj id) st') : wp ((R wh (n + 32)).call "make_ref" [.inst "Counted" X.root, .int x, .int y]) st Q := by
  unfold HS.makeRef at h
  cases hn : H.refIn y with
  | none => rw [hn] at h; cases h
  | some z =>
  rw [hn, Option.bind_some] at h
  walk_at "fn"
  walk_at "go"
  refine ok_ref_in r0 hn fun loc1 st1 r1 => ?_
  walk_at "go"
  refine ok_gain r1 fun st2 r2 _ => ?_
  walk_at "go"
  exact ok_replaced (p := .vars) r2 h fun id st1 r1 hF => q _ _ _ r1 hF

theorem ok_unset {x : Int} (r0 : Rep X loc H F st) (h : H.unset x = some r) (q : ∀ loc' id st', Rep X loc' r.1 (F.add id ⟨0, .list (r.2.map enc)⟩) st' → (∀ o, ¬ F id o) → Q (.obj id) st') : wp ((R wh (n + 20)).call "unset" [.inst "Counted" X.root, .int x]) st Q := by
  walk_at "fn"
  walk_at "go"
  exact ok_taken_out (p := .vars) r0 h fun id st1 r1 hF => q _ _ _ r1 hF

/-- the two lists of losses put together -/
theorem ok_join {ls : List V} {z : HS × List V} {i j : Nat} {st' : ASt} {loc' : Loc} (r1 : Rep X loc' z.1 ((F.add i ⟨0, .list (ls.map enc)⟩).add j ⟨0, .list (z.2.map enc)⟩) st') (h : joinL ls z = some r) (q : ∀ loc' id st', Rep X loc' r.1 (F.add id ⟨0, .list (r.2.map enc)⟩) st' → (∀ o, ¬ F id o) → Q (.obj id) st') : wp (bin .Add (.obj i) (.obj j)) st' Q := by
  unfold joinL at h
  by_cases hz : ls.length + z.2.length ≤ 1000000
  · rw [if_pos hz] at h; cases h
    refine add_lists (r1.frame _ _ (.inl (.inr ⟨rfl, rfl⟩))).at (r1.frame _ _ (.inr ⟨rfl, rfl⟩)).at (by rw [List.length_map, List.length_map]; exact hz) ?_
    refine wp_new r1 fun id st2 r2 hF _ => ?_
    rw [← List.map_append] at r2
    exact q _ _ _ r2.mid.mid (Frm.sub (Frm.sub hF))
  · rw [if_neg hz] at h; cases h

theorem ok_put {x y : Int} (r0 : Rep X loc H F st) (h : H.put x k y = some r) (q : ∀ loc' id st', Rep X loc' r.1 (F.add id ⟨0, .list (r.2.map enc)⟩) st' → (∀ o, ¬ F id o) → Q (.obj id) st') : wp ((R wh (n + 33)).call "put" [.inst "Counted" X.root, .int x, .int k, .int y]) st Q := by
  unfold HS.put at h
  cases hn : H.hasElements x with
  | none => rw [hn] at h; cases h
  | some b =>
  rw [hn, Option.bind_some] at h
  walk_at "fn"
  cases b with
  | false =>
    rw [if_neg (by decide)] at h; cases h
    walk_at "go"
    exact q _ _ _ (by assumption) (by assumption)
  | true =>
    rw [if_pos rfl] at h
    cases hv : H.valueOf y with
    | none => rw [hv] at h; cases h
    | some v =>
    rw [hv, Option.bind_some] at h
    cases hc : (H.gain v).container x with
    | none => rw [hc] at h; cases h
    | some z =>
    rw [hc, Option.bind_some] at h
    cases hw : z.1.written (.slots z.2.1) k v with
    | none => rw [hw] at h; cases h
    | some u =>
    rw [hw, Option.bind_some] at h
    obtain ⟨cz, hz⟩ := pl_slots (written_pl hw)
    walk_at "go"
    refine ok_gain r0 fun st2 r2 _ => ?_
    walk_at "go"
    refine ok_container r2 hc fun loc3 i st3 r3 hF3 => ?_
    walk_at "go"
    refine ok_written (p := .slots z.2.1) r3 hw fun j st4 r4 hF4 => ?_
    walk_at "go"
    exact ok_join r4 h q

theorem ok_put_ref {x y : Int} (r0 : Rep X loc H F st) (h : H.putRef x k y = some r) (q : ∀ loc' id st', Rep X loc' r.1 (F.add id ⟨0, .list (r.2.map enc)⟩) st' → (∀ o, ¬ F id o) → Q (.obj id) st') : wp ((R wh (n + 33)).call "put_ref" [.inst "Counted" X.root, .int x, .int k, .int y]) st Q := by
  unfold HS.putRef at h
  cases hn : H.hasElements x with
  | none => rw [hn] at h; cases h
  | some b =>
  rw [hn, Option.bind_some] at h
  walk_at "fn"
  cases b with
  | false =>
    rw [if_neg (by decide)] at h; cases h
    walk_at "go"
    exact q _ _ _ (by assumption) (by assumption)
  | true =>
    rw [if_pos rfl] at h
    cases hv : H.refIn y with
    | none => rw [hv] at h; cases h
    | some v =>
    rw [hv, Option.bind_some] at h
    cases hc : (v.1.gain v.2).container x with
    | none => rw [hc] at h; cases h
    | some z =>
    rw [hc, Option.bind_some] at h
    cases hw : z.1.replaced (.slots z.2.1) k v.2 with
    | none => rw [hw] at h; cases h
    | some u =>
    rw [hw, Option.bind_some] at h
    obtain ⟨cz, hz⟩ := pl_slots (replaced_pl hw)
    walk_at "go"
    refine ok_ref_in r0 hv fun loc1 st1 r1 => ?_
    walk_at "go"
    refine ok_gain r1 fun st2 r2 _ => ?_
    walk_at "go"
    refine ok_container r2 hc fun loc3 i st3 r3 hF3 => ?_
    walk_at "go"
    refine ok_replaced (p := .slots z.2.1) r3 hw fun j st4 r4 hF4 => ?_
    walk_at "go"
    exact ok_join r4 h q

theorem ok_unset_at {x : Int} (r0 : Rep X loc H F st) (h : H.unsetAt x k = some r) (q : ∀ loc' id st', Rep X loc' r.1 (F.add id ⟨0, .list (r.2.map enc)⟩) st' → (∀ o, ¬ F id o) → Q (.obj id) st') : wp ((R wh (n + 33)).call "unset_at" [.inst "Counted" X.root, .int x, .int k]) st Q := by
  unfold HS.unsetAt at h
  cases hn : H.hasElements x with
  | none => rw [hn] at h; cases h
  | some b =>
  rw [hn, Option.bind_some] at h
  walk_at "fn"
  cases b with
  | false =>
    rw [if_neg (by decide)] at h; cases h
    walk_at "go"
    exact q _ _ _ (by assumption) (by assumption)
  | true =>
    rw [if_pos rfl] at h
    cases hc : H.container x with
    | none => rw [hc] at h; cases h
    | some z =>
    rw [hc, Option.bind_some] at h
    cases hw : z.1.takenOut (.slots z.2.1) k with
    | none => rw [hw] at h; cases h
    | some u =>
    rw [hw, Option.bind_some] at h
    obtain ⟨cz, hz⟩ := pl_slots (takenOut_pl hw)
    walk_at "go"
    refine ok_container r0 hc fun loc3 i st3 r3 hF3 => ?_
    walk_at "go"
    refine ok_taken_out (p := .slots z.2.1) r3 hw fun j st4 r4 hF4 => ?_
    walk_at "go"
    exact ok_join r4 h q
end
end
/-! P7 -/
section
set_option maxRecDepth 100000
set_option autoImplicit false
set_option maxHeartbeats 8000000

inductive D where
  | setInt (x i : Int) | newArray (x : Int) | newObject (x : Int) (b : Bool) | assign (x y : Int) | put (x k y : Int) | take (x y k : Int) | makeRef (x y : Int) | putRef (x k y : Int) | unset (x : Int) | unsetAt (x k : Int)
  deriving DecidableEq
def D.name : D → Str
  | .setInt .. => "set_int"
  | .newArray .. => "new_array"
  | .newObject .. => "new_object"
  | .assign .. => "assign"
  | .put .. => "put"
  | .take .. => "take"
  | .makeRef .. => "make_ref"
  | .putRef .. => "put_ref"
  | .unset .. => "unset"
  | .unsetAt .. => "unset_at"
def D.args : D → List AVal
  | .setInt x i => [.int x, .int i]
  | .newArray x => [.int x]
  | .newObject x b => [.int x, .bool b]
  | .assign x y => [.int x, .int y]
  | .put x k y => [.int x, .int k, .int y]
  | .take x y k => [.int x, .int y, .int k]
  | .makeRef x y => [.int x, .int y]
  | .putRef x k y => [.int x, .int k, .int y]
  | .unset x => [.int x]
  | .unsetAt x k => [.int x, .int k]
def encD (d : D) : AVal := .tup [.str d.name, .tup d.args]
def HS.change (H : HS) : D → Option (HS × List V)
  | .setInt x i => H.setInt x i
  | .newArray x => H.newArray x
  | .newObject x b => H.newObject x b
  | .assign x y => H.assign x y
  | .put x k y => H.put x k y
  | .take x y k => H.take x y k
  | .makeRef x y => H.makeRef x y
  | .putRef x k y => H.putRef x k y
  | .unset x => H.unset x
  | .unsetAt x k => H.unsetAt x k

theorem aeq_lit {a b : Str} {c : Bool} {st : ASt} (ha : PyData.strOk a = true) (hb : PyData.strOk b = true) (hc : decide (a = b) = c) : aeq (.str a) (.str b) st = some (c, st) := by rw [aeq_str ha hb, hc]

section
variable {X : HIds} {loc : Loc} {H H' : HS} {F : Frm} {st : ASt} {wh : ((AEnv × ASt) → Option (Sum (AEnv × ASt) ((Out × AEnv) × ASt))) → AEnv × ASt → Option ((Out × AEnv) × ASt)} {n : Nat} {v w : V} {c : C} {Q : AVal → ASt → Prop} {U : Unit → ASt → Prop} {p : Pl} {k : Int} {r : HS × List V}

local macro_rules | `(tactic| walk_at "call") => `(tactic| first
  | with_reducible refine cmp_eq (aeq_lit (by decide +kernel) (by decide +kernel) (by with_unfolding_all rfl)) ?_
  | with_reducible refine ok_cell_of_s (by assumption) (by assumption) ?_
  | with_reducible refine ok_cell_of_n (by assumption) (by assumption) ?_)

theorem ok_change {d : D} (r0 : Rep X loc H F st) (h : H.change d = some r) (q : ∀ loc' id st', Rep X loc' r.1 (F.add id ⟨0, .list (r.2.map enc)⟩) st' → (∀ o, ¬ F id o) → Q (.obj id) st') : wp ((R wh (n + 37)).call "change" [.inst "Counted" X.root, .str d.name, .tup d.args]) st Q := by
  walk_at "fn"
  cases d
  · dsimp only [D.name, D.args]; walk_at "go"; exact ok_set_int r0 h q
  · dsimp only [D.name, D.args]; walk_at "go"; exact ok_new_array r0 h q
  · dsimp only [D.name, D.args]; walk_at "go"; exact ok_new_object r0 h q
  · dsimp only [D.name, D.args]; walk_at "go"; exact ok_assign r0 h q
  · dsimp only [D.name, D.args]; walk_at "go"; exact ok_put r0 h q
  · dsimp only [D.name, D.args]; walk_at "go"; exact ok_take r0 h q
  · dsimp only [D.name, D.args]; walk_at "go"; exact ok_make_ref r0 h q
  · dsimp only [D.name, D.args]; walk_at "go"; exact ok_put_ref r0 h q
  · dsimp only [D.name, D.args]; walk_at "go"; exact ok_unset r0 h q
  · dsimp only [D.name, D.args]; walk_at "go"; exact ok_unset_at r0 h q
end
end
/-! P8 -/
section
set_option maxRecDepth 100000
set_option autoImplicit false
set_option maxHeartbeats 8000000

inductive T where
  | lose (v : V) | deed (d : D)
  deriving DecidableEq
def encT : T → AVal
  | .lose v => .tup [.str "lose", enc v]
  | .deed d => .tup [.str "deed", encD d]

def HS.mark (H : HS) (m : Int) (d : C) : Option HS := if d.buf then some H else if H.buffer.length ≤ 1000000 then some { H.setC m { d with colour := "purple", buf := true } with buffer := H.buffer ++ [m] } else none
def HS.suspect (H : HS) (a : Int) : Option HS := (getK a H.cells).bind fun c => if c.sort = .ref then (getK 0 c.slots).bind fun v => match H.cellOf v with
  | none => some H
  | some d => H.mark v.num d
  else H.mark a c
def vals (l : List (Int × V)) : Option (List V) := if l.length ≤ 1000000 then (l.map (·.1)).mapM fun k => getK k l else none
def HS.unbuf (H : HS) (a : Int) (c : C) : Option (List Int) := if c.buf then if a ∈ H.buffer ∧ H.buffer.length ≤ 1000000 then some (H.buffer.erase a) else none else some H.buffer
def HS.freeCell (H : HS) (a : Int) : Option (HS × List V) := (getK a H.cells).bind fun c => (vals c.slots).bind fun vs => (H.unbuf a c).bind fun b => if H.cells.length ≤ 1000000 ∧ H.log.length ≤ 1000000 ∧ vs.length ≤ 1000000 then some ({ H with cells := delK a H.cells, buffer := b, freed := H.freed + 1, log := H.log ++ [.free a] }, vs) else none
/-- the plan, as it lies -/
def PlanAt (F : Frm) (i : Nat) (P : List (Int × List D)) : Prop := ∃ vp l, F i ⟨vp, .idict l⟩ ∧ ∀ k, (getK k P = none → getK k l = none) ∧ ∀ ds, getK k P = some ds → ∃ j v, getK k l = some (.obj j) ∧ F j ⟨v, .list (ds.map encD)⟩
theorem PlanAt.add {F : Frm} {i j : Nat} {o : AObj} {P : List (Int × List D)} (h : PlanAt F i P) : PlanAt (F.add j o) i P := by
  obtain ⟨vp, l, h1, h2⟩ := h
  exact ⟨vp, l, .inl h1, fun k => ⟨(h2 k).1, fun ds e => let ⟨j, v, a, b⟩ := (h2 k).2 ds e; ⟨j, v, a, .inl b⟩⟩⟩
def planOf (P : List (Int × List D)) (a : Int) : List D := (getK a P).getD []
def HS.beginD (H : HS) (P : List (Int × List D)) (a : Int) : Option (HS × List T) := (getK a H.cells).bind fun c => if H.log.length ≤ 1000000 ∧ (planOf P a).length ≤ 100000 then ((({ H.setC a { c with isD := true } with log := H.log ++ [.destruct a] } : HS).gain (.cell a)).setVar (-a) (.cell a)).map fun H2 => (H2, (planOf P a).map .deed ++ [.deed (.unset (-a))]) else none
/-- the tasks come with the next one ahead -/
def HS.lose (H : HS) (P : List (Int × List D)) (v : V) : Option (HS × List T) := match H.cellOf v with
  | none => some (H, [])
  | some c => if c.count - 1 > 0 then ((H.setC v.num { c with count := c.count - 1 }).suspect v.num).map fun H2 => (H2, [])
    else if c.hasD = true ∧ c.isD = false then (H.setC v.num { c with count := c.count - 1 }).beginD P v.num
    else ((H.setC v.num { c with count := c.count - 1 }).freeCell v.num).map fun z => (z.1, z.2.map .lose)

theorem putK_putK {α : Type} {k : Int} {v w : α} : ∀ {l : List (Int × α)}, putK k w (putK k v l) = putK k w l
  | [] => by show (if k = k then [(k, w)] else _) = [(k, w)]; rw [if_pos rfl]
  | (j, u) :: r => by
    show putK k w (if j = k then (j, v) :: r else (j, u) :: putK k v r) = if j = k then (j, w) :: r else (j, u) :: putK k w r
    by_cases q : j = k
    · rw [if_pos q, if_pos q]; show (if j = k then _ else _) = _; rw [if_pos q]
    · rw [if_neg q, if_neg q]; show (if j = k then _ else _ :: putK k w _) = _; rw [if_neg q, putK_putK]
theorem setC_setC {H : HS} {a : Int} {c d : C} : (H.setC a c).setC a d = H.setC a d := by unfold HS.setC; rw [show putK a d (putK a c H.cells) = putK a d H.cells from putK_putK]
theorem setC_get {H : HS} {a : Int} {c : C} : getK a (H.setC a c).cells = some c := by show getK a (putK a c H.cells) = _; rw [getK_putK, if_pos rfl]
theorem delK_putK {α : Type} {k : Int} {v : α} : ∀ {l : List (Int × α)}, delK k (putK k v l) = delK k l
  | [] => by show List.filter _ [(k, v)] = []; simp
  | (j, u) :: r => by
    have ih := delK_putK (k := k) (v := v) (l := r)
    show delK k (if j = k then (j, v) :: r else (j, u) :: putK k v r) = _
    by_cases q : j = k
    · rw [if_pos q]; unfold delK; rw [List.filter_cons_of_neg (by simpa using q), List.filter_cons_of_neg (by simpa using q)]
    · rw [if_neg q]; unfold delK at ih ⊢; rw [List.filter_cons_of_pos (by simpa using q), List.filter_cons_of_pos (by simpa using q), ih]

section
variable {wh : ((AEnv × ASt) → Option (Sum (AEnv × ASt) ((Out × AEnv) × ASt))) → AEnv × ASt → Option ((Out × AEnv) × ASt)} {n : Nat} {env : AEnv} {st : ASt} {r : Rec} {src : Src} {ver : Nat} {t elt : Expr} {ifs : List Expr} {body : List Stmt}
theorem forLoop_nil {P : Out × AEnv → ASt → Prop} (h : src.watch st = ver) (q : P (.next, env) st) : wp (forLoop r src ver t body [] env) st P := wp_bind (wp_check h (wp_pure q))
theorem compLoop_nil {Q : List AVal → ASt → Prop} (h : src.watch st = ver) (q : Q [] st) : wp (compLoop r src ver t elt ifs [] env) st Q := wp_bind (wp_check h (wp_pure q))
end

section
variable {X : HIds} {loc : Loc} {H H' : HS} {F : Frm} {st : ASt} {wh : ((AEnv × ASt) → Option (Sum (AEnv × ASt) ((Out × AEnv) × ASt))) → AEnv × ASt → Option ((Out × AEnv) × ASt)} {n : Nat} {v w : V} {c : C} {Q : AVal → ASt → Prop} {U : Unit → ASt → Prop} {p : Pl} {k a : Int} {r : HS × List V}

theorem tmp_append {i vr : Nat} {l : List AVal} {x : AVal} (r : Rep X loc H (F.add i ⟨vr, .list l⟩) st) (hF : ∀ o, ¬ F i o) (hz : l.length ≤ 1000000) (q : ∀ st', Rep X loc H (F.add i ⟨vr + 1, .list (l ++ [x])⟩) st' → (∀ j, j ≠ i → st'.get j = st.get j) → Q .none st') : wp (methL i "append" [x]) st Q :=
  m_append (r.frame _ _ (.inr ⟨rfl, rfl⟩)).at hz (q _ (r.put_tmp hF) fun _ hj => if_neg hj)
theorem set_slots {b vb : Nat} {l : List (Int × V)} (r : Rep X loc H (F.add b ⟨vb, .idict (encM l)⟩) st) (h : getK a H.cells = some c) (hFb : ∀ o, ¬ F b o) (q : ∀ loc' st', Rep X loc' (H.setC a { c with slots := l }) F st' → loc'.cell a = loc.cell a → U () st') : wp (attrSet (.inst "Cell" (loc.cell a)) "slots" (.obj b)) st U :=
  attr_set rfl (r.cell h) (by show (10 : Nat) ≤ 100; decide) (q _ _ (r.new_slots h hFb rfl) rfl)
theorem Rep.frame_add {i : Nat} (r : Rep X loc H F st) (hi : i < st.next) (ho : ∀ t, (content X loc H t).isSome → t.id X loc ≠ i) : Rep X loc H (F.add i (st.get i)) st := by
  refine ⟨r.dat, r.inj, fun j o h => ?_, fun j o h t ht => ?_⟩
  · rcases h with h | ⟨rfl, rfl⟩
    · exact r.frame j o h
    · exact ⟨hi, rfl⟩
  · rcases h with h | ⟨rfl, rfl⟩
    · exact r.off j o h t ht
    · exact ho t ht
theorem del_cells (r : Rep X loc H F st) (h : getK a H.cells = some c) (hz : H.cells.length ≤ 1000000) (q : ∀ o st', Rep X loc { H with cells := delK a H.cells } (F.add (loc.cell a) o) st' → o.data = .sdict (cellL (loc.slot a) a c) → U () st') : wp (itemDel (.obj X.cells) (.int a)) st U := by
  refine del_idict r.cells ⟨by unfold cellsA; rw [getK_mapv, h]; rfl, by unfold cellsA; rw [List.length_map]; exact hz⟩ ?_
  have r' := r.del_cell (n := a) rfl
  have hne : loc.cell a ≠ X.cells := fun e => by
    have := r.inj (.cell a) .cells (by show ((getK a H.cells).map _).isSome = true; rw [h]; rfl) rfl e
    cases this
  have hat := At_put_ne (d := .idict (delK a (cellsA loc H.cells))) (r.cell h) hne
  refine q _ _ (r'.frame_add hat.1 fun t ht e => ?_) hat.2
  have hl : (content X loc H t).isSome ∧ t ≠ .cell a := by
    cases t with
    | cell m =>
      have ht : ((getK m (delK a H.cells)).map fun c => AData.sdict (cellL (loc.slot m) m c)).isSome = true := ht
      rw [getK_delK] at ht
      by_cases e : m = a
      · rw [if_pos e] at ht; cases ht
      · rw [if_neg e] at ht; exact ⟨ht, fun q => e (by cases q; rfl)⟩
    | slot m =>
      have ht : ((getK m (delK a H.cells)).map fun c => AData.idict (encM c.slots)).isSome = true := ht
      rw [getK_delK] at ht
      by_cases e : m = a
      · rw [if_pos e] at ht; cases ht
      · rw [if_neg e] at ht; exact ⟨ht, fun q => by cases q⟩
    | _ => exact ⟨rfl, fun q => by cases q⟩
  exact hl.2 (r.inj t (.cell a) hl.1 (by show ((getK a H.cells).map _).isSome = true; rw [h]; rfl) e)

local macro_rules | `(tactic| walk_at "call") => `(tactic| first
  | with_reducible refine cmp_eq (aeq_lit (by decide +kernel) (by decide +kernel) (by with_unfolding_all rfl)) ?_
  | with_reducible refine ok_cell_of_s (by assumption) (by assumption) ?_
  | with_reducible refine ok_cell_of_n (by assumption) (by assumption) ?_)

theorem ok_suspect (r0 : Rep X loc H F st) (h : H.suspect a = some H') (q : ∀ st', Rep X loc H' F st' → Q .none st') : wp ((R wh (n + 13)).call "suspect" [.inst "Counted" X.root, .inst "Cell" (loc.cell a)]) st Q := by
  unfold HS.suspect at h
  cases hc : getK a H.cells with
  | none => rw [hc] at h; cases h
  | some c =>
  rw [hc, Option.bind_some] at h
  walk_at "fn"
  by_cases hs : c.sort = .ref
  · rw [if_pos hs] at h
    have hs' : decide (c.sort = .ref) = true := by simpa using hs
    cases hv : getK 0 c.slots with
    | none => rw [hv] at h; cases h
    | some v =>
    rw [hv, Option.bind_some] at h
    cases hw : H.cellOf v with
    | none =>
      rw [hw] at h; cases h
      walk_at "go"
      exact q _ r0
    | some d =>
      rw [hw] at h
      have h : H.mark v.num d = some H' := h
      have hd := cellOf_get hw
      unfold HS.mark at h
      cases hb : d.buf with
      | true =>
        rw [hb, if_pos rfl] at h; cases h
        have hb' : (!d.buf) = false := by rw [hb]; rfl
        walk_at "go"
        exact q _ r0
      | false =>
        rw [hb, if_neg (by decide)] at h
        have hb' : (!d.buf) = true := by rw [hb]; rfl
        by_cases hz : H.buffer.length ≤ 1000000
        · rw [if_pos hz] at h; cases h
          walk_at "go"
          refine set_colour r0 hd fun st1 r1 => ?_
          walk_at "go"
          refine set_buf r1 setC_get fun st2 r2 => ?_
          rw [setC_setC] at r2
          have hd2 : getK v.num (H.setC v.num { d with colour := "purple", buf := true }).cells = some { d with colour := "purple", buf := true } := setC_get
          walk_at "go"
          refine buf_append r2 hz fun st3 r3 => ?_
          walk_at "go"
          exact q _ r3
        · rw [if_neg hz] at h; cases h
  · rw [if_neg hs] at h
    have hs' : decide (c.sort = .ref) = false := by simpa using hs
    unfold HS.mark at h
    cases hb : c.buf with
    | true =>
      rw [hb, if_pos rfl] at h; cases h
      have hb' : (!c.buf) = false := by rw [hb]; rfl
      walk_at "go"
      exact q _ r0
    | false =>
      rw [hb, if_neg (by decide)] at h
      have hb' : (!c.buf) = true := by rw [hb]; rfl
      by_cases hz : H.buffer.length ≤ 1000000
      · rw [if_pos hz] at h; cases h
        walk_at "go"
        refine set_colour r0 hc fun st1 r1 => ?_
        walk_at "go"
        refine set_buf r1 setC_get fun st2 r2 => ?_
        rw [setC_setC] at r2
        have hd2 : getK a (H.setC a { c with colour := "purple", buf := true }).cells = some { c with colour := "purple", buf := true } := setC_get
        walk_at "go"
        refine buf_append r2 hz fun st3 r3 => ?_
        walk_at "go"
        exact q _ r3
      · rw [if_neg hz] at h; cases h
end
end
/-! P9 -/
section
set_option maxRecDepth 100000
set_option autoImplicit false
set_option maxHeartbeats 8000000

section
variable {X : HIds} {loc : Loc} {H H' : HS} {F : Frm} {st : ASt} {wh : ((AEnv × ASt) → Option (Sum (AEnv × ASt) ((Out × AEnv) × ASt))) → AEnv × ASt → Option ((Out × AEnv) × ASt)} {n : Nat} {v w : V} {c : C} {Q : AVal → ASt → Prop} {U : Unit → ASt → Prop} {p : Pl} {k a : Int} {P : List (Int × List D)}

local macro_rules | `(tactic| walk_at "call") => `(tactic| first
  | with_reducible refine cmp_eq (aeq_lit (by decide +kernel) (by decide +kernel) (by with_unfolding_all rfl)) ?_
  | with_reducible refine ok_cell_of_s (by assumption) (by assumption) ?_
  | with_reducible refine ok_cell_of_n (by assumption) (by assumption) ?_)

theorem ok_losing {i : Nat} {vs : List V} (r0 : Rep X loc H F st) (hv : st.At i (.list (vs.map enc))) (hz : vs.length ≤ 1000000) (q : ∀ id st', Rep X loc H (F.add id ⟨0, .list ((vs.map T.lose).reverse.map encT)⟩) st' → (∀ o, ¬ F id o) → Q (.obj id) st') : wp ((R wh (n + 6)).call "losing" [.obj i]) st Q := by
  walk_at "fn"
  walk_at "go"
  refine ev_comp (by with_unfolding_all rfl) (src_reversed (by with_unfolding_all rfl) (by with_unfolding_all rfl) ?_)
  walk_at "go"
  refine ⟨i, _, rfl, hv, by with_unfolding_all rfl, its_rev hv ⟨by rw [List.length_reverse, List.length_map]; exact hz, ?_⟩⟩
  refine compLoop_has (Has.of rfl rfl) (fun x => some (.tup [.str "lose", x])) rfl (fun x hx env hE => ?_) ?_
  · walk_at "go"
    rename_i env' hE'
    refine ⟨rfl, hE'.pop (by with_unfolding_all rfl), tests_nil ⟨rfl, fun _ => ?_, fun h => by cases h⟩⟩
    walk_at "go"
    exact ⟨rfl, rfl⟩
  · refine wp_new r0 fun id st1 r1 hF _ => ?_
    have e : ((vs.map enc).reverse.filterMap fun x => some (AVal.tup [.str "lose", x])) = (vs.map T.lose).reverse.map encT := by
      rw [List.filterMap_eq_map', ← List.map_reverse, ← List.map_reverse, List.map_map, List.map_map]; rfl
    rw [e] at r1
    exact q _ _ r1 hF

theorem ok_cleared {m : Int} (r0 : Rep X loc H F st) (q : ∀ id st', Rep X loc H (F.add id ⟨0, .list []⟩) st' → (∀ o, ¬ F id o) → Q (.obj id) st') : wp ((R wh (n + 6)).call "cleared" [.inst "Counted" X.root, .int m]) st Q := by
  walk_at "fn"
  walk_at "go"
  rename_i id st1 r1 hF hs
  refine st_for (by with_unfolding_all rfl) (src_attr (id := X.tables) ?_)
  walk_at "go"
  refine ⟨rfl, .inl ⟨⟨_, r1.tables⟩, by with_unfolding_all rfl, its_lst r1.tables (forLoop_nil rfl ?_)⟩⟩
  walk_at "go"
  exact q _ _ r1 hF

theorem ok_held_by {vs : List V} (r0 : Rep X loc H F st) (hc : getK a H.cells = some c) (h : vals c.slots = some vs) (q : ∀ id vr st', Rep X loc H (F.add id ⟨vr, .list (vs.map enc)⟩) st' → (∀ o, ¬ F id o) → Q (.obj id) st') : wp ((R wh (n + 8)).call "held_by" [.inst "Counted" X.root, .inst "Cell" (loc.cell a)]) st Q := by
  unfold vals at h
  split at h
  · rename_i hz
    walk_at "fn"
    walk_at "go"
    refine ev_comp (by with_unfolding_all rfl) (src_attr (id := X.tables) ?_)
    walk_at "go"
    refine ⟨rfl, .inl ⟨⟨_, r0.tables⟩, by with_unfolding_all rfl, its_lst r0.tables ⟨by decide, compLoop_nil rfl ?_⟩⟩⟩
    refine wp_new r0 fun i st1 r1 hF _ => ?_
    walk_at "go"
    refine st_for (by with_unfolding_all rfl) (src_attr (id := loc.slot a) ?_)
    walk_at "go"
    refine ⟨rfl, .inr ⟨⟨_, r1.slot hc⟩, by with_unfolding_all rfl, its_keys (r1.slot hc) ?_⟩⟩
    have hk : ((encM c.slots).map fun p => AVal.int p.1) = (c.slots.map (·.1)).map AVal.int := by unfold encM; rw [List.map_map, List.map_map]; rfl
    rw [hk]
    have hi : loc.slot a ≠ i := r1.off i _ (.inr ⟨rfl, rfl⟩) (.slot a) (by show ((getK a H.cells).map _).isSome = true; rw [hc]; rfl)
    refine forLoop_has (Has.of rfl rfl) (fun us s => ∃ (ks : List Int) (done rest : List V) (vr : Nat), us = ks.map AVal.int ∧ Rep X loc H (F.add i ⟨vr, .list (done.map enc)⟩) s ∧ s.get (loc.slot a) = st1.get (loc.slot a) ∧ ks.mapM (fun k => getK k c.slots) = some rest ∧ done ++ rest = vs ∧ done.length + ks.length ≤ 1000000) ⟨_, [], vs, 0, rfl, r1, rfl, h, rfl, by rw [List.length_map]; simpa using hz⟩ ?_ ?_
    · rintro u us env s hE ⟨ks, done, rest, vr, hu, r2, hs, hm, hd, hl⟩
      cases ks with
      | nil => cases hu
      | cons key ks =>
      rw [List.map_cons] at hu
      cases hu
      rw [List.mapM_cons] at hm
      cases h1 : getK key c.slots with
      | none => rw [h1] at hm; cases hm
      | some v =>
      rw [h1] at hm
      have hm : (ks.mapM (fun k => getK k c.slots)).bind (fun x => some (v :: x)) = some rest := hm
      cases h2 : ks.mapM (fun k => getK k c.slots) with
      | none => rw [h2] at hm; cases hm
      | some rest' =>
      rw [h2] at hm
      cases hm
      refine ⟨by show (s.get _).ver = _; rw [hs]; rfl, ?_⟩
      walk_at "go"
      rename_i env' hE'
      refine tmp_append r2 hF (by rw [List.length_map]; omega) fun s3 r3 hk3 => ?_
      walk_at "go"
      refine ⟨hE'.pop (by with_unfolding_all rfl), ks, done ++ [v], rest', vr + 1, rfl, by rw [List.map_append]; exact r3, (hk3 _ hi).trans hs, h2, by simpa using hd, ?_⟩
      rw [List.length_append, List.length_singleton]
      rw [List.length_cons] at hl
      omega
    · rintro env s hE ⟨ks, done, rest, vr, hu, r2, hs, hm, hd, hl⟩
      cases ks with
      | cons => cases hu
      | nil =>
      have hm : some ([] : List V) = some rest := hm
      cases hm
      rw [List.append_nil] at hd
      subst hd
      refine ⟨by show (s.get _).ver = _; rw [hs]; rfl, ?_⟩
      walk_at "go"
      exact q _ _ _ r2 hF
  · cases h

theorem length_putK_some {α : Type} {k : Int} {v w : α} : ∀ {l : List (Int × α)}, getK k l = some v → (putK k w l).length = l.length
  | (j, u) :: r, h => by
    show (if j = k then (j, w) :: r else (j, u) :: putK k w r).length = _
    by_cases q : j = k
    · rw [if_pos q]; rfl
    · rw [if_neg q]
      rw [getK, if_neg q] at h
      rw [List.length_cons, length_putK_some h]; rfl
theorem ok_free_cell {z : HS × List V} (r0 : Rep X loc H F st) (h : H.freeCell a = some z) (q : ∀ id vr loc' st', Rep X loc' z.1 (F.add id ⟨vr, .list (z.2.map enc)⟩) st' → (∀ o, ¬ F id o) → Q (.obj id) st') : wp ((R wh (n + 12)).call "free_cell" [.inst "Counted" X.root, .inst "Cell" (loc.cell a)]) st Q := by
  unfold HS.freeCell at h
  cases hc : getK a H.cells with
  | none => rw [hc] at h; cases h
  | some c =>
  rw [hc, Option.bind_some] at h
  cases hv : vals c.slots with
  | none => rw [hv] at h; cases h
  | some vs =>
  rw [hv, Option.bind_some] at h
  cases hb : H.unbuf a c with
  | none => rw [hb] at h; cases h
  | some b =>
  rw [hb, Option.bind_some] at h
  split at h
  case isFalse => cases h
  rename_i hz
  cases h
  walk_at "fn"
  walk_at "go"
  refine ok_held_by r0 hc hv fun i vr st1 r1 hF1 => ?_
  walk_at "go"
  refine ok_cleared r1 fun i2 st2 r2 hF2 => ?_
  have r2 := r2.drop
  walk_at "go"
  refine set_weak r2 hc fun st3 r3 => ?_
  have hc3 : getK a (H.setC a c).cells = some c := setC_get
  walk_at "go"
  rename_i i4 st4 r4 hF4 _
  refine set_slots (l := []) r4 hc3 hF4 fun loc5 st5 r5 hl5 => ?_
  rw [setC_setC] at r5
  rw [← hl5]
  have hc5 : getK a (H.setC a { c with slots := [] }).cells = some { c with slots := [] } := setC_get
  have tail : ∀ (b : List Int) (c6 : C) (st6 : ASt), Rep X loc5 { H.setC a c6 with buffer := b } (F.add i ⟨vr, .list (vs.map enc)⟩) st6 → ∀ (o : AObj) (st7 : ASt), Rep X loc5 { ({ H.setC a c6 with buffer := b } : HS) with cells := delK a (H.setC a c6).cells } ((F.add i ⟨vr, .list (vs.map enc)⟩).add (loc5.cell a) o) st7 → Rep X loc5 { H with cells := delK a H.cells, buffer := b } ((F.add i ⟨vr, .list (vs.map enc)⟩).add (loc5.cell a) o) st7 := fun b c6 st6 _ o st7 r => by
    have e : ({ ({ H.setC a c6 with buffer := b } : HS) with cells := delK a (H.setC a c6).cells } : HS) = { H with cells := delK a H.cells, buffer := b } := by
      unfold HS.setC; simp only; rw [delK_putK]
    rw [e] at r; exact r
  have hlen : ∀ c6, (H.setC a c6).cells.length ≤ 1000000 := fun c6 => by
    show (putK a c6 H.cells).length ≤ _
    rw [length_putK_some hc]; exact hz.1
  unfold HS.unbuf at hb
  cases hbf : c.buf with
  | true =>
    rw [hbf, if_pos rfl] at hb
    split at hb
    case isFalse => cases hb
    rename_i hm
    cases hb
    walk_at "go"
    refine set_buf r5 hc5 fun st6 r6 => ?_
    rw [setC_setC] at r6
    have hc6 : getK a (H.setC a { c with slots := [], buf := false }).cells = some { c with slots := [], buf := false } := setC_get
    walk_at "go"
    refine buf_remove r6 hm.1 hm.2 fun st7 r7 => ?_
    have hc7 : getK a ({ H.setC a { c with slots := [], buf := false } with buffer := H.buffer.erase a } : HS).cells = some { c with slots := [], buf := false } := setC_get
    walk_at "go"
    refine set_fr r7 hc7 fun st8 r8 => ?_
    have r8 : Rep X loc5 { H.setC a { c with slots := [], buf := false, fr := true } with buffer := H.buffer.erase a } (F.add i ⟨vr, .list (vs.map enc)⟩) st8 := by
      have e : ({ H.setC a { c with slots := [], buf := false } with buffer := H.buffer.erase a } : HS).setC a { c with slots := [], buf := false, fr := true } = { H.setC a { c with slots := [], buf := false, fr := true } with buffer := H.buffer.erase a } := by
        simp only [HS.setC, putK_putK]
      rw [← e]; exact r8
    have hc8 : getK a ({ H.setC a { c with slots := [], buf := false, fr := true } with buffer := H.buffer.erase a } : HS).cells = some { c with slots := [], buf := false, fr := true } := setC_get
    walk_at "go"
    refine del_cells r8 hc8 (hlen _) fun o st9 r9 ho => ?_
    have r9 := tail _ _ _ r8 _ _ r9
    walk_at "go"
    refine set_freed r9 fun st10 r10 => ?_
    walk_at "go"
    refine attr_get rfl (l := cellL (loc5.slot a) a { c with slots := [], buf := false, fr := true }) (by rw [← ho]; exact (r10.frame _ _ (.inr ⟨rfl, rfl⟩)).at) rfl ?_
    walk_at "go"
    refine log_append (l := .free a) r10 hz.2.1 fun st11 r11 => ?_
    walk_at "go"
    exact q _ _ _ _ r11.drop hF1
  | false =>
    rw [hbf, if_neg (by decide)] at hb
    cases hb
    walk_at "go"
    refine set_fr r5 hc5 fun st8 r8 => ?_
    rw [setC_setC] at r8
    have hc8 : getK a (H.setC a { c with slots := [], fr := true }).cells = some { c with slots := [], fr := true } := setC_get
    walk_at "go"
    refine del_cells r8 hc8 (hlen _) fun o st9 r9 ho => ?_
    have r9 := tail _ _ _ r8 _ _ r9
    walk_at "go"
    refine set_freed r9 fun st10 r10 => ?_
    walk_at "go"
    refine attr_get rfl (l := cellL (loc5.slot a) a { c with slots := [], fr := true }) (by rw [← ho]; exact (r10.frame _ _ (.inr ⟨rfl, rfl⟩)).at) rfl ?_
    walk_at "go"
    refine log_append (l := .free a) r10 hz.2.1 fun st11 r11 => ?_
    walk_at "go"
    exact q _ _ _ _ r11.drop hF1
end
end
/-! P10 -/
section
set_option maxRecDepth 100000
set_option autoImplicit false
set_option maxHeartbeats 8000000

section
variable {X : HIds} {loc : Loc} {H H' : HS} {F : Frm} {st : ASt} {wh : ((AEnv × ASt) → Option (Sum (AEnv × ASt) ((Out × AEnv) × ASt))) → AEnv × ASt → Option ((Out × AEnv) × ASt)} {n : Nat} {v w : V} {c : C} {Q : AVal → ASt → Prop} {U : Unit → ASt → Prop} {p : Pl} {k a : Int} {P : List (Int × List D)}

local macro_rules | `(tactic| walk_at "call") => `(tactic| first
  | with_reducible refine cmp_eq (aeq_lit (by decide +kernel) (by decide +kernel) (by with_unfolding_all rfl)) ?_
  | with_reducible refine ok_cell_of_s (by assumption) (by assumption) ?_
  | with_reducible refine ok_cell_of_n (by assumption) (by assumption) ?_)

theorem ok_wants (r0 : Rep X loc H F st) (hc : getK a H.cells = some c) (q : Q (.bool (c.hasD && !c.isD)) st) : wp ((R wh (n + 8)).call "wants_destructor" [.inst "Cell" (loc.cell a)]) st Q := by
  walk_at "fn"
  cases hd : c.hasD with
  | false => rw [hd] at q; have q' : Q (.bool c.hasD) st := by { rw [hd]; exact q }
             walk_at "go"; exact q'
  | true => rw [hd] at q; walk_at "go"; exact q

theorem ok_begin {z : HS × List T} (r0 : Rep X loc H F st) (hP : PlanAt F X.plan P) (h : H.beginD P a = some z) (q : ∀ id vr st', Rep X loc z.1 (F.add id ⟨vr, .list (z.2.reverse.map encT)⟩) st' → (∀ o, ¬ F id o) → Q (.obj id) st') : wp ((R wh (n + 14)).call "begin_destructor" [.inst "Counted" X.root, .inst "Cell" (loc.cell a)]) st Q := by
  unfold HS.beginD at h
  cases hc : getK a H.cells with
  | none => rw [hc] at h; cases h
  | some c =>
  rw [hc, Option.bind_some] at h
  split at h
  case isFalse => cases h
  rename_i hz
  cases hv : (({ H.setC a { c with isD := true } with log := H.log ++ [.destruct a] } : HS).gain (.cell a)).setVar (-a) (.cell a) with
  | none => rw [hv] at h; cases h
  | some H2 =>
  rw [hv] at h; cases h
  unfold HS.setVar at hv
  split at hv
  case isFalse => cases hv
  rename_i hz2
  cases hv
  walk_at "fn"
  walk_at "go"
  refine set_isD r0 hc fun st1 r1 => ?_
  have hc1 : getK a (H.setC a { c with isD := true }).cells = some { c with isD := true } := setC_get
  walk_at "go"
  refine log_append (l := .destruct a) r1 hz.1 fun st2 r2 => ?_
  have r2 : Rep X loc { H.setC a { c with isD := true } with log := H.log ++ [.destruct a] } F st2 := r2
  have hc2 : getK a ({ H.setC a { c with isD := true } with log := H.log ++ [.destruct a] } : HS).cells = some { c with isD := true } := setC_get
  walk_at "go"
  refine ok_gain (v := .cell a) r2 fun st3 r3 _ => ?_
  have hc3 : ∃ c3, getK a (({ H.setC a { c with isD := true } with log := H.log ++ [.destruct a] } : HS).gain (.cell a)).cells = some c3 := by
    apply Option.isSome_iff_exists.mp
    rw [gain_keys, hc2]; rfl
  obtain ⟨c3, hc3⟩ := hc3
  walk_at "go"
  refine set_vars (v := .cell a) r3 hz2 fun st4 r4 => ?_
  have hc4 : getK a ({ (({ H.setC a { c with isD := true } with log := H.log ++ [.destruct a] } : HS).gain (.cell a)) with vars := putK (-a) (.cell a) (({ H.setC a { c with isD := true } with log := H.log ++ [.destruct a] } : HS).gain (.cell a)).vars } : HS).cells = some c3 := hc3
  walk_at "go"
  rename_i t st5 r5 hF5 _
  obtain ⟨vp, lp, hp1, hp2⟩ := hP
  refine st_for (by with_unfolding_all rfl) (src_reversed (by with_unfolding_all rfl) (by with_unfolding_all rfl) ?_)
  walk_at "go"
  refine meth_i (r5.frame _ _ (.inl hp1)).at ?_
  walk_at "go"
  rename_i e st6 r6 hF6 _
  refine m_get (r6.frame _ _ (.inl (.inl hp1))).at ?_
  obtain ⟨j, vj, hj1, hj2⟩ : ∃ j vj, (getK a lp).getD (.obj e) = .obj j ∧ (F.add e ⟨0, .list []⟩) j ⟨vj, .list ((planOf P a).map encD)⟩ := by
    unfold planOf
    cases hg : getK a P with
    | none => rw [(hp2 a).1 hg]; exact ⟨e, 0, rfl, .inr ⟨rfl, rfl⟩⟩
    | some ds =>
      obtain ⟨j, v, h1, h2⟩ := (hp2 a).2 ds hg
      rw [h1]; exact ⟨j, v, rfl, .inl h2⟩
  have r7 := r6.swap
  have hFt : ∀ o, ¬ (F.add e ⟨0, .list []⟩) t o := fun o h => h.elim (hF5 o) fun h => hF6 _ (.inr ⟨h.1.symm, rfl⟩)
  have hat : st6.At j (.list ((planOf P a).map encD)) := (r7.frame _ _ (.inl hj2)).at
  refine ⟨j, _, hj1, hat, by with_unfolding_all rfl, its_rev hat ?_⟩
  rw [← List.map_reverse]
  have hw : ∀ s : ASt, s.Ob j ⟨vj, .list ((planOf P a).map encD)⟩ → (Src.rev j).watch s = (Src.rev j).watch st6 := fun s hs => by
    show (s.get j).ver = (st6.get j).ver
    rw [hs.2, (r7.frame _ _ (.inl hj2)).2]
  refine forLoop_has (Has.of rfl rfl) (fun us s => ∃ (ds done : List D) (vr : Nat), us = ds.map encD ∧ Rep X loc _ ((F.add e ⟨0, .list []⟩).add t ⟨vr, .list ((T.deed (.unset (-a)) :: done.map T.deed).map encT)⟩) s ∧ done ++ ds = (planOf P a).reverse) ⟨_, [], 0, rfl, r7, rfl⟩ ?_ ?_
  · rintro u us env s hE ⟨ds, done, vr, hu, r8, hd⟩
    cases ds with
    | nil => cases hu
    | cons d ds =>
    rw [List.map_cons] at hu
    cases hu
    refine ⟨hw _ (r8.frame _ _ (.inl hj2)), ?_⟩
    have hlen : done.length + ds.length + 1 = (planOf P a).length := by
      have := congrArg List.length hd
      rw [List.length_append, List.length_reverse, List.length_cons] at this
      omega
    walk_at "go"
    rename_i env' hE'
    refine tmp_append r8 hFt (by rw [List.length_map, List.length_cons, List.length_map]; omega) fun s3 r3 _ => ?_
    walk_at "go"
    refine ⟨hE'.pop (by with_unfolding_all rfl), ds, done ++ [d], vr + 1, rfl, ?_, by simpa using hd⟩
    have e1 : (T.deed (.unset (-a)) :: (done ++ [d]).map T.deed).map encT = (T.deed (.unset (-a)) :: done.map T.deed).map encT ++ [.tup [.str "deed", encD d]] := by
      rw [List.map_append, ← List.cons_append, List.map_append]; rfl
    rw [e1]; exact r3
  · rintro env s hE ⟨ds, done, vr, hu, r8, hd⟩
    cases ds with
    | cons => cases hu
    | nil =>
    refine ⟨hw _ (r8.frame _ _ (.inl hj2)), ?_⟩
    walk_at "go"
    rw [List.append_nil] at hd
    subst hd
    refine q _ vr _ ?_ hF5
    have e1 : ((planOf P a).map T.deed ++ [T.deed (.unset (-a))]).reverse = T.deed (.unset (-a)) :: (planOf P a).reverse.map T.deed := by
      rw [List.reverse_append, List.map_reverse]; rfl
    show Rep X loc _ (F.add t ⟨vr, .list (((planOf P a).map T.deed ++ [T.deed (.unset (-a))]).reverse.map encT)⟩) _
    rw [e1]
    exact r8.mid

theorem ok_lose {z : HS × List T} (r0 : Rep X loc H F st) (hP : PlanAt F X.plan P) (h : H.lose P v = some z) (q : ∀ id vr loc' st', Rep X loc' z.1 (F.add id ⟨vr, .list (z.2.reverse.map encT)⟩) st' → (∀ o, ¬ F id o) → Q (.obj id) st') : wp ((R wh (n + 20)).call "lose" [.inst "Counted" X.root, enc v]) st Q := by
  unfold HS.lose at h
  walk_at "fn"
  cases hc : H.cellOf v with
  | none =>
    rw [hc] at h; cases h
    walk_at "go"
    exact q _ _ _ _ (by assumption) (by assumption)
  | some c =>
    rw [hc] at h
    have h : (if c.count - 1 > 0 then ((H.setC v.num { c with count := c.count - 1 }).suspect v.num).map fun H2 => (H2, [])
      else if c.hasD = true ∧ c.isD = false then (H.setC v.num { c with count := c.count - 1 }).beginD P v.num
      else ((H.setC v.num { c with count := c.count - 1 }).freeCell v.num).map fun z => (z.1, z.2.map .lose)) = some z := h
    have hg := cellOf_get hc
    walk_at "go"
    refine set_count r0 hg fun st1 r1 _ => ?_
    have hg1 : getK v.num (H.setC v.num { c with count := c.count - 1 }).cells = some { c with count := c.count - 1 } := setC_get
    by_cases hn : c.count - 1 > 0
    · have hn' : decide (c.count - 1 > 0) = true := by simpa using hn
      rw [if_pos hn] at h
      cases hs : (H.setC v.num { c with count := c.count - 1 }).suspect v.num with
      | none => rw [hs] at h; cases h
      | some H2 =>
      rw [hs] at h; cases h
      walk_at "go"
      refine ok_suspect r1 hs fun st2 r2 => ?_
      walk_at "go"
      exact q _ _ _ _ (by assumption) (by assumption)
    · have hn' : decide (c.count - 1 > 0) = false := by simpa using hn
      rw [if_neg hn] at h
      by_cases hd : c.hasD = true ∧ c.isD = false
      · rw [if_pos hd] at h
        have hd' : (c.hasD && !c.isD) = true := by rw [hd.1, hd.2]; rfl
        walk_at "go"
        refine ok_wants r1 hg1 ?_
        walk_at "go"
        exact ok_begin r1 hP h fun id vr st' r' hF => q _ _ _ _ r' hF
      · rw [if_neg hd] at h
        have hd' : (c.hasD && !c.isD) = false := by
          cases e1 : c.hasD
          · rfl
          · cases e2 : c.isD
            · exact absurd ⟨e1, e2⟩ hd
            · rfl
        cases hf : (H.setC v.num { c with count := c.count - 1 }).freeCell v.num with
        | none => rw [hf] at h; cases h
        | some y =>
        rw [hf] at h; cases h
        have hy : y.2.length ≤ 1000000 := by
          unfold HS.freeCell at hf
          rw [hg1, Option.bind_some] at hf
          cases h1 : vals ({ c with count := c.count - 1 } : C).slots with
          | none => rw [h1] at hf; cases hf
          | some vs =>
          rw [h1, Option.bind_some] at hf
          cases h2 : (H.setC v.num { c with count := c.count - 1 }).unbuf v.num { c with count := c.count - 1 } with
          | none => rw [h2] at hf; cases hf
          | some b =>
          rw [h2, Option.bind_some] at hf
          split at hf
          · rename_i hz; cases hf; exact hz.2.2
          · cases hf
        walk_at "go"
        refine ok_wants r1 hg1 ?_
        walk_at "go"
        refine ok_free_cell r1 hf fun i vr loc2 st2 r2 hF2 => ?_
        walk_at "go"
        refine ok_losing r2 r2.top hy fun j st3 r3 hF3 => ?_
        walk_at "go"
        exact q _ _ _ _ r3.mid (Frm.sub hF3)
end
end
/-! P11 -/
section
set_option maxRecDepth 100000
set_option autoImplicit false
set_option maxHeartbeats 1000000

def WhOK (wh : ((AEnv × ASt) → Option (Sum (AEnv × ASt) ((Out × AEnv) × ASt))) → AEnv × ASt → Option ((Out × AEnv) × ASt)) : Prop := ∀ step x b k, whN step k x = some b → wh step x = some b
def whStep (r : Rec) (t : Expr) (b : List Stmt) (x : AEnv × ASt) : Option (Sum (AEnv × ASt) ((Out × AEnv) × ASt)) := do
      let (tv, st₁) ← r.ev t x.1 x.2
      let (c, st₂) ← truth tv st₁
      if c then do
        let ((o, env'), st₃) ← exs r b x.1 st₂
        match o with
        | .next => pure (.inl (env', st₃))
        | o => pure (.inr ((o, env'), st₃))
      else pure (.inr ((.next, x.1), st₂))
theorem R_wh (wh : ((AEnv × ASt) → Option (Sum (AEnv × ASt) ((Out × AEnv) × ASt))) → AEnv × ASt → Option ((Out × AEnv) × ASt)) (n : Nat) : (R wh n).wh = wh := by cases n <;> rfl

section
variable {wh : ((AEnv × ASt) → Option (Sum (AEnv × ASt) ((Out × AEnv) × ASt))) → AEnv × ASt → Option ((Out × AEnv) × ASt)} {n : Nat} {env : AEnv} {st : ASt} {r : Rec} {t : Expr} {b rest : List Stmt} {p : Pos}
theorem while_go {S : AEnv → ASt → Prop} (h : wp (r.ev t env) st fun v st' => wp (truth v) st' fun c st'' => c = true ∧ wp (exs r b env) st'' fun x st3 => x.1 = .next ∧ S x.2 st3) : ∃ env' st3, whStep r t b (env, st) = some (.inl (env', st3)) ∧ S env' st3 := by
  obtain ⟨v, st1, e1, c, st2, e2, rfl, ⟨o, env'⟩, st3, e3, rfl, hS⟩ := h
  refine ⟨env', st3, ?_, hS⟩
  unfold whStep
  simp only [e1, e2, e3, Option.bind_eq_bind, Option.bind_some, if_true]
  rfl
theorem while_stop {E : ASt → Prop} (h : wp (r.ev t env) st fun v st' => wp (truth v) st' fun c st'' => c = false ∧ E st'') : ∃ st3, whStep r t b (env, st) = some (.inr ((.next, env), st3)) ∧ E st3 := by
  obtain ⟨v, st1, e1, c, st2, e2, rfl, hS⟩ := h
  refine ⟨st2, ?_, hS⟩
  unfold whStep
  simp only [e1, e2, Option.bind_eq_bind, Option.bind_some]
  rfl
theorem st_while {P : Out × AEnv → ASt → Prop} (hw : WhOK wh) (k : ∃ k x, whN (whStep (R wh n) t b) k (env, st) = some x ∧ ThenP wh (n + 1) rest P x.1 x.2) : wp (exs (R wh (n + 1)) (.While t b [] p :: rest) env) st P := by
  refine exs_cons ?_
  obtain ⟨k, x, h1, h2⟩ := k
  refine ⟨x.1, x.2, ?_, h2⟩
  show (R wh n).wh (whStep (R wh n) t b) (env, st) = _
  rw [R_wh]
  exact hw _ _ _ _ h1
theorem st_while_has {P : Out × AEnv → ASt → Prop} {sc : Scope} {L : List (Str × AVal)} (hw : WhOK wh) (hE : Has env sc L) (I : Nat → ASt → Prop) {m : Nat} (h0 : I m st)
  (go : ∀ m env st, Has env sc L → I (m + 1) st → wp ((R wh n).ev t env) st fun v st' => wp (truth v) st' fun c st'' => c = true ∧ wp (exs (R wh n) b env) st'' fun x st3 => x.1 = .next ∧ (Has x.2 sc L ∧ I m st3))
  (stop : ∀ env st, Has env sc L → I 0 st → wp ((R wh n).ev t env) st fun v st' => wp (truth v) st' fun c st'' => c = false ∧ ThenP wh (n + 1) rest P (.next, env) st'') : wp (exs (R wh (n + 1)) (.While t b [] p :: rest) env) st P := by
  refine st_while hw ?_
  induction m generalizing env st with
  | zero =>
    obtain ⟨st3, e, h⟩ := while_stop (b := b) (stop env st hE h0)
    refine ⟨1, ((.next, env), st3), ?_, h⟩
    unfold whN; rw [e]
  | succ m ih =>
    obtain ⟨env', st3, e, hE', h⟩ := while_go (S := fun e s => Has e sc L ∧ I m s) (go m env st hE h0)
    obtain ⟨k, x, h1, h2⟩ := ih hE' h
    refine ⟨k + 1, x, ?_, h2⟩
    unfold whN; rw [e]; exact h1
end

def HS.step (P : List (Int × List D)) (H : HS) : T → Option (HS × List T)
  | .lose v => H.lose P v
  | .deed d => (H.change d).map fun z => (z.1, z.2.map .lose)
inductive HRuns (P : List (Int × List D)) : Nat → HS → List T → HS → Prop
  | nil (H : HS) : HRuns P 0 H [] H
  | cons {m : Nat} {H H1 H' : HS} {t : T} {ts us : List T} (h : H.step P t = some (H1, us)) (hz : us.length + ts.length ≤ 100000) (k : HRuns P m H1 (us ++ ts) H') : HRuns P (m + 1) H (t :: ts) H'

section
variable {X : HIds} {loc : Loc} {H H' : HS} {F : Frm} {st : ASt} {wh : ((AEnv × ASt) → Option (Sum (AEnv × ASt) ((Out × AEnv) × ASt))) → AEnv × ASt → Option ((Out × AEnv) × ASt)} {n : Nat} {v w : V} {c : C} {Q : AVal → ASt → Prop} {U : Unit → ASt → Prop} {p : Pl} {k a : Int} {P : List (Int × List D)}

theorem tmp_pop {i vr : Nat} {l : List AVal} {x : AVal} (r : Rep X loc H (F.add i ⟨vr, .list (l ++ [x])⟩) st) (hF : ∀ o, ¬ F i o) (hz : (l ++ [x]).length ≤ 1000000) (q : ∀ st', Rep X loc H (F.add i ⟨vr + 1, .list l⟩) st' → Q x st') : wp (methL i "pop" []) st Q :=
  m_pop r.top hz (q _ (r.put_tmp hF))
theorem tmp_extend {i j vr vj : Nat} {l m : List AVal} (r : Rep X loc H ((F.add i ⟨vr, .list l⟩).add j ⟨vj, .list m⟩) st) (hFi : ∀ o, ¬ F i o) (hFj : ∀ o, ¬ (F.add i ⟨vr, .list l⟩) j o) (hz : l.length + m.length ≤ 1000000) (q : ∀ st', Rep X loc H (F.add i ⟨vr + 1, .list (l ++ m)⟩) st' → Q .none st') : wp (methL i "extend" [.obj j]) st Q := by
  have hji : j ≠ i := fun e => hFj _ (.inr ⟨e, rfl⟩)
  refine m_extend r.top2 r.top hji hz (q _ ?_)
  have r2 := r.swap.put_tmp (d := .list (l ++ m)) (fun o h => h.elim (hFi o) fun h => hji h.1.symm)
  exact r2.mid

local macro_rules | `(tactic| walk_at "call") => `(tactic| first
  | with_reducible refine cmp_eq (aeq_lit (by decide +kernel) (by decide +kernel) (by with_unfolding_all rfl)) ?_)

theorem ok_settle {t vr m : Nat} {ts : List T} (hw : WhOK wh) (r0 : Rep X loc H (F.add t ⟨vr, .list (ts.reverse.map encT)⟩) st) (hF : ∀ o, ¬ F t o) (hP : PlanAt F X.plan P) (h : HRuns P m H ts H') (hz : ts.length ≤ 100000) (q : ∀ loc' st', Rep X loc' H' F st' → Q .none st') : wp ((R wh (n + 44)).call "settle" [.inst "Counted" X.root, .obj t]) st Q := by
  walk_at "fn"
  refine st_while_has hw (Has.of rfl rfl) (fun m s => ∃ H ts loc vr, HRuns P m H ts H' ∧ ts.length ≤ 100000 ∧ Rep X loc H (F.add t ⟨vr, .list (ts.reverse.map encT)⟩) s) ⟨H, ts, loc, vr, h, hz, r0⟩ ?_ ?_
  · rintro m env s hE ⟨H, ts, loc, vr, hr, hz, r1⟩
    cases hr with
    | @cons _ _ H1 _ t1 ts us h1 hz1 k1 =>
    rw [List.length_cons] at hz
    walk_at "go"
    refine truth_l r1.top (by simp; omega) ⟨by simp, ?_⟩
    rw [List.reverse_cons, List.map_append] at r1
    have fin : ∀ s loc vr, Rep X loc H1 (F.add t ⟨vr, .list (ts.reverse.map encT ++ us.reverse.map encT)⟩) s → ∃ H ts loc vr, HRuns P m H ts H' ∧ ts.length ≤ 100000 ∧ Rep X loc H (F.add t ⟨vr, .list (ts.reverse.map encT)⟩) s := fun s loc vr r => by
      refine ⟨H1, us ++ ts, loc, vr, k1, by rw [List.length_append]; exact hz1, ?_⟩
      rw [List.reverse_append, List.map_append]; exact r
    walk_at "go"
    refine tmp_pop r1 hF (by simp; omega) fun s2 r2 => ?_
    cases t1 with
    | lose v =>
      dsimp only [encT]
      walk_at "go"
      refine ok_lose r2 hP.add h1 fun id vr2 loc2 s3 r3 hF3 => ?_
      walk_at "go"
      refine tmp_extend r3 hF hF3 (by simp; omega) fun s4 r4 => ?_
      walk_at "go"
      rename_i env1 hE1 _ hE2
      exact ⟨rfl, (hE2.pop (by with_unfolding_all rfl)).pop (by with_unfolding_all rfl), fin _ _ _ r4⟩
    | deed d =>
      dsimp only [encT, encD]
      cases hd : H.change d with
      | none => rw [HS.step, hd] at h1; cases h1
      | some y =>
      rw [HS.step, hd] at h1; cases h1
      rw [List.length_map] at hz1
      walk_at "go"
      refine ok_change r2 hd fun loc2 i s3 r3 hF3 => ?_
      walk_at "go"
      refine ok_losing r3 r3.top (by omega) fun j s4 r4 hF4 => ?_
      walk_at "go"
      refine tmp_extend r4.mid hF (fun o h => hF4 o (h.elim (fun h => .inl (.inl h)) fun h => .inl (.inr h))) (by simp; omega) fun s5 r5 => ?_
      walk_at "go"
      rename_i env1 hE1 _ hE2
      exact ⟨rfl, (hE2.pop (by with_unfolding_all rfl)).pop (by with_unfolding_all rfl), fin _ _ _ r5⟩
  · rintro env s hE ⟨H, ts, loc, vr, hr, hz, r1⟩
    cases hr
    walk_at "go"
    refine truth_l r1.top (by simp) ⟨by simp, ?_⟩
    walk_at "go"
    exact q _ _ r1.drop

theorem ok_do_deed {m : Nat} {d : D} (hw : WhOK wh) (r0 : Rep X loc H F st) (hP : PlanAt F X.plan P) (h : HRuns P m H [.deed d] H') (q : ∀ loc' st', Rep X loc' H' F st' → Q .none st') : wp ((R wh (n + 47)).call "do_deed" [.inst "Counted" X.root, encD d]) st Q := by
  walk_at "fn"
  walk_at "go"
  rename_i t st1 r1 hF _
  refine ok_settle (ts := [.deed d]) hw r1 hF hP h (by show (1 : Nat) ≤ 100000; decide) fun loc2 st2 r2 => ?_
  walk_at "go"
  exact q _ _ r2
end
end
end Mine
namespace Mine
open PySem PySem.W PyProof.Rows
/-! P12 -/
section
set_option maxRecDepth 100000
set_option autoImplicit false

/-! the law's own heap, as it lies -/
structure WC where
  sort : K
  slots : List (Int × V)
  due : Bool
structure WS where
  cells : List (Int × WC)
  vars : List (Int × V)
  log : List L
  tasks : List T
  hand : List V
  last : Int
structure WIds where
  root : Nat
  cells : Nat
  vars : Nat
  log : Nat
  tasks : Nat
  hand : Nat
inductive TagW where
  | root | cells | vars | log | tasks | hand | cell (n : Int) | slot (n : Int)
  deriving DecidableEq
def TagW.id (X : WIds) (loc : Loc) : TagW → Nat
  | .root => X.root
  | .cells => X.cells
  | .vars => X.vars
  | .log => X.log
  | .tasks => X.tasks
  | .hand => X.hand
  | .cell n => loc.cell n
  | .slot n => loc.slot n
def objW (loc : Loc) (n : Int) (_ : WC) : AVal := .obj (loc.cell n)
def cellW (s : Nat) (c : WC) : List AVal := [.str (encK c.sort), .obj s, .bool c.due]
def rootW (X : WIds) (last : Int) : List (Str × AVal) := [("cells", .obj X.cells), ("vars", .obj X.vars), ("log", .obj X.log), ("tasks", .obj X.tasks), ("hand", .obj X.hand), ("last", .int last)]
def objsW (loc : Loc) (l : List (Int × WC)) : List (Int × AVal) := l.map fun p => (p.1, objW loc p.1 p.2)
def contentW (X : WIds) (loc : Loc) (H : WS) : TagW → Option AData
  | .root => some (.sdict (rootW X H.last))
  | .cells => some (.idict (objsW loc H.cells))
  | .vars => some (.idict (encM H.vars))
  | .log => some (.list (H.log.map encL))
  | .tasks => some (.list (H.tasks.reverse.map encT))
  | .hand => some (.list (H.hand.map enc))
  | .cell n => (getK n H.cells).map fun c => .list (cellW (loc.slot n) c)
  | .slot n => (getK n H.cells).map fun c => .idict (encM c.slots)

structure RepW (X : WIds) (loc : Loc) (H : WS) (F : Frm) (st : ASt) : Prop where
  dat : ∀ t d, contentW X loc H t = some d → st.At (t.id X loc) d
  inj : ∀ t t', (contentW X loc H t).isSome → (contentW X loc H t').isSome → t.id X loc = t'.id X loc → t = t'
  frame : ∀ i o, F i o → st.Ob i o
  off : ∀ i o, F i o → ∀ t, (contentW X loc H t).isSome → t.id X loc ≠ i

section
variable {X : WIds} {loc : Loc} {H H' : WS} {F F' : Frm} {st : ASt}

theorem RepW.mono (r : RepW X loc H F st) (h : ∀ i o, F' i o → F i o) : RepW X loc H F' st := ⟨r.dat, r.inj, fun i o q => r.frame i o (h i o q), fun i o q => r.off i o (h i o q)⟩
theorem RepW.drop {i : Nat} {o : AObj} (r : RepW X loc H (F.add i o) st) : RepW X loc H F st := r.mono fun _ _ h => .inl h
theorem RepW.new {d : AData} (r : RepW X loc H F st) : RepW X loc H (F.add st.next ⟨0, d⟩) (st.new d) := by
  refine ⟨fun t d' h => At_new (r.dat t d' h), r.inj, fun i o h => ?_, fun i o h t ht => ?_⟩
  · rcases h with h | ⟨rfl, rfl⟩
    · exact Ob_new (r.frame _ _ h)
    · exact Ob_new_self
  · rcases h with h | ⟨rfl, rfl⟩
    · exact r.off _ _ h t ht
    · obtain ⟨d', hd⟩ := Option.isSome_iff_exists.mp ht
      exact Nat.ne_of_lt (r.dat t d' hd).1
theorem RepW.put {t : TagW} {d : AData} (r : RepW X loc H F st) (h1 : (contentW X loc H t).isSome) (h2 : ∀ t', t' ≠ t → contentW X loc H' t' = contentW X loc H t') (h3 : contentW X loc H' t = some d) : RepW X loc H' F (st.put (t.id X loc) d) := by
  have live : ∀ t', (contentW X loc H' t').isSome → (contentW X loc H t').isSome := fun t' h => by
    by_cases q : t' = t
    · rw [q]; exact h1
    · rw [← h2 t' q]; exact h
  refine ⟨fun t' d' h => ?_, fun t1 t2 h1 h2 e => r.inj t1 t2 (live _ h1) (live _ h2) e, fun i o h => ?_, fun i o h t' ht => r.off i o h t' (live _ ht)⟩
  · by_cases q : t' = t
    · subst q
      rw [h3] at h; cases h
      obtain ⟨d', hd⟩ := Option.isSome_iff_exists.mp h1
      exact At_put_self (r.dat t' d' hd).1
    · rw [h2 t' q] at h
      exact At_put_ne (r.dat t' d' h) fun e => q (r.inj t' t (by rw [h]; rfl) h1 e)
  · exact Ob_put_ne (r.frame i o h) fun e => r.off i o h t h1 e.symm

def WS.setC (H : WS) (n : Int) (c : WC) : WS := { H with cells := putK n c H.cells }

theorem RepW.root (r : RepW X loc H F st) : st.At X.root (.sdict (rootW X H.last)) := r.dat .root _ rfl
theorem RepW.cells (r : RepW X loc H F st) : st.At X.cells (.idict (objsW loc H.cells)) := r.dat .cells _ rfl
theorem RepW.vars (r : RepW X loc H F st) : st.At X.vars (.idict (encM H.vars)) := r.dat .vars _ rfl
theorem RepW.log (r : RepW X loc H F st) : st.At X.log (.list (H.log.map encL)) := r.dat .log _ rfl
theorem RepW.tasks (r : RepW X loc H F st) : st.At X.tasks (.list (H.tasks.reverse.map encT)) := r.dat .tasks _ rfl
theorem RepW.hand (r : RepW X loc H F st) : st.At X.hand (.list (H.hand.map enc)) := r.dat .hand _ rfl
theorem RepW.cell {n : Int} {c : WC} (r : RepW X loc H F st) (h : getK n H.cells = some c) : st.At (loc.cell n) (.list (cellW (loc.slot n) c)) := r.dat (.cell n) _ (by show (getK n H.cells).map _ = _; rw [h]; rfl)
theorem RepW.slot {n : Int} {c : WC} (r : RepW X loc H F st) (h : getK n H.cells = some c) : st.At (loc.slot n) (.idict (encM c.slots)) := r.dat (.slot n) _ (by show (getK n H.cells).map _ = _; rw [h]; rfl)

theorem RepW.put_cell {n : Int} {c c' : WC} {d : AData} (r : RepW X loc H F st) (h : getK n H.cells = some c) (hs : c'.slots = c.slots) (hd : d = .list (cellW (loc.slot n) c')) : RepW X loc (H.setC n c') F (st.put (loc.cell n) d) := by
  refine r.put (t := .cell n) (by show ((getK n H.cells).map _).isSome = true; rw [h]; rfl) (fun t' q => ?_) ?_
  · cases t' with
    | cells =>
      show some (AData.idict (objsW loc (putK n c' H.cells))) = some (AData.idict (objsW loc H.cells))
      unfold objsW
      rw [← putK_mapv, putK_old]
      rw [getK_mapv, h]; rfl
    | cell m =>
      show (getK m (putK n c' H.cells)).map _ = (getK m H.cells).map _
      rw [getK_putK, if_neg fun e => q (by rw [e])]
    | slot m =>
      show (getK m (putK n c' H.cells)).map _ = (getK m H.cells).map _
      rw [getK_putK]
      by_cases e : m = n
      · subst e; rw [if_pos rfl, h]; show some (AData.idict (encM c'.slots)) = some (AData.idict (encM c.slots)); rw [hs]
      · rw [if_neg e]
    | _ => rfl
  · show (getK n (putK n c' H.cells)).map _ = some d
    rw [getK_putK, if_pos rfl, hd]; rfl

theorem RepW.put_root {a : Int} {d : AData} (r : RepW X loc H F st) (hd : d = .sdict (rootW X a)) : RepW X loc { H with last := a } F (st.put X.root d) := by
  subst hd
  refine r.put (t := .root) rfl (fun t' q => ?_) rfl
  cases t' <;> first | rfl | exact absurd rfl q
theorem RepW.put_vars {l : List (Int × V)} {d : AData} (r : RepW X loc H F st) (hd : d = .idict (encM l)) : RepW X loc { H with vars := l } F (st.put X.vars d) := by
  subst hd
  refine r.put (t := .vars) rfl (fun t' q => ?_) rfl
  cases t' <;> first | rfl | exact absurd rfl q
theorem RepW.put_log {l : List L} {d : AData} (r : RepW X loc H F st) (hd : d = .list (l.map encL)) : RepW X loc { H with log := l } F (st.put X.log d) := by
  subst hd
  refine r.put (t := .log) rfl (fun t' q => ?_) rfl
  cases t' <;> first | rfl | exact absurd rfl q
theorem RepW.put_tasks {l : List T} {d : AData} (r : RepW X loc H F st) (hd : d = .list (l.reverse.map encT)) : RepW X loc { H with tasks := l } F (st.put X.tasks d) := by
  subst hd
  refine r.put (t := .tasks) rfl (fun t' q => ?_) rfl
  cases t' <;> first | rfl | exact absurd rfl q
theorem RepW.put_hand {l : List V} {d : AData} (r : RepW X loc H F st) (hd : d = .list (l.map enc)) : RepW X loc { H with hand := l } F (st.put X.hand d) := by
  subst hd
  refine r.put (t := .hand) rfl (fun t' q => ?_) rfl
  cases t' <;> first | rfl | exact absurd rfl q
theorem RepW.put_slot {n : Int} {c : WC} {l : List (Int × V)} {d : AData} (r : RepW X loc H F st) (h : getK n H.cells = some c) (hd : d = .idict (encM l)) : RepW X loc (H.setC n { c with slots := l }) F (st.put (loc.slot n) d) := by
  subst hd
  refine r.put (t := .slot n) (by show ((getK n H.cells).map _).isSome = true; rw [h]; rfl) (fun t' q => ?_) ?_
  · cases t' with
    | cells =>
      show some (AData.idict (objsW loc (putK n _ H.cells))) = some (AData.idict (objsW loc H.cells))
      unfold objsW
      rw [← putK_mapv, putK_old]
      rw [getK_mapv, h]; rfl
    | cell m =>
      show (getK m (putK n _ H.cells)).map _ = (getK m H.cells).map _
      rw [getK_putK]
      by_cases e : m = n
      · subst e; rw [if_pos rfl, h]; rfl
      · rw [if_neg e]
    | slot m =>
      show (getK m (putK n _ H.cells)).map _ = (getK m H.cells).map _
      rw [getK_putK, if_neg fun e => q (by rw [e])]
    | _ => rfl
  · show (getK n (putK n _ H.cells)).map _ = some _
    rw [getK_putK, if_pos rfl]; rfl

theorem RepW.add_cell {n : Int} {c : WC} {a b va vb : Nat} {d : AData} (r : RepW X loc H ((F.add a ⟨va, .list (cellW b c)⟩).add b ⟨vb, .idict (encM c.slots)⟩) st) (hn : getK n H.cells = none) (hFa : ∀ o, ¬ F a o) (hFb : ∀ o, ¬ F b o)
    (hd : d = .idict (putK n (.obj a) (objsW loc H.cells))) : RepW X (loc.upd n a b) { H with cells := putK n c H.cells } F (st.put X.cells d) := by
  subst hd
  have oa := r.frame a _ (.inl (.inr ⟨rfl, rfl⟩))
  have ob := r.frame b _ (.inr ⟨rfl, rfl⟩)
  have fa := r.off a _ (.inl (.inr ⟨rfl, rfl⟩))
  have fb := r.off b _ (.inr ⟨rfl, rfl⟩)
  have hab : a ≠ b := fun e => by subst e; have := At_det oa.at ob.at; cases this
  have same : ∀ t : TagW, t ≠ .cell n → t ≠ .slot n → t.id X (loc.upd n a b) = t.id X loc := fun t h1 h2 => by
    cases t with
    | cell m => exact if_neg fun e => h1 (by rw [e])
    | slot m => exact if_neg fun e => h2 (by rw [e])
    | _ => rfl
  have cn : (TagW.cell n).id X (loc.upd n a b) = a := if_pos rfl
  have sn : (TagW.slot n).id X (loc.upd n a b) = b := if_pos rfl
  have cont : ∀ t : TagW, t ≠ .cell n → t ≠ .slot n → t ≠ .cells → contentW X (loc.upd n a b) { H with cells := putK n c H.cells } t = contentW X loc H t := fun t h1 h2 h3 => by
    cases t with
    | cells => exact absurd rfl h3
    | cell m =>
      have e : m ≠ n := fun e => h1 (by rw [e])
      show (getK m (putK n c H.cells)).map _ = (getK m H.cells).map _
      rw [getK_putK, if_neg e]
      have : (loc.upd n a b).slot m = loc.slot m := if_neg e
      rw [this]
    | slot m =>
      show (getK m (putK n c H.cells)).map _ = (getK m H.cells).map _
      rw [getK_putK, if_neg fun e => h2 (by rw [e])]
    | _ => rfl
  have live : ∀ t : TagW, t ≠ .cell n → t ≠ .slot n → (contentW X (loc.upd n a b) { H with cells := putK n c H.cells } t).isSome → (contentW X loc H t).isSome := fun t h1 h2 h => by
    by_cases q : t = .cells
    · subst q; rfl
    · rwa [cont t h1 h2 q] at h
  have hca : a ≠ X.cells := fun e => fa .cells rfl e.symm
  have hcb : b ≠ X.cells := fun e => fb .cells rfl e.symm
  refine ⟨fun t d' h => ?_, fun t t' h h' e => ?_, fun i o h => ?_, fun i o h t ht => ?_⟩
  · by_cases q1 : t = .cell n
    · subst q1
      rw [cn]
      refine At_put_ne ?_ hca
      have e : contentW X (loc.upd n a b) { H with cells := putK n c H.cells } (.cell n) = some (.list (cellW b c)) := by
        show (getK n (putK n c H.cells)).map _ = _
        rw [getK_putK, if_pos rfl]
        have : (loc.upd n a b).slot n = b := if_pos rfl
        rw [this]; rfl
      rw [e] at h; cases h; exact oa.at
    · by_cases q2 : t = .slot n
      · subst q2
        rw [sn]
        refine At_put_ne ?_ hcb
        have e : contentW X (loc.upd n a b) { H with cells := putK n c H.cells } (.slot n) = some (.idict (encM c.slots)) := by
          show (getK n (putK n c H.cells)).map _ = _
          rw [getK_putK, if_pos rfl]; rfl
        rw [e] at h; cases h; exact ob.at
      · rw [same t q1 q2]
        by_cases q3 : t = .cells
        · subst q3
          have e : contentW X (loc.upd n a b) { H with cells := putK n c H.cells } .cells = some (.idict (putK n (.obj a) (objsW loc H.cells))) := by
            show some (AData.idict (objsW (loc.upd n a b) (putK n c H.cells))) = _
            have e1 : objsW (loc.upd n a b) H.cells = objsW loc H.cells := by
              refine List.map_congr_left fun p hp => ?_
              have : p.1 ≠ n := fun e => by
                obtain ⟨m, cm⟩ := p
                subst e
                have key : ∀ l : List (Int × WC), (m, cm) ∈ l → getK m l ≠ none := fun l => by
                  induction l with
                  | nil => intro h; cases h
                  | cons x l ih =>
                    obtain ⟨j, v⟩ := x
                    intro h e
                    by_cases q : j = m
                    · rw [getK, if_pos q] at e; cases e
                    · rw [getK, if_neg q] at e
                      rcases List.mem_cons.mp h with h | h
                      · cases h; exact q rfl
                      · exact ih h e
                exact key _ hp hn
              show (p.1, AVal.obj ((loc.upd n a b).cell p.1)) = (p.1, AVal.obj (loc.cell p.1))
              have : (loc.upd n a b).cell p.1 = loc.cell p.1 := if_neg this
              rw [this]
            have e2 : objW (loc.upd n a b) n c = .obj a := by show AVal.obj ((loc.upd n a b).cell n) = _; rw [show (loc.upd n a b).cell n = a from if_pos rfl]
            have e3 : objsW (loc.upd n a b) (putK n c H.cells) = putK n (objW (loc.upd n a b) n c) (objsW (loc.upd n a b) H.cells) := putK_mapv.symm
            rw [e3, e2, e1]
          rw [e] at h; cases h
          exact At_put_self (r.dat .cells _ rfl).1
        · rw [cont t q1 q2 q3] at h
          exact At_put_ne (r.dat t d' h) fun e => q3 (r.inj t .cells (by rw [h]; rfl) rfl e)
  · by_cases q1 : t = .cell n
    · subst q1
      by_cases q1' : t' = .cell n
      · exact q1'.symm
      · by_cases q2' : t' = .slot n
        · subst q2'; rw [cn, sn] at e; exact absurd e hab
        · rw [cn, same t' q1' q2'] at e
          exact absurd e.symm (fa t' (live t' q1' q2' h'))
    · by_cases q2 : t = .slot n
      · subst q2
        by_cases q1' : t' = .cell n
        · subst q1'; rw [cn, sn] at e; exact absurd e.symm hab
        · by_cases q2' : t' = .slot n
          · exact q2'.symm
          · rw [sn, same t' q1' q2'] at e
            exact absurd e.symm (fb t' (live t' q1' q2' h'))
      · by_cases q1' : t' = .cell n
        · subst q1'; rw [cn, same t q1 q2] at e; exact absurd e (fa t (live t q1 q2 h))
        · by_cases q2' : t' = .slot n
          · subst q2'; rw [sn, same t q1 q2] at e; exact absurd e (fb t (live t q1 q2 h))
          · rw [same t q1 q2, same t' q1' q2'] at e
            exact r.inj t t' (live t q1 q2 h) (live t' q1' q2' h') e
  · exact Ob_put_ne (r.frame i o (.inl (.inl h))) fun e => r.off i o (.inl (.inl h)) .cells rfl e.symm
  · by_cases q1 : t = .cell n
    · subst q1; rw [cn]; exact fun e => hFa o (e ▸ h)
    · by_cases q2 : t = .slot n
      · subst q2; rw [sn]; exact fun e => hFb o (e ▸ h)
      · rw [same t q1 q2]; exact r.off i o (.inl (.inl h)) t (live t q1 q2 ht)

theorem RepW.del_cell {n : Int} {d : AData} (r : RepW X loc H F st) (hd : d = .idict (delK n (objsW loc H.cells))) : RepW X loc { H with cells := delK n H.cells } F (st.put X.cells d) := by
  subst hd
  have live : ∀ t : TagW, (contentW X loc { H with cells := delK n H.cells } t).isSome → (contentW X loc H t).isSome ∧ (t ≠ .cells → contentW X loc { H with cells := delK n H.cells } t = contentW X loc H t) := fun t h => by
    cases t with
    | cells => exact ⟨rfl, fun q => absurd rfl q⟩
    | cell m =>
      have h : ((getK m (delK n H.cells)).map fun c => AData.list (cellW (loc.slot m) c)).isSome = true := h
      show ((getK m H.cells).map fun c => AData.list (cellW (loc.slot m) c)).isSome = true ∧ (_ → (getK m (delK n H.cells)).map (fun c => AData.list (cellW (loc.slot m) c)) = (getK m H.cells).map fun c => AData.list (cellW (loc.slot m) c))
      rw [getK_delK] at h ⊢
      by_cases e : m = n
      · rw [if_pos e] at h; cases h
      · rw [if_neg e] at h ⊢; exact ⟨h, fun _ => rfl⟩
    | slot m =>
      have h : ((getK m (delK n H.cells)).map fun c => AData.idict (encM c.slots)).isSome = true := h
      show ((getK m H.cells).map fun c => AData.idict (encM c.slots)).isSome = true ∧ (_ → (getK m (delK n H.cells)).map (fun c => AData.idict (encM c.slots)) = (getK m H.cells).map fun c => AData.idict (encM c.slots))
      rw [getK_delK] at h ⊢
      by_cases e : m = n
      · rw [if_pos e] at h; cases h
      · rw [if_neg e] at h ⊢; exact ⟨h, fun _ => rfl⟩
    | _ => exact ⟨rfl, fun _ => rfl⟩
  refine ⟨fun t d' h => ?_, fun t1 t2 h1 h2 e => r.inj t1 t2 (live _ h1).1 (live _ h2).1 e, fun i o h => ?_, fun i o h t' ht => r.off i o h t' (live _ ht).1⟩
  · by_cases q : t = .cells
    · subst q
      have e : contentW X loc { H with cells := delK n H.cells } .cells = some (.idict (delK n (objsW loc H.cells))) := by
        show some (AData.idict (objsW loc (delK n H.cells))) = _
        unfold objsW; rw [delK_mapv]
      rw [e] at h; cases h
      exact At_put_self (r.dat .cells _ rfl).1
    · have l := live t (by rw [h]; rfl)
      rw [l.2 q] at h
      exact At_put_ne (r.dat t d' h) fun e => q (r.inj t .cells l.1 rfl e)
  · exact Ob_put_ne (r.frame i o h) fun e => r.off i o h .cells rfl e.symm

end
end
end Mine
namespace Mine
open PySem PySem.W PyProof.Rows
/-! P13 -/
section
set_option maxRecDepth 100000
set_option autoImplicit false
set_option maxHeartbeats 1000000

def WS.pl (H : WS) : Pl → Option (List (Int × V))
  | .vars => some H.vars
  | .slots n => (getK n H.cells).map (·.slots)
def WS.setPl (H : WS) (p : Pl) (l : List (Int × V)) : WS := match p with
  | .vars => { H with vars := l }
  | .slots n => match getK n H.cells with
    | some c => H.setC n { c with slots := l }
    | none => H
def Pl.idW (X : WIds) (loc : Loc) : Pl → Nat
  | .vars => X.vars
  | .slots n => loc.slot n

theorem setCW_get {H : WS} {a : Int} {c : WC} : getK a (H.setC a c).cells = some c := by show getK a (putK a c H.cells) = _; rw [getK_putK, if_pos rfl]
theorem setCW_setC {H : WS} {a : Int} {c d : WC} : (H.setC a c).setC a d = H.setC a d := by unfold WS.setC; rw [show putK a d (putK a c H.cells) = putK a d H.cells from putK_putK]

section
variable {X : WIds} {loc : Loc} {H : WS} {F : Frm} {st : ASt} {U : Unit → ASt → Prop} {Q : AVal → ASt → Prop} {n : Int} {c : WC} {p : Pl} {k : Int} {v : V}

theorem RepW.pl {l : List (Int × V)} (r : RepW X loc H F st) (h : H.pl p = some l) : st.At (p.idW X loc) (.idict (encM l)) := by
  cases p with
  | vars => cases h; exact r.vars
  | slots n =>
    have h : (getK n H.cells).map (·.slots) = some l := h
    cases e : getK n H.cells with
    | none => rw [e] at h; cases h
    | some c => rw [e] at h; cases h; exact r.slot e
theorem RepW.put_pl {l l' : List (Int × V)} (r : RepW X loc H F st) (h : H.pl p = some l) : RepW X loc (H.setPl p l') F (st.put (p.idW X loc) (.idict (encM l'))) := by
  cases p with
  | vars => exact r.put_vars rfl
  | slots n =>
    have h : (getK n H.cells).map (·.slots) = some l := h
    cases e : getK n H.cells with
    | none => rw [e] at h; cases h
    | some c =>
      have := r.put_slot (l := l') e rfl
      show RepW X loc (match getK n H.cells with | some c => H.setC n { c with slots := l' } | none => H) F _
      rw [e]; exact this
theorem item_plW {l : List (Int × V)} (r : RepW X loc H F st) (h : H.pl p = some l) (hv : getK k l = some v) (q : Q (enc v) st) : wp (itemGet (.obj (p.idW X loc)) (.int k)) st Q := item_m (r.pl h) hv q
theorem in_plW {B : Bool → ASt → Prop} {l : List (Int × V)} (r : RepW X loc H F st) (h : H.pl p = some l) (q : B (getK k l).isSome st) : wp (cmp .In (.int k) (.obj (p.idW X loc))) st B := in_m (r.pl h) q
theorem set_plW {l : List (Int × V)} (r : RepW X loc H F st) (h : H.pl p = some l) (hz : l.length ≤ 1000000) (q : ∀ st', RepW X loc (H.setPl p (putK k v l)) F st' → U () st') : wp (itemSet (.obj (p.idW X loc)) (.int k) (enc v)) st U :=
  set_idict (r.pl h) (by rw [len_encM]; exact hz) (by rw [putK_encM]; exact q _ (r.put_pl h))
theorem pop_plW {l : List (Int × V)} (r : RepW X loc H F st) (h : H.pl p = some l) (hv : getK k l = some v) (hz : l.length ≤ 1000000) (q : ∀ st', RepW X loc (H.setPl p (delK k l)) F st' → Q (enc v) st') : wp (methI (p.idW X loc) "pop" [.int k]) st Q :=
  m_popk (r.pl h) (by rw [getK_encM, hv]; rfl) (by rw [len_encM]; exact hz) (by rw [delK_encM]; exact q _ (r.put_pl h))

theorem RepW.top {i vr : Nat} {d : AData} (r : RepW X loc H (F.add i ⟨vr, d⟩) st) : st.At i d := (r.frame i _ (.inr ⟨rfl, rfl⟩)).at
theorem RepW.top2 {i j vr : Nat} {d : AData} {o : AObj} (r : RepW X loc H ((F.add i ⟨vr, d⟩).add j o) st) : st.At i d := (r.frame i _ (.inl (.inr ⟨rfl, rfl⟩))).at
theorem RepW.mid {i j : Nat} {o o' : AObj} (r : RepW X loc H ((F.add i o).add j o') st) : RepW X loc H (F.add j o') st := r.mono fun _ _ h => h.elim (fun h => .inl (.inl h)) .inr
theorem RepW.swap {i j : Nat} {o p : AObj} (r : RepW X loc H ((F.add i o).add j p) st) : RepW X loc H ((F.add j p).add i o) st :=
  r.mono fun _ _ h => h.elim (fun h => h.elim (fun h => .inl (.inl h)) .inr) fun h => .inl (.inr h)
theorem RepW.put_tmp {i : Nat} {o : AObj} {d : AData} (r : RepW X loc H (F.add i o) st) (hF : ∀ o, ¬ F i o) : RepW X loc H (F.add i ⟨o.ver + 1, d⟩) (st.put i d) := by
  have oi := r.frame i o (.inr ⟨rfl, rfl⟩)
  refine ⟨fun t d' h => At_put_ne (r.dat t d' h) (r.off i o (.inr ⟨rfl, rfl⟩) t (by rw [h]; rfl)), r.inj, fun j p h => ?_, fun j p h t ht => ?_⟩
  · rcases h with h | ⟨rfl, rfl⟩
    · exact Ob_put_ne (r.frame j p (.inl h)) fun e => hF p (e ▸ h)
    · exact ⟨oi.1, by show (if j = j then (⟨_, d⟩ : AObj) else _) = _; rw [if_pos rfl, oi.2]⟩
  · rcases h with h | ⟨rfl, rfl⟩
    · exact r.off j p (.inl h) t ht
    · exact r.off j o (.inr ⟨rfl, rfl⟩) t ht
theorem RepW.frame_add {i : Nat} (r : RepW X loc H F st) (hi : i < st.next) (ho : ∀ t, (contentW X loc H t).isSome → t.id X loc ≠ i) : RepW X loc H (F.add i (st.get i)) st := by
  refine ⟨r.dat, r.inj, fun j o h => ?_, fun j o h t ht => ?_⟩
  · rcases h with h | ⟨rfl, rfl⟩
    · exact r.frame j o h
    · exact ⟨hi, rfl⟩
  · rcases h with h | ⟨rfl, rfl⟩
    · exact r.off j o h t ht
    · exact ho t ht
theorem wp_newW {Q : Nat → ASt → Prop} {d : AData} (r : RepW X loc H F st) (q : ∀ id st', RepW X loc H (F.add id ⟨0, d⟩) st' → (∀ o, ¬ F id o) → (∀ j, j ≠ id → st'.get j = st.get j) → Q id st') : wp (newD d) st Q :=
  wp_newD (q _ _ r.new (fun o h => Nat.lt_irrefl _ (r.frame _ o h).1) fun _ hj => if_neg hj)
theorem tmp_appendW {i vr : Nat} {l : List AVal} {x : AVal} (r : RepW X loc H (F.add i ⟨vr, .list l⟩) st) (hF : ∀ o, ¬ F i o) (hz : l.length ≤ 1000000) (q : ∀ st', RepW X loc H (F.add i ⟨vr + 1, .list (l ++ [x])⟩) st' → Q .none st') : wp (methL i "append" [x]) st Q :=
  m_append r.top hz (q _ (r.put_tmp hF))
theorem tmp_extendW {i j vr vj : Nat} {l m : List AVal} (r : RepW X loc H ((F.add i ⟨vr, .list l⟩).add j ⟨vj, .list m⟩) st) (hFi : ∀ o, ¬ F i o) (hFj : ∀ o, ¬ (F.add i ⟨vr, .list l⟩) j o) (hz : l.length + m.length ≤ 1000000) (q : ∀ st', RepW X loc H (F.add i ⟨vr + 1, .list (l ++ m)⟩) st' → (∀ x, x ≠ i → st'.get x = st.get x) → Q .none st') : wp (methL i "extend" [.obj j]) st Q := by
  have hji : j ≠ i := fun e => hFj _ (.inr ⟨e, rfl⟩)
  refine m_extend r.top2 r.top hji hz (q _ ?_ fun _ hx => if_neg hx)
  have r2 := r.swap.put_tmp (d := .list (l ++ m)) (fun o h => h.elim (hFi o) fun h => hji h.1.symm)
  exact r2.mid

theorem item_cellsW (r : RepW X loc H F st) (h : getK n H.cells = some c) (q : Q (.obj (loc.cell n)) st) : wp (itemGet (.obj X.cells) (.int n)) st Q :=
  item_idict r.cells (by unfold objsW; rw [getK_mapv, h]; rfl) q
theorem set_due {b : Bool} (r : RepW X loc H F st) (h : getK n H.cells = some c) (q : ∀ st', RepW X loc (H.setC n { c with due := b }) F st' → U () st') : wp (itemSet (.obj (loc.cell n)) (.int 2) (.bool b)) st U :=
  set_list (r.cell h) (by show (0 : Int) ≤ 2 ∧ (2 : Int) < (3 : Nat) ∧ 3 ≤ 1000; decide) (q _ (r.put_cell h rfl rfl))
theorem set_lastW {k : Int} (r : RepW X loc H F st) (q : ∀ st', RepW X loc { H with last := k } F st' → U () st') : wp (itemSet (.obj X.root) (.str "last") (.int k)) st U :=
  set_sdict r.root (by show (6 : Nat) ≤ 100; decide) (q _ (r.put_root rfl))
theorem log_appendW {l : L} (r : RepW X loc H F st) (hz : H.log.length ≤ 1000000) (q : ∀ st', RepW X loc { H with log := H.log ++ [l] } F st' → Q .none st') : wp (methL X.log "append" [encL l]) st Q :=
  m_append r.log (by rw [List.length_map]; exact hz) (q _ (r.put_log (by rw [List.map_append]; rfl)))
theorem hand_append (r : RepW X loc H F st) (hz : H.hand.length ≤ 1000000) (q : ∀ st', RepW X loc { H with hand := H.hand ++ [v] } F st' → Q .none st') : wp (methL X.hand "append" [enc v]) st Q :=
  m_append r.hand (by rw [List.length_map]; exact hz) (q _ (r.put_hand (by rw [List.map_append]; rfl)))
theorem hand_pop {l : List V} (r : RepW X loc H F st) (h : H.hand = l ++ [v]) (hz : H.hand.length ≤ 1000000) (q : ∀ st', RepW X loc { H with hand := l } F st' → Q (enc v) st') : wp (methL X.hand "pop" []) st Q := by
  have r1 := r.hand
  rw [h, List.map_append] at r1
  refine m_pop r1 ?_ (q _ (r.put_hand rfl))
  have e : (l.map enc ++ [v].map enc).length = H.hand.length := by rw [h]; simp
  exact Nat.le_trans (Nat.le_of_eq e) hz
theorem tasks_append {t : T} (r : RepW X loc H F st) (hz : H.tasks.length ≤ 1000000) (q : ∀ st', RepW X loc { H with tasks := t :: H.tasks } F st' → Q .none st') : wp (methL X.tasks "append" [encT t]) st Q :=
  m_append r.tasks (by rw [List.length_map, List.length_reverse]; exact hz) (q _ (r.put_tasks (by rw [List.reverse_cons, List.map_append]; rfl)))
theorem tasks_extend {j vj : Nat} {us : List T} (r : RepW X loc H (F.add j ⟨vj, .list (us.reverse.map encT)⟩) st) (hz : H.tasks.length + us.length ≤ 1000000) (q : ∀ st', RepW X loc { H with tasks := us ++ H.tasks } F st' → Q .none st') : wp (methL X.tasks "extend" [.obj j]) st Q := by
  have hj : j ≠ X.tasks := fun e => r.off j _ (.inr ⟨rfl, rfl⟩) .tasks rfl e.symm
  refine m_extend r.tasks r.top hj (by rw [List.length_map, List.length_map, List.length_reverse, List.length_reverse]; exact hz) (q _ ?_)
  rw [← List.map_append, ← List.reverse_append]
  exact (r.put_tasks rfl).drop
theorem tasks_pop {t : T} {ts : List T} (r : RepW X loc H F st) (h : H.tasks = t :: ts) (hz : H.tasks.length ≤ 1000000) (q : ∀ st', RepW X loc { H with tasks := ts } F st' → Q (encT t) st') : wp (methL X.tasks "pop" []) st Q := by
  have r1 := r.tasks
  rw [h, List.reverse_cons, List.map_append] at r1
  refine m_pop r1 ?_ (q _ (r.put_tasks rfl))
  have e : (ts.reverse.map encT ++ [t].map encT).length = H.tasks.length := by rw [h]; simp
  exact Nat.le_trans (Nat.le_of_eq e) hz
theorem set_varsW (r : RepW X loc H F st) (hz : H.vars.length ≤ 1000000) (q : ∀ st', RepW X loc { H with vars := putK k v H.vars } F st' → U () st') : wp (itemSet (.obj X.vars) (.int k) (enc v)) st U :=
  set_idict r.vars (by rw [len_encM]; exact hz) (q _ (r.put_vars (by rw [putK_encM])))
theorem set_slotW (r : RepW X loc H F st) (h : getK n H.cells = some c) (hz : c.slots.length ≤ 1000000) (q : ∀ st', RepW X loc (H.setC n { c with slots := putK k v c.slots }) F st' → U () st') : wp (itemSet (.obj (loc.slot n)) (.int k) (enc v)) st U :=
  set_idict (r.slot h) (by rw [len_encM]; exact hz) (q _ (r.put_slot h (by rw [putK_encM])))
theorem set_cellsW {a b : Nat} {m : Int} {c : WC} (r : RepW X loc H ((F.add a ⟨0, .list (cellW b c)⟩).add b ⟨0, .idict (encM c.slots)⟩) st) (hn : getK m H.cells = none) (hz : H.cells.length ≤ 1000000) (hFa : ∀ o, ¬ F a o) (hFb : ∀ o, ¬ F b o) (q : ∀ st', RepW X (loc.upd m a b) { H with cells := putK m c H.cells } F st' → U () st') : wp (itemSet (.obj X.cells) (.int m) (.obj a)) st U :=
  set_idict r.cells (by unfold objsW; rw [List.length_map]; exact hz) (q _ (r.add_cell hn hFa hFb rfl))
theorem del_cellsW {a : Int} (r : RepW X loc H F st) (h : getK a H.cells = some c) (hz : H.cells.length ≤ 1000000) (q : ∀ o o' st', RepW X loc { H with cells := delK a H.cells } ((F.add (loc.cell a) o).add (loc.slot a) o') st' → o.data = .list (cellW (loc.slot a) c) → o'.data = .idict (encM c.slots) → U () st') : wp (itemDel (.obj X.cells) (.int a)) st U := by
  refine del_idict r.cells ⟨by unfold objsW; rw [getK_mapv, h]; rfl, by unfold objsW; rw [List.length_map]; exact hz⟩ ?_
  have r' := r.del_cell (n := a) rfl
  have lc : (contentW X loc H (.cell a)).isSome := by show ((getK a H.cells).map _).isSome = true; rw [h]; rfl
  have ls : (contentW X loc H (.slot a)).isSome := by show ((getK a H.cells).map _).isSome = true; rw [h]; rfl
  have hne : loc.cell a ≠ X.cells := fun e => by
    have := r.inj (.cell a) .cells lc rfl e
    cases this
  have hns : loc.slot a ≠ X.cells := fun e => by
    have := r.inj (.slot a) .cells ls rfl e
    cases this
  have hat := At_put_ne (d := .idict (delK a (objsW loc H.cells))) (r.cell h) hne
  have has := At_put_ne (d := .idict (delK a (objsW loc H.cells))) (r.slot h) hns
  have live : ∀ t, (contentW X loc { H with cells := delK a H.cells } t).isSome → (contentW X loc H t).isSome ∧ t ≠ .cell a ∧ t ≠ .slot a := fun t ht => by
    cases t with
    | cell m =>
      have ht : ((getK m (delK a H.cells)).map fun c => AData.list (cellW (loc.slot m) c)).isSome = true := ht
      rw [getK_delK] at ht
      by_cases e : m = a
      · rw [if_pos e] at ht; cases ht
      · rw [if_neg e] at ht; exact ⟨ht, fun q => e (by cases q; rfl), fun q => by cases q⟩
    | slot m =>
      have ht : ((getK m (delK a H.cells)).map fun c => AData.idict (encM c.slots)).isSome = true := ht
      rw [getK_delK] at ht
      by_cases e : m = a
      · rw [if_pos e] at ht; cases ht
      · rw [if_neg e] at ht; exact ⟨ht, fun q => (by cases q), fun q => e (by cases q; rfl)⟩
    | _ => exact ⟨rfl, fun q => (by cases q), fun q => by cases q⟩
  have r2 := r'.frame_add hat.1 fun t ht e => (live t ht).2.1 (r.inj t (.cell a) (live t ht).1 lc e)
  have r3 := r2.frame_add has.1 fun t ht e => (live t ht).2.2 (r.inj t (.slot a) (live t ht).1 ls e)
  exact q _ _ _ r3 hat.2 has.2
end

end
/-! ready-made steps -/
local macro_rules | `(tactic| walk_at "at") => `(tactic| first
  | assumption
  | exact RepW.root (by assumption)
  | exact RepW.cells (by assumption)
  | exact RepW.vars (by assumption)
  | exact RepW.log (by assumption)
  | exact RepW.tasks (by assumption)
  | exact RepW.hand (by assumption)
  | exact RepW.cell (by assumption) (by assumption)
  | exact RepW.slot (by assumption) (by assumption)
  | exact RepW.pl (by assumption) (by assumption)
  | exact RepW.top (by assumption)
  | exact RepW.top2 (by assumption))
local macro_rules | `(tactic| walk_at "br") => `(tactic| first
  | with_reducible refine br_t (by first | assumption | with_unfolding_all rfl) ?_
  | with_reducible refine br_f (by first | assumption | with_unfolding_all rfl) ?_
  | with_reducible refine br_f' (by first | assumption | with_unfolding_all rfl) ?_
  | with_reducible refine br_t' (by first | assumption | with_unfolding_all rfl) ?_
  | with_reducible refine br_t (isSome_t (by assumption)) ?_
  | with_reducible refine br_f (isSome_f (by assumption)) ?_)
local macro_rules | `(tactic| walk_at "step") => `(tactic| first
  | with_reducible refine ev_name (by with_unfolding_all rfl) (by with_unfolding_all rfl) ?_
  | with_reducible refine ev_name (by with_unfolding_all rfl) (Has.get (by assumption) (by with_unfolding_all rfl) (by with_unfolding_all rfl)) ?_
  | with_reducible refine ev_const (by with_unfolding_all rfl) ?_
  | with_reducible refine ev_attr (by with_unfolding_all rfl) ?_
  | with_reducible refine ev_upto ?_
  | with_reducible refine ev_back ?_
  | with_reducible refine ev_sub (by with_unfolding_all rfl) ?_
  | with_reducible refine ev_call (by decide +kernel) (by with_unfolding_all rfl) ?_
  | with_reducible refine ev_callH (by assumption) (by decide +kernel) (by with_unfolding_all rfl) ?_
  | with_reducible refine ev_meth (by with_unfolding_all rfl) ?_
  | with_reducible refine ev_tuple (by with_unfolding_all rfl) ?_
  | with_reducible refine ev_dict0 ?_
  | with_reducible refine ev_list (by with_unfolding_all rfl) ?_
  | with_reducible refine ev_cmp (by with_unfolding_all rfl) ?_
  | with_reducible refine ev_if ?_
  | with_reducible refine ev_bin ?_
  | with_reducible refine ev_un ?_
  | with_reducible refine ev_bool ?_
  | with_reducible refine boolA_one ?_
  | with_reducible refine boolA_and ?_
  | with_reducible refine boolA_or ?_
  | with_reducible refine evs_nil ?_
  | with_reducible refine evs_cons ?_
  | with_reducible refine exs_nil ?_
  | with_reducible refine st_ret ?_
  | with_reducible refine st_ret0 ?_
  | with_reducible refine st_assign (by with_unfolding_all rfl) ?_
  | with_reducible refine st_expr (by with_unfolding_all rfl) ?_
  | with_reducible refine st_if ?_
  | with_reducible refine st_aug_attr ?_
  | with_reducible refine st_aug_sub (by with_unfolding_all rfl) ?_
  | with_reducible refine st_del ?_
  | with_reducible refine then_next ?_
  | with_reducible refine then_ret ?_
  | with_reducible refine as_name (by with_unfolding_all rfl) ?_
  | with_reducible refine as_nameH (by assumption) (by with_unfolding_all rfl) (fun env' hE => ?_)
  | with_reducible refine as_attr ?_
  | with_reducible refine as_sub ?_
  | with_reducible refine as_tup ?_
  | with_reducible refine bts_nil ?_
  | with_reducible refine bts_name (by with_unfolding_all rfl) ?_
  | with_reducible refine bts_nameH (by assumption) (by with_unfolding_all rfl) (fun env' hE => ?_)
  | with_reducible refine bts_attr ?_
  | with_reducible refine truth_b ?_
  | with_reducible refine attr_get (by with_unfolding_all rfl) (by walk_at "at") (by with_unfolding_all rfl) ?_
  | with_reducible refine item_v0 ?_
  | with_reducible refine item_v1c ?_
  | with_reducible refine item_v1 ?_
  | with_reducible refine item_sdict (by walk_at "at") (by with_unfolding_all rfl) ?_
  | with_reducible refine item_list (by walk_at "at") (by decide) (by with_unfolding_all rfl) ?_
  | with_reducible refine item_tup (by decide) (by with_unfolding_all rfl) ?_
  | with_reducible refine item_m (by walk_at "at") (by assumption) ?_
  | with_reducible refine item_plW (by assumption) (by assumption) (by assumption) ?_
  | with_reducible refine in_plW (by assumption) (by assumption) ?_
  | with_reducible refine set_plW (by assumption) (by assumption) (by assumption) (fun st' r' => ?_)
  | with_reducible refine pop_plW (by assumption) (by assumption) (by assumption) (by assumption) (fun st' r' => ?_)
  | with_reducible refine wp_newW (by assumption) (fun id st' r' hF hs => ?_)
  | with_reducible refine item_cellsW (by assumption) (by assumption) ?_
  | with_reducible refine get_m (by walk_at "at") ?_
  | with_reducible refine get_mv (by walk_at "at") ?_
  | with_reducible refine cmp_eq aeq_tagc ?_
  | with_reducible refine cmp_eq aeq_tagi ?_
  | with_reducible refine cmp_eq aeq_ref ?_
  | with_reducible refine cmp_eq aeq_object ?_
  | with_reducible refine cmp_eq aeq_int ?_
  | with_reducible refine cmp_ne aeq_ref ?_
  | with_reducible refine in_m (by walk_at "at") ?_
  | with_reducible refine cmp_gt ?_
  | with_reducible refine cmp_isnot_i ?_
  | with_reducible refine cmp_isnot_n ?_
  | with_reducible refine cmp_is_i ?_
  | with_reducible refine cmp_is_n ?_
  | with_reducible refine un_not ?_
  | with_reducible refine un_neg ?_
  | with_reducible refine aug_add ?_
  | with_reducible refine aug_sub ?_
  | with_reducible refine bin_add ?_
  | with_reducible refine bin_sub ?_
  | with_reducible refine meth_l (by walk_at "at") ?_
  | with_reducible refine meth_i (by walk_at "at") ?_
  | walk_at "br"
  | walk_at "call")
local macro_rules | `(tactic| walk_at "call") => `(tactic| fail)
local macro_rules | `(tactic| walk_at "init") => `(tactic| (refine call_init (by rfl) (by rfl) ⟨by rfl, by rfl⟩ ?_; dsimp only [List.map, List.zip, List.zipWith]))
local macro_rules | `(tactic| walk_at "fn") => `(tactic| (refine call_f (by rfl) (by decide +kernel) ⟨by rfl, by rfl⟩ ?_; dsimp only [List.map, List.zip, List.zipWith]))
local macro_rules | `(tactic| walk_at "go") => `(tactic| repeat walk_at "step")

section
set_option maxRecDepth 100000
set_option autoImplicit false
set_option maxHeartbeats 1000000

def WS.isRef (H : WS) : V → Option Bool
  | .int _ => some false
  | .cell n => (getK n H.cells).map fun c => decide (c.sort = .ref)
def WS.inner (H : WS) (v : V) : Option V := (H.isRef v).bind fun b => if b = true then (getK v.num H.cells).bind fun c => getK 0 c.slots else some v
def WS.var (H : WS) (x : Int) : V := (getK x H.vars).getD (.int 0)
def WS.valueOf (H : WS) (x : Int) : Option V := H.inner (H.var x)
def WS.newCell (H : WS) (k : K) (b : Bool) : Option WS := if (getK (H.last + 1) H.cells).isNone ∧ H.cells.length ≤ 1000000 then some { H with last := H.last + 1, cells := putK (H.last + 1) ⟨k, [], b⟩ H.cells } else none

section
variable {X : WIds} {loc : Loc} {H H' : WS} {F : Frm} {st : ASt} {wh : ((AEnv × ASt) → Option (Sum (AEnv × ASt) ((Out × AEnv) × ASt))) → AEnv × ASt → Option ((Out × AEnv) × ASt)} {n : Nat} {v w : V} {Q : AVal → ASt → Prop}

theorem ok_w_is_ref {b : Bool} (r : RepW X loc H F st) (h : H.isRef v = some b) (q : Q (.bool b) st) : wp ((R wh (n + 8)).call "_law_is_ref" [.obj X.root, enc v]) st Q := by
  walk_at "fn"
  cases v with
  | int i =>
    cases h
    walk_at "go"; exact q
  | cell m =>
    have h : (getK m H.cells).map (fun c => decide (c.sort = .ref)) = some b := h
    cases hc : getK m H.cells with
    | none => rw [hc] at h; cases h
    | some c => rw [hc] at h; cases h; walk_at "go"; exact q

local macro_rules | `(tactic| walk_at "call") => `(tactic| first
  | with_reducible refine ok_w_is_ref (by assumption) (by assumption) ?_)
theorem ok_w_inner (r : RepW X loc H F st) (h : H.inner v = some w) (q : Q (enc w) st) : wp ((R wh (n + 12)).call "_law_inner" [.obj X.root, enc v]) st Q := by
  walk_at "fn"
  unfold WS.inner at h
  cases hr : H.isRef v with
  | none => rw [hr] at h; cases h
  | some b =>
  rw [hr, Option.bind_some] at h
  cases b with
  | false => rw [if_neg (by decide)] at h; cases h; walk_at "go"; exact q
  | true =>
    rw [if_pos rfl] at h
    cases hc : getK v.num H.cells with
    | none => rw [hc] at h; cases h
    | some c =>
      rw [hc] at h
      have h : getK 0 c.slots = some w := h
      walk_at "go"; exact q
local macro_rules | `(tactic| walk_at "call") => `(tactic| first
  | with_reducible refine ok_w_inner (by assumption) (by assumption) ?_)
theorem ok_w_value {x : Int} (r : RepW X loc H F st) (h : H.valueOf x = some w) (q : Q (enc w) st) : wp ((R wh (n + 16)).call "_law_value" [.obj X.root, .int x]) st Q := by
  walk_at "fn"
  walk_at "go"
  exact ok_w_inner r h q

theorem ok_w_new {k : K} {b : Bool} (r : RepW X loc H F st) (h : H.newCell k b = some H') (q : ∀ loc' st', RepW X loc' H' F st' → (∀ m, m ≠ H'.last → loc'.cell m = loc.cell m ∧ loc'.slot m = loc.slot m) → Q (enc (.cell H'.last)) st') : wp ((R wh (n + 10)).call "_law_new" [.obj X.root, .str (encK k), .bool b]) st Q := by
  unfold WS.newCell at h
  split at h
  · rename_i hh
    cases h
    walk_at "fn"
    walk_at "go"
    refine set_lastW r fun st1 r1 => ?_
    walk_at "go"
    rename_i b st2 r2 hFb _ a st3 r3 hFa _
    have hFb' : ∀ o, ¬ F b o := hFb
    refine set_cellsW (c := ⟨k, [], _⟩) r3.swap (Option.isNone_iff_eq_none.mp hh.1) hh.2 (Frm.sub hFa) hFb fun st4 r4 => ?_
    walk_at "go"
    exact q _ _ r4 fun m hm => ⟨if_neg hm, if_neg hm⟩
  · cases h
end
end
/-! P14 -/
section
set_option maxRecDepth 100000
set_option autoImplicit false
set_option maxHeartbeats 1000000

theorem Has.dup {env : AEnv} {sc : Scope} {L : List (Str × AVal)} {k : Str} {v w : AVal} (h : Has env sc ((k, v) :: (k, w) :: L)) : Has env sc ((k, v) :: L) := h.weak fun y u q => by
  rw [List.lookup_cons] at q ⊢
  cases e : (y == k) with
  | true => rw [e] at q; exact q
  | false => rw [e] at q; rw [List.lookup_cons, e]; exact q

theorem lookup_filterk {P : Str → Bool} {x : Str} : ∀ l : List (Str × AVal), List.lookup x (l.filter fun p => P p.1) = if P x = true then l.lookup x else none
  | [] => by show none = _; cases P x <;> rfl
  | (y, v) :: l => by
    rw [List.lookup_cons]
    by_cases q : P y = true
    · rw [List.filter_cons_of_pos (p := fun p : Str × AVal => P p.1) q, List.lookup_cons, lookup_filterk l]
      cases e : (x == y) with
      | true =>
        have e : x = y := by simpa using e
        subst e; simp [q]
      | false => rfl
    · rw [List.filter_cons_of_neg (p := fun p : Str × AVal => P p.1) q, lookup_filterk l]
      cases e : (x == y) with
      | true =>
        have e : x = y := by simpa using e
        subst e; simp [q]
      | false => rfl
theorem Has.comp {env : AEnv} {sc : Scope} {L : List (Str × AVal)} (cs : Scope) (h : Has env sc L) : Has (compEnvA cs env) cs (L.filter fun p => cs.names.lookup p.1 == some .free) := by
  refine ⟨rfl, fun x v q => ?_⟩
  rw [lookup_filterk (P := fun y => cs.names.lookup y == some .free)] at q
  split at q
  · rename_i hp
    show List.lookup x (env.vars.filter fun p => cs.names.lookup p.1 == some .free) = some v
    rw [lookup_filterk (P := fun y => cs.names.lookup y == some .free), if_pos hp]
    exact h.2 x v q
  · cases q

section
variable {wh : ((AEnv × ASt) → Option (Sum (AEnv × ASt) ((Out × AEnv) × ASt))) → AEnv × ASt → Option ((Out × AEnv) × ASt)} {n : Nat} {env : AEnv} {st : ASt} {Q : AVal → ASt → Prop} {p : Pos} {r : Rec}
theorem builtin_len {id : Nat} {l : List AVal} (hl : st.At id (.list l)) (hz : l.length ≤ 1000000) (q : Q (.int l.length) st) : wp (builtinA "len" (.obj id)) st Q :=
  wp_true (by decide +kernel) (wp_bind (wp_getD hl (wp_true hz (wp_pure q))))
theorem src_call {Q : Src → ASt → Prop} {e : Expr} {f : Str} {q : Pos} (hf : (f == ("reversed" : Str)) = false ∧ (f == ("enumerate" : Str)) = false ∧ (f == ("range" : Str)) = false) (h : (isGlob env f && notStar e) = true) (k : wp (r.ev (.Call (.Name f q) [e] [] p) env) st fun v st' => ∃ id l, v = .obj id ∧ st'.At id (.list l) ∧ Q (.lst id) st') : wp (srcOf r env (.Call (.Name f q) [e] [] p)) st Q := by
  show wp (if !(isGlob env f && notStar e) then fail else _) st Q
  refine wp_guard h (wp_false (by rw [hf.1]; decide) (wp_false (by rw [hf.2.1]; decide) (wp_false (by rw [hf.2.2]; decide) (wp_bind (wp_mono k ?_)))))
  rintro _ st' ⟨id, l, rfl, h, q⟩
  exact wp_bind (wp_getD h (wp_pure q))
end

def WS.replaced (H : WS) (p : Pl) (k : Int) (v : V) : Option (WS × List V) := (H.pl p).bind fun l => if l.length ≤ 1000000 then some (H.setPl p (putK k v l), (getK k l).toList) else none
def WS.takenOut (H : WS) (p : Pl) (k : Int) : Option (WS × List V) := (H.pl p).bind fun l => match getK k l with
  | some v => if l.length ≤ 1000000 then some (H.setPl p (delK k l), [v]) else none
  | none => some (H, [])
def WS.write (H : WS) (p : Pl) (k : Int) (v : V) (b : Bool) : Option (WS × List V) := (H.pl p).bind fun l => match getK k l with
  | some w => if b = true then (H.isRef w).bind fun br => if br = true then H.replaced (.slots w.num) 0 v else H.replaced p k v else H.replaced p k v
  | none => H.replaced p k v
theorem replacedW_inv {H : WS} {p : Pl} {k : Int} {v : V} {r : WS × List V} (h : H.replaced p k v = some r) : ∃ l, H.pl p = some l ∧ l.length ≤ 1000000 ∧ r = (H.setPl p (putK k v l), (getK k l).toList) := by
  unfold WS.replaced at h
  cases hl : H.pl p with
  | none => rw [hl] at h; cases h
  | some l =>
    rw [hl, Option.bind_some] at h
    split at h
    · rename_i hz; cases h; exact ⟨l, rfl, hz, rfl⟩
    · cases h
theorem plW_slots {H : WS} {m : Int} {l : List (Int × V)} (h : H.pl (.slots m) = some l) : ∃ c, getK m H.cells = some c ∧ c.slots = l ∧ ∀ l', H.setPl (.slots m) l' = H.setC m { c with slots := l' } := by
  have h : (getK m H.cells).map (·.slots) = some l := h
  cases e : getK m H.cells with
  | none => rw [e] at h; cases h
  | some c =>
    rw [e] at h; cases h
    refine ⟨c, rfl, rfl, fun l' => ?_⟩
    show (match getK m H.cells with | some c => H.setC m { c with slots := l' } | none => H) = _
    rw [e]

def loseV : T → Option V
  | .lose v => some v
  | .deed _ => none
def WS.places (H : WS) : List V := H.vars.map (·.2) ++ H.hand ++ H.tasks.reverse.filterMap loseV ++ H.cells.flatMap fun p => match getK p.1 H.cells with
  | some c => c.slots.map (·.2)
  | none => []
def WS.holders (H : WS) (n : Int) : Nat := (H.places.filter fun v => decide (v = .cell n)).length
def WS.small (H : WS) : Bool := decide (H.places.length ≤ 1000000) && decide (H.tasks.length ≤ 1000000)

def gLose : AVal → Option AVal
  | .tup [.str s, x] => if s = "lose" then some x else none
  | _ => none
def gCell (n : Int) : AVal → Option AVal
  | .tup [.str s, .int m] => if s = "cell" ∧ m = n then some (.tup [.str s, .int m]) else none
  | _ => none
theorem gLose_encT (t : T) : gLose (encT t) = (loseV t).map enc := by
  cases t with
  | lose v =>
    show (if ("lose" : Str) = "lose" then some (enc v) else none) = _
    rw [if_pos rfl]; rfl
  | deed d =>
    show (if ("deed" : Str) = "lose" then some (encD d) else none) = _
    rw [if_neg (by decide +kernel)]; rfl
theorem gCell_enc (n : Int) (v : V) : gCell n (enc v) = if v = .cell n then some (enc v) else none := by
  cases v with
  | int i =>
    show (if ("int" : Str) = "cell" ∧ i = n then some (enc (.int i)) else none) = _
    rw [if_neg (fun h => absurd h.1 (by decide +kernel)), if_neg (fun h => by cases h)]
  | cell m =>
    show (if ("cell" : Str) = "cell" ∧ m = n then some (enc (.cell m)) else none) = _
    by_cases q : m = n
    · subst q; rw [if_pos ⟨rfl, rfl⟩, if_pos rfl]
    · rw [if_neg (fun h => q h.2), if_neg (fun h => q (by cases h; rfl))]
theorem fm_gLose : ∀ l : List T, (l.map encT).filterMap gLose = (l.filterMap loseV).map enc
  | [] => rfl
  | t :: l => by
    rw [List.map_cons, List.filterMap_cons, gLose_encT, List.filterMap_cons, fm_gLose l]
    cases loseV t <;> rfl
theorem fm_gCell (n : Int) : ∀ l : List V, (l.map enc).filterMap (gCell n) = (l.filter fun v => decide (v = .cell n)).map enc
  | [] => rfl
  | v :: l => by
    rw [List.map_cons, List.filterMap_cons, gCell_enc, fm_gCell n l, List.filter_cons]
    by_cases q : v = .cell n
    · rw [if_pos q, if_pos (by simpa using q)]; rfl
    · rw [if_neg q, if_neg (by simpa using q)]
theorem mem_getK {α : Type} {p : Int × α} : ∀ {l : List (Int × α)}, p ∈ l → ∃ c, getK p.1 l = some c
  | (j, u) :: r, h => by
    by_cases q : j = p.1
    · exact ⟨u, by rw [getK, if_pos q]⟩
    · rcases List.mem_cons.mp h with h | h
      · exact absurd (by rw [h]) q
      · obtain ⟨c, hc⟩ := mem_getK h
        exact ⟨c, by rw [getK, if_neg q, hc]⟩

section
variable {X : WIds} {loc : Loc} {H H' : WS} {F : Frm} {st : ASt} {wh : ((AEnv × ASt) → Option (Sum (AEnv × ASt) ((Out × AEnv) × ASt))) → AEnv × ASt → Option ((Out × AEnv) × ASt)} {n : Nat} {v w : V} {Q : AVal → ASt → Prop} {p : Pl} {k : Int}

local macro_rules | `(tactic| walk_at "call") => `(tactic| first
  | with_reducible refine ok_w_is_ref (by assumption) (by assumption) ?_
  | with_reducible refine cmp_eq (aeq_lit (by decide +kernel) (by decide +kernel) (by with_unfolding_all rfl)) ?_
  | with_reducible refine ok_w_inner (by assumption) (by assumption) ?_
  | with_reducible refine ok_w_value (by assumption) (by assumption) ?_)

theorem ok_w_write {b : Bool} {r : WS × List V} (r0 : RepW X loc H F st) (h : H.write p k v b = some r) (q : ∀ id st', RepW X loc r.1 (F.add id ⟨0, .list (r.2.map enc)⟩) st' → (∀ o, ¬ F id o) → Q (.obj id) st') : wp ((R wh (n + 14)).call "_law_write" [.obj X.root, .obj (p.idW X loc), .int k, enc v, .bool b]) st Q := by
  walk_at "fn"
  unfold WS.write at h
  cases hl : H.pl p with
  | none => rw [hl] at h; cases h
  | some l =>
  rw [hl, Option.bind_some] at h
  cases hk : getK k l with
  | none =>
    rw [hk] at h
    obtain ⟨l', hl', hz, rfl⟩ := replacedW_inv h
    rw [hl] at hl'; cases hl'
    rw [hk] at q
    cases b <;> · walk_at "go"; exact q _ _ (by assumption) (by assumption)
  | some w =>
    rw [hk] at h
    have h : (if b = true then (H.isRef w).bind fun br => if br = true then H.replaced (.slots w.num) 0 v else H.replaced p k v else H.replaced p k v) = some r := h
    cases b with
    | false =>
      rw [if_neg (by decide)] at h
      obtain ⟨l', hl', hz, rfl⟩ := replacedW_inv h
      rw [hl] at hl'; cases hl'
      rw [hk] at q
      walk_at "go"; exact q _ _ (by assumption) (by assumption)
    | true =>
      rw [if_pos rfl] at h
      cases hw : H.isRef w with
      | none => rw [hw] at h; cases h
      | some br =>
      rw [hw, Option.bind_some] at h
      cases br with
      | false =>
        rw [if_neg (by decide)] at h
        obtain ⟨l', hl', hz, rfl⟩ := replacedW_inv h
        rw [hl] at hl'; cases hl'
        rw [hk] at q
        walk_at "go"; exact q _ _ (by assumption) (by assumption)
      | true =>
        rw [if_pos rfl] at h
        obtain ⟨l', hl', hz, rfl⟩ := replacedW_inv h
        obtain ⟨c, hc, rfl, hs⟩ := plW_slots hl'
        rw [hs] at q
        cases hk' : getK 0 c.slots with
        | none =>
          rw [hk'] at q
          walk_at "go"
          rename_i id st1 r1 hF1 _
          refine set_slotW r1 hc hz fun st2 r2 => ?_
          walk_at "go"
          exact q _ _ (by assumption) (by assumption)
        | some u =>
          rw [hk'] at q
          walk_at "go"
          rename_i id st1 r1 hF1 _
          refine set_slotW r1 hc hz fun st2 r2 => ?_
          walk_at "go"
          exact q _ _ (by assumption) (by assumption)

theorem ok_w_holders {m : Int} (r0 : RepW X loc H F st) (hs : H.small = true) (q : ∀ st', RepW X loc H F st' → Q (.int (H.holders m)) st') : wp ((R wh (n + 10)).call "_law_holders" [.obj X.root, .int m]) st Q := by
  unfold WS.small at hs
  rw [Bool.and_eq_true, decide_eq_true_eq, decide_eq_true_eq] at hs
  obtain ⟨hz, hzt⟩ := hs
  have hzl := hz
  unfold WS.places at hzl
  rw [List.length_append, List.length_append, List.length_append, List.length_map] at hzl
  walk_at "fn"
  walk_at "go"
  refine ev_list_call (by with_unfolding_all rfl) (by with_unfolding_all rfl) (by with_unfolding_all rfl) (src_values (by with_unfolding_all rfl) (by with_unfolding_all rfl) ?_)
  walk_at "go"
  refine ⟨X.vars, _, rfl, r0.vars, by with_unfolding_all rfl, its_values r0.vars ⟨by rw [List.length_map, len_encM]; omega, ?_⟩⟩
  walk_at "go"
  rename_i i0 st1 r1 hF1 _
  refine add_lists r1.top r1.hand (by rw [List.length_map, len_encM, List.length_map]; omega) ?_
  refine wp_newW r1 fun i st2 r2 hF2 _ => ?_
  have e1 : ((encM H.vars).map fun p => p.2) ++ H.hand.map enc = (H.vars.map (·.2) ++ H.hand).map enc := by
    rw [List.map_append]; unfold encM; rw [List.map_map, List.map_map]; rfl
  rw [e1] at r2
  have r2 := r2.mid
  have hF2 := Frm.sub hF2
  walk_at "go"
  refine ev_comp (by with_unfolding_all rfl) (src_sub ?_)
  walk_at "go"
  refine ⟨X.tasks, rfl, .inl ⟨⟨_, r2.tasks⟩, by with_unfolding_all rfl, its_lst r2.tasks ⟨by rw [List.length_map, List.length_reverse]; exact hzt, ?_⟩⟩⟩
  refine compLoop_has (Has.of rfl rfl) gLose rfl (fun x hx env hE => ?_) ?_
  · obtain ⟨t, _, rfl⟩ := List.mem_map.mp hx
    have hg := gLose_encT t
    cases t with
    | lose v =>
      dsimp only [encT] at hg ⊢
      walk_at "go"
      rename_i env1 hE1 env2 hE2
      refine ⟨rfl, (hE2.pop (by with_unfolding_all rfl)).pop (by with_unfolding_all rfl), tests_one ?_⟩
      walk_at "go"
      refine ⟨rfl, fun _ => ?_, fun h => absurd h (by decide +kernel)⟩
      walk_at "go"
      exact ⟨rfl, hg⟩
    | deed d =>
      dsimp only [encT] at hg ⊢
      walk_at "go"
      rename_i env1 hE1 env2 hE2
      refine ⟨rfl, (hE2.pop (by with_unfolding_all rfl)).pop (by with_unfolding_all rfl), tests_one ?_⟩
      walk_at "go"
      exact ⟨rfl, fun h => absurd h (by decide +kernel), fun _ => hg⟩
  rw [fm_gLose]
  walk_at "go"
  rename_i j st3 r3 hF3 _
  refine tmp_extendW r3 hF2 hF3 (by rw [List.length_map, List.length_append, List.length_map, List.length_map]; omega) fun st4 r4 _ => ?_
  rw [← List.map_append] at r4
  walk_at "go"
  refine st_for (by with_unfolding_all rfl) (src_values (by with_unfolding_all rfl) (by with_unfolding_all rfl) ?_)
  walk_at "go"
  refine ⟨X.cells, _, rfl, r4.cells, by with_unfolding_all rfl, its_values r4.cells ?_⟩
  have e2 : ((objsW loc H.cells).map fun p => p.2) = H.cells.map fun p => AVal.obj (loc.cell p.1) := by unfold objsW; rw [List.map_map]; rfl
  rw [e2]
  have hiX : X.cells ≠ i := r4.off i _ (.inr ⟨rfl, rfl⟩) .cells rfl
  refine forLoop_has (Has.of rfl rfl) (fun us s => ∃ (ps : List (Int × WC)) (done : List V) (vr : Nat), us = (ps.map fun p => AVal.obj (loc.cell p.1)) ∧ RepW X loc H (F.add i ⟨vr, .list (done.map enc)⟩) s ∧ s.get X.cells = st4.get X.cells ∧ (∀ p ∈ ps, p ∈ H.cells) ∧ done ++ (ps.flatMap fun p => match getK p.1 H.cells with
    | some c => c.slots.map (·.2)
    | none => []) = H.places) ⟨H.cells, _, _, rfl, r4, rfl, fun _ h => h, rfl⟩ ?_ ?_
  · rintro u us env s hE ⟨ps, done, vr, hu, r5, hs, hm, hd⟩
    cases ps with
    | nil => cases hu
    | cons pc ps =>
    rw [List.map_cons] at hu
    cases hu
    obtain ⟨c, hc⟩ := mem_getK (hm pc (.head _))
    refine ⟨by show (s.get _).ver = _; rw [hs]; rfl, ?_⟩
    walk_at "go"
    rename_i env' hE'
    refine ev_list_call (by with_unfolding_all rfl) (by rw [glob_has hE']; with_unfolding_all rfl) (by with_unfolding_all rfl) (src_values (by with_unfolding_all rfl) (by with_unfolding_all rfl) ?_)
    walk_at "go"
    rw [List.flatMap_cons, hc] at hd
    have hd : done ++ (c.slots.map (·.2) ++ _) = H.places := hd
    have hlen := congrArg List.length hd
    rw [List.length_append, List.length_append, List.length_map] at hlen
    refine ⟨loc.slot pc.1, _, rfl, r5.slot hc, by with_unfolding_all rfl, its_values (r5.slot hc) ⟨by rw [List.length_map, len_encM]; omega, ?_⟩⟩
    refine wp_newW r5 fun j s6 r6 hF6 hs6 => ?_
    have e3 : ((encM c.slots).map fun p => p.2) = (c.slots.map (·.2)).map enc := by unfold encM; rw [List.map_map, List.map_map]; rfl
    rw [e3] at r6
    have hjX : X.cells ≠ j := r6.off j _ (.inr ⟨rfl, rfl⟩) .cells rfl
    walk_at "go"
    refine tmp_extendW r6 hF2 hF6 (by rw [List.length_map, List.length_map, List.length_map]; omega) fun s7 r7 hs7 => ?_
    rw [← List.map_append] at r7
    walk_at "go"
    exact ⟨hE'.pop (by with_unfolding_all rfl), ps, _, _, rfl, r7, (hs7 _ hiX).trans ((hs6 _ hjX).trans hs), fun p hp => hm p (.tail _ hp), by rw [List.append_assoc]; exact hd⟩
  · rintro env s hE ⟨ps, done, vr, hu, r5, hs, hm, hd⟩
    cases ps with
    | cons => cases hu
    | nil =>
    rw [List.flatMap_nil, List.append_nil] at hd
    subst hd
    refine ⟨by show (s.get _).ver = _; rw [hs]; rfl, ?_⟩
    walk_at "go"
    refine ev_builtin (by decide +kernel) (by rw [glob_has hE]; with_unfolding_all rfl) ?_
    have hsc := hE.1
    refine ev_comp (by rw [hsc]; with_unfolding_all rfl) (src_name (id := i) (l := H.places.map enc) ?_)
    walk_at "go"
    refine ⟨rfl, r5.top, by with_unfolding_all rfl, its_lst r5.top ⟨by rw [List.length_map]; exact hz, ?_⟩⟩
    refine compLoop_has (hE.comp _) (gCell m) rfl (fun x hx env hE => ?_) ?_
    · obtain ⟨v, _, rfl⟩ := List.mem_map.mp hx
      have hg := gCell_enc m v
      walk_at "go"
      rename_i env1 hE1
      refine ⟨rfl, hE1.pop (by with_unfolding_all rfl), tests_one ?_⟩
      walk_at "go"
      refine cmp_eq (aeq_enc (w := .cell m)) ?_
      walk_at "go"
      by_cases hv : v = .cell m
      · rw [if_pos hv] at hg
        refine ⟨rfl, fun _ => ?_, fun h => absurd h (by rw [decide_eq_true hv]; decide)⟩
        walk_at "go"
        exact ⟨rfl, hg⟩
      · rw [if_neg hv] at hg
        exact ⟨rfl, fun h => absurd h (by rw [decide_eq_false hv]; decide), fun _ => hg⟩
    · rw [fm_gCell]
      refine wp_newW r5 fun j s6 r6 hF6 _ => ?_
      refine builtin_len r6.top (by rw [List.length_map]; exact Nat.le_trans (List.length_filter_le _ _) hz) ?_
      rw [List.length_map]
      exact q _ r6.drop.drop
end
end
/-! P15 -/
section
set_option maxRecDepth 100000
set_option autoImplicit false
set_option maxHeartbeats 1000000

def WS.setVar (H : WS) (x : Int) (v : V) : Option WS := if H.vars.length ≤ 1000000 then some { H with vars := putK x v H.vars } else none
def WS.refIn (H : WS) (x : Int) : Option (WS × V) := (H.isRef (H.var x)).bind fun b => if b = true then (getK x H.vars).map fun v => (H, v) else
  (H.newCell .ref false).bind fun H1 => ((H1.setC H1.last ⟨.ref, [(0, H.var x)], false⟩).setVar x (.cell H1.last)).map fun H2 => (H2, .cell H1.last)
def WS.inCopy (H : WS) (a : Int) (v : V) : Option V := (H.isRef v).bind fun b => if b = true then if H.small = true then if H.holders v.num = 1 then (H.inner v).map fun w => if w = .cell a then v else w else some v else none else some v
def WS.copyStep (a m : Int) (H : WS) (key : Int) : Option WS := (getK a H.cells).bind fun c => (getK key c.slots).bind fun v => (H.inCopy a v).bind fun w => (getK m H.cells).bind fun cm => if cm.slots.length ≤ 1000000 then some (H.setC m { cm with slots := putK key w cm.slots }) else none
def WS.copied (H : WS) (a : Int) : Option (WS × Int) := (getK a H.cells).bind fun c => (H.newCell .array false).bind fun H1 => if H1.log.length ≤ 1000000 ∧ c.slots.length ≤ 1000000 then ((c.slots.map (·.1)).foldlM (WS.copyStep a H1.last) { H1 with log := H1.log ++ [.copy a H1.last] }).map fun H3 => (H3, H1.last) else none
def WS.slotsOf (H : WS) (x : Int) : Option (WS × Int × List V) := (H.valueOf x).bind fun v => (getK v.num H.cells).bind fun c => if c.sort = .object then some (H, v.num, []) else if H.small = true then if H.holders v.num = 1 then some (H, v.num, []) else (H.copied v.num).bind fun y => (getK y.2 y.1.cells).bind fun _ => (y.1.write .vars x (.cell y.2) true).map fun z => (z.1, y.2, z.2) else none

section
variable {X : WIds} {loc : Loc} {H H' : WS} {F : Frm} {st : ASt} {wh : ((AEnv × ASt) → Option (Sum (AEnv × ASt) ((Out × AEnv) × ASt))) → AEnv × ASt → Option ((Out × AEnv) × ASt)} {n : Nat} {v w : V} {Q : AVal → ASt → Prop} {p : Pl} {k : Int}

theorem newCellW_get {k : K} {b : Bool} (h : H.newCell k b = some H') : getK H'.last H'.cells = some ⟨k, [], b⟩ ∧ getK H'.last H.cells = none ∧ H'.vars = H.vars ∧ ∀ a, a ≠ H'.last → getK a H'.cells = getK a H.cells := by
  unfold WS.newCell at h
  split at h
  · rename_i q
    cases h
    refine ⟨?_, Option.isNone_iff_eq_none.mp q.1, rfl, fun a ha => ?_⟩
    · show getK (H.last + 1) (putK (H.last + 1) _ H.cells) = _
      rw [getK_putK, if_pos rfl]
    · show getK a (putK (H.last + 1) _ H.cells) = _
      rw [getK_putK, if_neg ha]
  · cases h

local macro_rules | `(tactic| walk_at "call") => `(tactic| first
  | with_reducible refine ok_w_is_ref (by assumption) (by assumption) ?_
  | with_reducible refine cmp_eq (aeq_lit (by decide +kernel) (by decide +kernel) (by with_unfolding_all rfl)) ?_
  | with_reducible refine ok_w_inner (by assumption) (by assumption) ?_
  | with_reducible refine ok_w_value (by assumption) (by assumption) ?_)

theorem ok_w_reference {x : Int} {y : WS × V} (r : RepW X loc H F st) (h : H.refIn x = some y) (q : ∀ loc' st', RepW X loc' y.1 F st' → Q (enc y.2) st') : wp ((R wh (n + 16)).call "_law_reference" [.obj X.root, .int x]) st Q := by
  unfold WS.refIn at h
  cases hr : H.isRef (H.var x) with
  | none => rw [hr] at h; cases h
  | some b =>
  rw [hr, Option.bind_some] at h
  have hr' : H.isRef ((getK x H.vars).getD (.int 0)) = some b := hr
  walk_at "fn"
  cases b with
  | true =>
    rw [if_pos rfl] at h
    cases hv : getK x H.vars with
    | none => rw [hv] at h; cases h
    | some v =>
    rw [hv] at h; cases h
    walk_at "go"
    exact q _ _ r
  | false =>
    rw [if_neg (by decide)] at h
    cases hn : H.newCell .ref false with
    | none => rw [hn] at h; cases h
    | some H1 =>
      rw [hn, Option.bind_some] at h
      have hg := newCellW_get hn
      have hg1 := hg.1
      walk_at "go"
      refine ok_w_new (k := .ref) r hn fun loc1 st1 r1 _ => ?_
      walk_at "go"
      have e : (getK x H1.vars).getD (.int 0) = H.var x := by rw [hg.2.2.1]; rfl
      rw [e]
      refine set_slotW r1 hg1 (by show (0 : Nat) ≤ _; exact Nat.zero_le _) fun st2 r2 => ?_
      have e2 : (H1.setC H1.last { (⟨.ref, [], false⟩ : WC) with slots := putK 0 (H.var x) [] }) = H1.setC H1.last ⟨.ref, [(0, H.var x)], false⟩ := rfl
      have r2 : RepW X loc1 (H1.setC H1.last ⟨.ref, [(0, H.var x)], false⟩) F st2 := r2
      unfold WS.setVar at h
      generalize H1.setC H1.last ⟨.ref, [(0, H.var x)], false⟩ = H3 at r2 h
      by_cases hz : H3.vars.length ≤ 1000000
      · rw [if_pos hz] at h; cases h
        walk_at "go"
        refine set_varsW r2 hz fun st4 r4 => ?_
        have hv : getK x (putK x (V.cell H1.last) H3.vars) = some (.cell H1.last) := by rw [getK_putK, if_pos rfl]
        walk_at "go"
        exact q _ _ r4
      · rw [if_neg hz] at h; cases h

theorem ok_w_slots {x : Int} {y : WS × Int × List V} (r0 : RepW X loc H F st) (h : H.slotsOf x = some y) (q : ∀ loc' id st', RepW X loc' y.1 (F.add id ⟨0, .list (y.2.2.map enc)⟩) st' → (∀ o, ¬ F id o) → Q (.tup [.obj (loc'.slot y.2.1), .obj id]) st') : wp ((R wh (n + 24)).call "_law_slots" [.obj X.root, .int x]) st Q := by
  unfold WS.slotsOf at h
  cases hv : H.valueOf x with
  | none => rw [hv] at h; cases h
  | some v =>
  rw [hv, Option.bind_some] at h
  cases hc : getK v.num H.cells with
  | none => rw [hc] at h; cases h
  | some c =>
  rw [hc, Option.bind_some] at h
  walk_at "fn"
  by_cases hs : c.sort = .object
  · rw [if_pos hs] at h; cases h
    have hs' : decide (c.sort = .object) = true := by simpa using hs
    walk_at "go"
    exact q _ _ _ (by assumption) (by assumption)
  · rw [if_neg hs] at h
    have hs' : decide (c.sort = .object) = false := by simpa using hs
    cases hsm : H.small with
    | false => rw [hsm, if_neg (by decide)] at h; cases h
    | true =>
    rw [hsm, if_pos rfl] at h
    walk_at "go"
    refine ok_w_holders r0 hsm fun st1 r1 => ?_
    by_cases hn : H.holders v.num = 1
    · rw [if_pos hn] at h; cases h
      have hn' : decide (((H.holders v.num : Nat) : Int) = 1) = true := by rw [hn]; rfl
      walk_at "go"
      exact q _ _ _ (by assumption) (by assumption)
    · rw [if_neg hn] at h
      have hn' : decide (((H.holders v.num : Nat) : Int) = 1) = false := by rw [decide_eq_false_iff_not]; omega
      cases hd : H.copied v.num with
      | none => rw [hd] at h; cases h
      | some z =>
      rw [hd, Option.bind_some] at h
      cases he : getK z.2 z.1.cells with
      | none => rw [he] at h; cases h
      | some cz =>
      rw [he, Option.bind_some] at h
      cases hw : z.1.write .vars x (.cell z.2) true with
      | none => rw [hw] at h; cases h
      | some u =>
      rw [hw] at h; cases h
      unfold WS.copied at hd
      rw [hc, Option.bind_some] at hd
      cases hnc : H.newCell .array false with
      | none => rw [hnc] at hd; cases hd
      | some H1 =>
      rw [hnc, Option.bind_some] at hd
      split at hd
      case isFalse => cases hd
      rename_i hz
      have hg := newCellW_get hnc
      have ham : v.num ≠ H1.last := fun e => by rw [e, hg.2.1] at hc; cases hc
      have hc1 : getK v.num H1.cells = some c := by rw [hg.2.2.2 _ ham]; exact hc
      cases hf : (c.slots.map (·.1)).foldlM (WS.copyStep v.num H1.last) { H1 with log := H1.log ++ [.copy v.num H1.last] } with
      | none => rw [hf] at hd; cases hd
      | some H3 =>
      rw [hf] at hd; cases hd
      walk_at "go"
      refine ok_w_new (k := .array) r1 hnc fun loc1 st2 r2 hl => ?_
      rw [← (hl _ ham).1]
      walk_at "go"
      refine log_appendW (l := .copy v.num H1.last) r2 hz.1 fun st3 r3 => ?_
      have r3 : RepW X loc1 { H1 with log := H1.log ++ [.copy v.num H1.last] } F st3 := r3
      have hc3 : getK v.num ({ H1 with log := H1.log ++ [.copy v.num H1.last] } : WS).cells = some c := hc1
      walk_at "go"
      refine st_for (by with_unfolding_all rfl) (src_call (by decide +kernel) (by with_unfolding_all rfl) ?_)
      refine ev_list_call (by with_unfolding_all rfl) (by with_unfolding_all rfl) (by with_unfolding_all rfl) (src_sub ?_)
      walk_at "go"
      refine ⟨loc1.slot v.num, rfl, .inr ⟨⟨_, r3.slot hc3⟩, by with_unfolding_all rfl, its_keys (r3.slot hc3) ⟨by rw [List.length_map, len_encM]; exact hz.2, ?_⟩⟩⟩
      have hk : ((encM c.slots).map fun p => AVal.int p.1) = (c.slots.map (·.1)).map AVal.int := by unfold encM; rw [List.map_map, List.map_map]; rfl
      rw [hk]
      refine wp_newW r3 fun i st4 r4 hF4 _ => ?_
      refine ⟨i, _, rfl, r4.top, by with_unfolding_all rfl, its_lst r4.top ?_⟩
      have hw4 : ∀ s : ASt, s.Ob i ⟨0, .list ((c.slots.map (·.1)).map AVal.int)⟩ → (Src.lst i).watch s = (Src.lst i).watch st4 := fun s hs => by
        show (s.get i).ver = (st4.get i).ver
        rw [hs.2, (r4.frame _ _ (.inr ⟨rfl, rfl⟩)).2]
      refine forLoop_has (Has.of rfl rfl) (fun us s => ∃ (ks : List Int) (H' : WS), us = ks.map AVal.int ∧ RepW X loc1 H' (F.add i ⟨0, .list ((c.slots.map (·.1)).map AVal.int)⟩) s ∧ ks.foldlM (WS.copyStep v.num H1.last) H' = some H3) ⟨_, _, rfl, r4, hf⟩ ?_ ?_
      · rintro u us env s hE ⟨ks, H', hu, r5, hk⟩
        cases ks with
        | nil => cases hu
        | cons key ks =>
        rw [List.map_cons] at hu
        cases hu
        rw [List.foldlM_cons] at hk
        unfold WS.copyStep at hk
        cases h1 : getK v.num H'.cells with
        | none => rw [h1] at hk; cases hk
        | some ca =>
        rw [h1] at hk
        cases h2 : getK key ca.slots with
        | none => rw [Option.bind_some, h2] at hk; cases hk
        | some t =>
        rw [Option.bind_some, h2, Option.bind_some] at hk
        cases h3 : H'.inCopy v.num t with
        | none => rw [h3] at hk; cases hk
        | some w =>
        rw [h3, Option.bind_some] at hk
        cases h4 : getK H1.last H'.cells with
        | none => rw [h4] at hk; cases hk
        | some cm =>
        rw [h4, Option.bind_some] at hk
        by_cases hz2 : cm.slots.length ≤ 1000000
        · rw [if_pos hz2] at hk
          refine ⟨hw4 _ (r5.frame _ _ (.inr ⟨rfl, rfl⟩)), ?_⟩
          unfold WS.inCopy at h3
          cases hb : H'.isRef t with
          | none => rw [hb] at h3; cases h3
          | some b =>
          rw [hb, Option.bind_some] at h3
          cases b with
          | false =>
            rw [if_neg (by decide)] at h3; cases h3
            walk_at "go"
            rename_i env1 hE1 env2 hE2
            refine set_slotW r5 h4 hz2 fun s6 r6 => ?_
            walk_at "go"
            exact ⟨(hE2.pop (by with_unfolding_all rfl)).pop (by with_unfolding_all rfl), ks, _, rfl, r6, hk⟩
          | true =>
            rw [if_pos rfl] at h3
            cases hsm' : H'.small with
            | false => rw [hsm', if_neg (by decide)] at h3; cases h3
            | true =>
            rw [hsm', if_pos rfl] at h3
            walk_at "go"
            rename_i env1 hE1 env2 hE2
            refine ok_w_holders r5 hsm' fun s6 r6 => ?_
            by_cases hn2 : H'.holders t.num = 1
            · have hn2' : decide (((H'.holders t.num : Nat) : Int) = 1) = true := by rw [hn2]; rfl
              rw [if_pos hn2] at h3
              cases hi : H'.inner t with
              | none => rw [hi] at h3; cases h3
              | some w' =>
              rw [hi] at h3
              have h3 : some (if w' = .cell v.num then t else w') = some w := h3
              walk_at "go"
              refine cmp_ne (aeq_enc (w := .cell v.num)) ?_
              by_cases hw' : w' = .cell v.num
              · have hw2 : (!decide (w' = .cell v.num)) = false := by rw [decide_eq_true hw']; rfl
                rw [if_pos hw'] at h3; cases h3
                walk_at "go"
                refine set_slotW r6 h4 hz2 fun s7 r7 => ?_
                walk_at "go"
                exact ⟨(hE2.pop (by with_unfolding_all rfl)).pop (by with_unfolding_all rfl), ks, _, rfl, r7, hk⟩
              · have hw2 : (!decide (w' = .cell v.num)) = true := by rw [decide_eq_false hw']; rfl
                rw [if_neg hw'] at h3; cases h3
                walk_at "go"
                rename_i env3 hE3
                refine set_slotW r6 h4 hz2 fun s7 r7 => ?_
                walk_at "go"
                exact ⟨(hE3.dup.pop (by with_unfolding_all rfl)).pop (by with_unfolding_all rfl), ks, _, rfl, r7, hk⟩
            · have hn2' : decide (((H'.holders t.num : Nat) : Int) = 1) = false := by rw [decide_eq_false_iff_not]; omega
              rw [if_neg hn2] at h3; cases h3
              walk_at "go"
              refine set_slotW r6 h4 hz2 fun s7 r7 => ?_
              walk_at "go"
              exact ⟨(hE2.pop (by with_unfolding_all rfl)).pop (by with_unfolding_all rfl), ks, _, rfl, r7, hk⟩
        · rw [if_neg hz2] at hk; cases hk
      · rintro env s hE ⟨ks, H', hu, r5, hk⟩
        cases ks with
        | cons => cases hu
        | nil =>
        cases hk
        refine ⟨hw4 _ (r5.frame _ _ (.inr ⟨rfl, rfl⟩)), ?_⟩
        have r5 := r5.drop
        walk_at "go"
        refine ok_w_write (p := .vars) r5 hw fun id s6 r6 hF6 => ?_
        walk_at "go"
        exact q _ _ _ r6 hF6
end
end
/-! P16 -/
section
set_option maxRecDepth 100000
set_option autoImplicit false
set_option maxHeartbeats 1000000

def joinW (l : List V) (z : WS × List V) : Option (WS × List V) := if l.length + z.2.length ≤ 1000000 then some (z.1, l ++ z.2) else none
def popHand (z : WS × List V) : Option (WS × List V) := match z.1.hand.reverse with
  | [] => none
  | _ :: l => if z.1.hand.length ≤ 1000000 then some ({ z.1 with hand := l.reverse }, z.2) else none
def WS.held (H : WS) (v : V) : Option WS := if H.hand.length ≤ 1000000 then some { H with hand := H.hand ++ [v] } else none
def WS.put (H : WS) (x k y : Int) : Option (WS × List V) := (H.valueOf x).bind fun b => if b.isCell = true then (H.valueOf y).bind fun v => (H.held v).bind fun H1 => (H1.slotsOf x).bind fun z => (z.1.write (.slots z.2.1) k v true).bind fun u => (joinW z.2.2 u).bind popHand else some (H, [])
def WS.putRef (H : WS) (x k y : Int) : Option (WS × List V) := (H.valueOf x).bind fun b => if b.isCell = true then (H.refIn y).bind fun w => (w.1.held w.2).bind fun H1 => (H1.slotsOf x).bind fun z => (z.1.write (.slots z.2.1) k w.2 false).bind fun u => (joinW z.2.2 u).bind popHand else some (H, [])
def WS.unsetAt (H : WS) (x k : Int) : Option (WS × List V) := (H.valueOf x).bind fun b => if b.isCell = true then (H.slotsOf x).bind fun z => (z.1.takenOut (.slots z.2.1) k).bind (joinW z.2.2) else some (H, [])
def WS.takeV (H : WS) (y k : Int) : Option V := (H.valueOf y).bind fun w => if w.isCell = true then (getK w.num H.cells).bind fun c => H.inner ((getK k c.slots).getD (.int 0)) else some (.int 0)
def WS.change (H : WS) : D → Option (WS × List V)
  | .setInt x i => H.write .vars x (.int i) true
  | .newArray x => (H.newCell .array false).bind fun H1 => H1.write .vars x (.cell H1.last) true
  | .newObject x b => (H.newCell .object b).bind fun H1 => H1.write .vars x (.cell H1.last) true
  | .assign x y => (H.valueOf y).bind fun v => H.write .vars x v true
  | .put x k y => H.put x k y
  | .take x y k => (H.takeV y k).bind fun v => H.write .vars x v true
  | .makeRef x y => (H.refIn y).bind fun w => w.1.write .vars x w.2 false
  | .putRef x k y => H.putRef x k y
  | .unset x => H.takenOut .vars x
  | .unsetAt x k => H.unsetAt x k

section
variable {X : WIds} {loc : Loc} {H H' : WS} {F : Frm} {st : ASt} {wh : ((AEnv × ASt) → Option (Sum (AEnv × ASt) ((Out × AEnv) × ASt))) → AEnv × ASt → Option ((Out × AEnv) × ASt)} {n : Nat} {v w : V} {Q : AVal → ASt → Prop} {p : Pl} {k : Int} {r : WS × List V}

theorem cmp_in3 {a b c d : Str} {B : Bool → ASt → Prop} (ha : PyData.strOk a = true) (hb : PyData.strOk b = true) (hc : PyData.strOk c = true) (hd : PyData.strOk d = true) (q : B (decide (a = d) || (decide (b = d) || decide (c = d))) st) : wp (cmp .In (.str d) (.tup [.str a, .str b, .str c])) st B := by
  refine wp_of (a := decide (a = d) || (decide (b = d) || decide (c = d))) (st' := st) ?_ q
  show (if PyData.canLayAll0 [.str a, .str b, .str c] && (PyData.str d).canLay0 then some ([PyData.str a, .str b, .str c].any fun y => PyData.eqv y (.str d), st) else none) = _
  have e : (PyData.canLayAll0 [.str a, .str b, .str c] && (PyData.str d).canLay0) = true := by
    simp only [PyData.canLayAll0, PyData.canLay0, ha, hb, hc, hd]; rfl
  rw [e]
  simp only [List.any_cons, List.any_nil, str_beq, Bool.or_false]
  rfl
theorem writeW_pl {b : Bool} {z : WS × List V} (h : H.write p k v b = some z) : ∃ l, H.pl p = some l := by
  unfold WS.write at h
  cases e : H.pl p with
  | none => rw [e] at h; cases h
  | some l => exact ⟨l, rfl⟩
theorem takenOutW_pl {z : WS × List V} (h : H.takenOut p k = some z) : ∃ l, H.pl p = some l := by
  unfold WS.takenOut at h
  cases e : H.pl p with
  | none => rw [e] at h; cases h
  | some l => exact ⟨l, rfl⟩

local macro_rules | `(tactic| walk_at "call") => `(tactic| first
  | with_reducible refine ok_w_is_ref (by assumption) (by assumption) ?_
  | with_reducible refine cmp_eq (aeq_lit (by decide +kernel) (by decide +kernel) (by with_unfolding_all rfl)) ?_
  | with_reducible refine cmp_in3 (by decide +kernel) (by decide +kernel) (by decide +kernel) (by decide +kernel) ?_
  | with_reducible refine ok_w_inner (by assumption) (by assumption) ?_
  | with_reducible refine ok_w_value (by assumption) (by assumption) ?_)

/-- the two lists put together -/
theorem ok_joinW {ls : List V} {z : WS × List V} {i j : Nat} {st' : ASt} {loc' : Loc} {F : Frm} (r1 : RepW X loc' z.1 ((F.add i ⟨0, .list (ls.map enc)⟩).add j ⟨0, .list (z.2.map enc)⟩) st') (h : joinW ls z = some r) (q : ∀ id st', RepW X loc' r.1 (F.add id ⟨0, .list (r.2.map enc)⟩) st' → (∀ o, ¬ F id o) → Q (.obj id) st') : wp (bin .Add (.obj i) (.obj j)) st' Q := by
  unfold joinW at h
  by_cases hz : ls.length + z.2.length ≤ 1000000
  · rw [if_pos hz] at h; cases h
    refine add_lists r1.top2 r1.top (by rw [List.length_map, List.length_map]; exact hz) ?_
    refine wp_newW r1 fun id st2 r2 hF _ => ?_
    rw [← List.map_append] at r2
    exact q _ _ r2.mid.mid (Frm.sub (Frm.sub hF))
  · rw [if_neg hz] at h; cases h

theorem ok_el_unset_at {x : Int} (r0 : RepW X loc H F st) (h : H.unsetAt x k = some r) (q : ∀ loc' id st', RepW X loc' r.1 (F.add id ⟨0, .list (r.2.map enc)⟩) st' → (∀ o, ¬ F id o) → Q (.obj id) st') : wp ((R wh (n + 28)).call "_law_element" [.obj X.root, .str "unset_at", .tup [.int x, .int k]]) st Q := by
  unfold WS.unsetAt at h
  cases hb : H.valueOf x with
  | none => rw [hb] at h; cases h
  | some b =>
  rw [hb, Option.bind_some] at h
  walk_at "fn"
  cases hc : b.isCell with
  | false =>
    rw [hc, if_neg (by decide)] at h; cases h
    have hc' : (!b.isCell) = true := by rw [hc]; rfl
    walk_at "go"
    exact q _ _ _ (by assumption) (by assumption)
  | true =>
    rw [hc, if_pos rfl] at h
    have hc' : (!b.isCell) = false := by rw [hc]; rfl
    cases hz : H.slotsOf x with
    | none => rw [hz] at h; cases h
    | some z =>
    rw [hz, Option.bind_some] at h
    cases ht : z.1.takenOut (.slots z.2.1) k with
    | none => rw [ht] at h; cases h
    | some u =>
    rw [ht, Option.bind_some] at h
    obtain ⟨l, hl⟩ := takenOutW_pl ht
    obtain ⟨c, hcz, rfl, hs⟩ := plW_slots hl
    walk_at "go"
    refine ok_w_slots r0 hz fun loc1 i st1 r1 hF1 => ?_
    unfold WS.takenOut at ht
    rw [hl, Option.bind_some] at ht
    cases hk : getK k c.slots with
    | none =>
      rw [hk] at ht; cases ht
      walk_at "go"
      rename_i j st2 r2 hF2 _
      exact ok_joinW (z := (z.1, [])) r2 h fun id st' r' hF => q _ _ _ r' hF
    | some g =>
      rw [hk] at ht
      have ht : (if c.slots.length ≤ 1000000 then some (z.1.setPl (.slots z.2.1) (delK k c.slots), [g]) else none) = some u := ht
      split at ht
      case isFalse => cases ht
      rename_i hlen
      cases ht
      walk_at "go"
      refine pop_plW (p := .slots z.2.1) r1 hl hk hlen fun st2 r2 => ?_
      walk_at "go"
      rename_i j st3 r3 hF3 _
      exact ok_joinW (z := (_, [g])) r3 h fun id st' r' hF => q _ _ _ r' hF

theorem popHand_inv {z : WS × List V} (h : popHand z = some r) : ∃ l u, z.1.hand = l ++ [u] ∧ z.1.hand.length ≤ 1000000 ∧ r = ({ z.1 with hand := l }, z.2) := by
  unfold popHand at h
  split at h
  · cases h
  · rename_i u l e
    split at h
    · rename_i hz
      cases h
      refine ⟨l.reverse, u, ?_, hz, rfl⟩
      have := congrArg List.reverse e
      rw [List.reverse_reverse, List.reverse_cons] at this
      exact this
    · cases h

theorem ok_el_put {x y : Int} (r0 : RepW X loc H F st) (h : H.put x k y = some r) (q : ∀ loc' id st', RepW X loc' r.1 (F.add id ⟨0, .list (r.2.map enc)⟩) st' → (∀ o, ¬ F id o) → Q (.obj id) st') : wp ((R wh (n + 28)).call "_law_element" [.obj X.root, .str "put", .tup [.int x, .int k, .int y]]) st Q := by
  unfold WS.put at h
  cases hb : H.valueOf x with
  | none => rw [hb] at h; cases h
  | some b =>
  rw [hb, Option.bind_some] at h
  walk_at "fn"
  cases hc : b.isCell with
  | false =>
    rw [hc, if_neg (by decide)] at h; cases h
    have hc' : (!b.isCell) = true := by rw [hc]; rfl
    walk_at "go"
    exact q _ _ _ (by assumption) (by assumption)
  | true =>
    rw [hc, if_pos rfl] at h
    have hc' : (!b.isCell) = false := by rw [hc]; rfl
    cases hv : H.valueOf y with
    | none => rw [hv] at h; cases h
    | some v =>
    rw [hv, Option.bind_some] at h
    cases hh : H.held v with
    | none => rw [hh] at h; cases h
    | some H1 =>
    rw [hh, Option.bind_some] at h
    cases hz : H1.slotsOf x with
    | none => rw [hz] at h; cases h
    | some z =>
    rw [hz, Option.bind_some] at h
    cases hw : z.1.write (.slots z.2.1) k v true with
    | none => rw [hw] at h; cases h
    | some u =>
    rw [hw, Option.bind_some] at h
    cases hj : joinW z.2.2 u with
    | none => rw [hj] at h; cases h
    | some y2 =>
    rw [hj, Option.bind_some] at h
    obtain ⟨l, u', hl, hlen, rfl⟩ := popHand_inv h
    unfold WS.held at hh
    split at hh
    case isFalse => cases hh
    rename_i hhl
    cases hh
    walk_at "go"
    refine hand_append r0 hhl fun st1 r1 => ?_
    walk_at "go"
    refine ok_w_slots r1 hz fun loc2 i st2 r2 hF2 => ?_
    walk_at "go"
    refine ok_w_write (p := .slots z.2.1) (b := true) r2 hw fun j st3 r3 hF3 => ?_
    walk_at "go"
    refine ok_joinW r3 hj fun id st4 r4 hF4 => ?_
    walk_at "go"
    refine hand_pop r4 hl hlen fun st5 r5 => ?_
    walk_at "go"
    exact q _ _ _ r5 hF4

theorem ok_el_put_ref {x y : Int} (r0 : RepW X loc H F st) (h : H.putRef x k y = some r) (q : ∀ loc' id st', RepW X loc' r.1 (F.add id ⟨0, .list (r.2.map enc)⟩) st' → (∀ o, ¬ F id o) → Q (.obj id) st') : wp ((R wh (n + 28)).call "_law_element" [.obj X.root, .str "put_ref", .tup [.int x, .int k, .int y]]) st Q := by
  unfold WS.putRef at h
  cases hb : H.valueOf x with
  | none => rw [hb] at h; cases h
  | some b =>
  rw [hb, Option.bind_some] at h
  walk_at "fn"
  cases hc : b.isCell with
  | false =>
    rw [hc, if_neg (by decide)] at h; cases h
    have hc' : (!b.isCell) = true := by rw [hc]; rfl
    walk_at "go"
    exact q _ _ _ (by assumption) (by assumption)
  | true =>
    rw [hc, if_pos rfl] at h
    have hc' : (!b.isCell) = false := by rw [hc]; rfl
    cases hv : H.refIn y with
    | none => rw [hv] at h; cases h
    | some w =>
    rw [hv, Option.bind_some] at h
    cases hh : w.1.held w.2 with
    | none => rw [hh] at h; cases h
    | some H1 =>
    rw [hh, Option.bind_some] at h
    cases hz : H1.slotsOf x with
    | none => rw [hz] at h; cases h
    | some z =>
    rw [hz, Option.bind_some] at h
    cases hw : z.1.write (.slots z.2.1) k w.2 false with
    | none => rw [hw] at h; cases h
    | some u =>
    rw [hw, Option.bind_some] at h
    cases hj : joinW z.2.2 u with
    | none => rw [hj] at h; cases h
    | some y2 =>
    rw [hj, Option.bind_some] at h
    obtain ⟨l, u', hl, hlen, rfl⟩ := popHand_inv h
    unfold WS.held at hh
    split at hh
    case isFalse => cases hh
    rename_i hhl
    cases hh
    walk_at "go"
    refine ok_w_reference r0 hv fun loc0 st0 r0 => ?_
    walk_at "go"
    refine hand_append r0 hhl fun st1 r1 => ?_
    walk_at "go"
    refine ok_w_slots r1 hz fun loc2 i st2 r2 hF2 => ?_
    walk_at "go"
    refine ok_w_write (p := .slots z.2.1) (b := false) r2 hw fun j st3 r3 hF3 => ?_
    walk_at "go"
    refine ok_joinW r3 hj fun id st4 r4 hF4 => ?_
    walk_at "go"
    refine hand_pop r4 hl hlen fun st5 r5 => ?_
    walk_at "go"
    exact q _ _ _ r5 hF4

theorem ok_w_change {d : D} (r0 : RepW X loc H F st) (h : H.change d = some r) (q : ∀ loc' id st', RepW X loc' r.1 (F.add id ⟨0, .list (r.2.map enc)⟩) st' → (∀ o, ¬ F id o) → Q (.obj id) st') : wp ((R wh (n + 33)).call "_law_change" [.obj X.root, .str d.name, .tup d.args]) st Q := by
  walk_at "fn"
  cases d with
  | setInt x i =>
    dsimp only [D.name, D.args]; walk_at "go"
    exact ok_w_write (p := .vars) (v := .int i) (b := true) r0 h fun id st1 r1 hF => q _ _ _ r1 hF
  | newArray x =>
    have h : (H.newCell .array false).bind (fun H1 => H1.write .vars x (.cell H1.last) true) = some r := h
    cases hn : H.newCell .array false with
    | none => rw [hn] at h; cases h
    | some H1 =>
    rw [hn, Option.bind_some] at h
    dsimp only [D.name, D.args]; walk_at "go"
    refine ok_w_new (k := .array) r0 hn fun loc1 st1 r1 _ => ?_
    walk_at "go"
    exact ok_w_write (p := .vars) (b := true) r1 h fun id st1 r1 hF => q _ _ _ r1 hF
  | newObject x b =>
    have h : (H.newCell .object b).bind (fun H1 => H1.write .vars x (.cell H1.last) true) = some r := h
    cases hn : H.newCell .object b with
    | none => rw [hn] at h; cases h
    | some H1 =>
    rw [hn, Option.bind_some] at h
    dsimp only [D.name, D.args]; walk_at "go"
    refine ok_w_new (k := .object) r0 hn fun loc1 st1 r1 _ => ?_
    walk_at "go"
    exact ok_w_write (p := .vars) (b := true) r1 h fun id st1 r1 hF => q _ _ _ r1 hF
  | assign x y =>
    have h : (H.valueOf y).bind (fun v => H.write .vars x v true) = some r := h
    cases hn : H.valueOf y with
    | none => rw [hn] at h; cases h
    | some v =>
    rw [hn, Option.bind_some] at h
    dsimp only [D.name, D.args]; walk_at "go"
    exact ok_w_write (p := .vars) (b := true) r0 h fun id st1 r1 hF => q _ _ _ r1 hF
  | put x k y =>
    dsimp only [D.name, D.args]; walk_at "go"
    exact ok_el_put r0 h q
  | take x y k =>
    have h : (H.takeV y k).bind (fun v => H.write .vars x v true) = some r := h
    cases hn : H.takeV y k with
    | none => rw [hn] at h; cases h
    | some v =>
    rw [hn, Option.bind_some] at h
    unfold WS.takeV at hn
    cases hv : H.valueOf y with
    | none => rw [hv] at hn; cases hn
    | some w =>
    rw [hv, Option.bind_some] at hn
    cases hw : w.isCell with
    | false =>
      rw [hw, if_neg (by decide)] at hn; cases hn
      have hw' : (!w.isCell) = true := by rw [hw]; rfl
      dsimp only [D.name, D.args]; walk_at "go"
      exact ok_w_write (p := .vars) (v := .int 0) (b := true) r0 h fun id st1 r1 hF => q _ _ _ r1 hF
    | true =>
      rw [hw, if_pos rfl] at hn
      have hw' : (!w.isCell) = false := by rw [hw]; rfl
      cases hc : getK w.num H.cells with
      | none => rw [hc] at hn; cases hn
      | some c =>
      rw [hc, Option.bind_some] at hn
      dsimp only [D.name, D.args]; walk_at "go"
      exact ok_w_write (p := .vars) (b := true) r0 h fun id st1 r1 hF => q _ _ _ r1 hF
  | makeRef x y =>
    have h : (H.refIn y).bind (fun w => w.1.write .vars x w.2 false) = some r := h
    cases hn : H.refIn y with
    | none => rw [hn] at h; cases h
    | some w =>
    rw [hn, Option.bind_some] at h
    dsimp only [D.name, D.args]; walk_at "go"
    refine ok_w_reference r0 hn fun loc0 st0 r0 => ?_
    walk_at "go"
    exact ok_w_write (p := .vars) (b := false) r0 h fun id st1 r1 hF => q _ _ _ r1 hF
  | putRef x k y =>
    dsimp only [D.name, D.args]; walk_at "go"
    exact ok_el_put_ref r0 h q
  | unset x =>
    have h : H.takenOut .vars x = some r := h
    unfold WS.takenOut at h
    have h : (match getK x H.vars with
      | some v => if H.vars.length ≤ 1000000 then some (H.setPl .vars (delK x H.vars), [v]) else none
      | none => some (H, [])) = some r := h
    cases hk : getK x H.vars with
    | none =>
      rw [hk] at h; cases h
      dsimp only [D.name, D.args]; walk_at "go"
      exact q _ _ _ (by assumption) (by assumption)
    | some v =>
      rw [hk] at h
      have h : (if H.vars.length ≤ 1000000 then some (H.setPl .vars (delK x H.vars), [v]) else none) = some r := h
      split at h
      case isFalse => cases h
      rename_i hz
      cases h
      dsimp only [D.name, D.args]; walk_at "go"
      refine pop_plW (p := .vars) r0 rfl hk hz fun st2 r2 => ?_
      walk_at "go"
      exact q _ _ _ (by assumption) (by assumption)
  | unsetAt x k =>
    dsimp only [D.name, D.args]; walk_at "go"
    exact ok_el_unset_at r0 h q
end
end
/-! P17 -/
section
set_option maxRecDepth 100000
set_option autoImplicit false
set_option maxHeartbeats 1000000

def WS.letGo (P : List (Int × List D)) (H : WS) : V → Option WS
  | .int _ => some H
  | .cell m => if H.small = true then if (H.holders m : Int) > 0 then some H else (getK m H.cells).bind fun c =>
      if c.due = true then if H.log.length ≤ 100000 ∧ H.vars.length ≤ 100000 ∧ (planOf P m).length ≤ 100000 ∧ H.tasks.length ≤ 100000 then some { H with cells := putK m { c with due := false } H.cells, log := H.log ++ [.destruct m], vars := putK (-m) (.cell m) H.vars, tasks := (planOf P m).map .deed ++ .deed (.unset (-m)) :: H.tasks } else none
      else if H.log.length ≤ 100000 ∧ H.cells.length ≤ 100000 ∧ c.slots.length ≤ 100000 ∧ H.tasks.length ≤ 100000 then some { H with cells := delK m H.cells, log := H.log ++ [.free m], tasks := (c.slots.map fun p => T.lose p.2) ++ H.tasks } else none
    else none
def WS.step (P : List (Int × List D)) (H : WS) : T → Option WS
  | .lose v => H.letGo P v
  | .deed d => (H.change d).bind fun z => if z.2.length + z.1.tasks.length ≤ 100000 then some { z.1 with tasks := z.2.map .lose ++ z.1.tasks } else none
inductive WRuns (P : List (Int × List D)) : Nat → WS → WS → Prop
  | nil {H : WS} (h : H.tasks = []) : WRuns P 0 H H
  | cons {m : Nat} {H H1 H' : WS} {t : T} {ts : List T} (h : H.tasks = t :: ts) (hz : ts.length ≤ 100000) (hs : WS.step P { H with tasks := ts } t = some H1) (k : WRuns P m H1 H') : WRuns P (m + 1) H H'

section
variable {st : ASt}
theorem dataOf_T (n : Nat) (t : T) : ∃ d, dataOf st (n + 4) (encT t) = some d ∧ d.canLay0 = true := by
  cases t with
  | lose v =>
    refine ⟨.tuple [.str "lose", v.dat], ?_, ?_⟩
    · show (List.mapM (dataOf st (n + 3)) [AVal.str "lose", enc v]).map PyData.tuple = _
      rw [List.mapM_cons, List.mapM_cons, dataOf_enc (n + 1) v]; rfl
    · simp only [PyData.canLay0, PyData.canLayAll0, V.dat_ok]; decide +kernel
  | deed d =>
    cases d with
    | newObject x b =>
      refine ⟨.tuple [.str "deed", .tuple [.str "new_object", .tuple [.int x, .bool b]]], rfl, ?_⟩
      simp only [PyData.canLay0, PyData.canLayAll0]; decide +kernel
    | setInt x i => exact ⟨.tuple [.str "deed", .tuple [.str "set_int", .tuple [.int x, .int i]]], rfl, by simp only [PyData.canLay0, PyData.canLayAll0]; decide +kernel⟩
    | newArray x => exact ⟨.tuple [.str "deed", .tuple [.str "new_array", .tuple [.int x]]], rfl, by simp only [PyData.canLay0, PyData.canLayAll0]; decide +kernel⟩
    | assign x y => exact ⟨.tuple [.str "deed", .tuple [.str "assign", .tuple [.int x, .int y]]], rfl, by simp only [PyData.canLay0, PyData.canLayAll0]; decide +kernel⟩
    | put x k y => exact ⟨.tuple [.str "deed", .tuple [.str "put", .tuple [.int x, .int k, .int y]]], rfl, by simp only [PyData.canLay0, PyData.canLayAll0]; decide +kernel⟩
    | take x y k => exact ⟨.tuple [.str "deed", .tuple [.str "take", .tuple [.int x, .int y, .int k]]], rfl, by simp only [PyData.canLay0, PyData.canLayAll0]; decide +kernel⟩
    | makeRef x y => exact ⟨.tuple [.str "deed", .tuple [.str "make_ref", .tuple [.int x, .int y]]], rfl, by simp only [PyData.canLay0, PyData.canLayAll0]; decide +kernel⟩
    | putRef x k y => exact ⟨.tuple [.str "deed", .tuple [.str "put_ref", .tuple [.int x, .int k, .int y]]], rfl, by simp only [PyData.canLay0, PyData.canLayAll0]; decide +kernel⟩
    | unset x => exact ⟨.tuple [.str "deed", .tuple [.str "unset", .tuple [.int x]]], rfl, by simp only [PyData.canLay0, PyData.canLayAll0]; decide +kernel⟩
    | unsetAt x k => exact ⟨.tuple [.str "deed", .tuple [.str "unset_at", .tuple [.int x, .int k]]], rfl, by simp only [PyData.canLay0, PyData.canLayAll0]; decide +kernel⟩
theorem dataOf_Ts : ∀ l : List T, ∃ ds, (l.map encT).mapM (dataOf st 7) = some ds ∧ PyData.canLayAll0 ds = true ∧ ds.isEmpty = l.isEmpty
  | [] => ⟨[], rfl, by simp only [PyData.canLayAll0], rfl⟩
  | t :: l => by
    obtain ⟨ds, h1, h2, _⟩ := dataOf_Ts l
    obtain ⟨d, h3, h4⟩ := dataOf_T (st := st) 3 t
    refine ⟨d :: ds, ?_, by simp only [PyData.canLayAll0, h4, h2]; rfl, rfl⟩
    rw [List.map_cons, List.mapM_cons, h3, h1]; rfl
theorem obj_of {i : Nat} {d : AData} (h : st.At i d) : ∃ v, st.obj? i = some ⟨v, d⟩ := by
  refine ⟨(st.get i).ver, ?_⟩
  unfold ASt.obj?
  rw [if_pos h.1, ← h.2]
theorem aeq_tasks {i j : Nat} {l : List T} (hi : st.At i (.list (l.map encT))) (hj : st.At j (.list [])) : aeq (.obj i) (.obj j) st = some (l.isEmpty, st) := by
  obtain ⟨v, hv⟩ := obj_of hi
  obtain ⟨w, hw⟩ := obj_of hj
  obtain ⟨ds, h1, h2, h3⟩ := dataOf_Ts (st := st) l
  have e1 : dataOf st 8 (.obj i) = some (.list ds) := by
    show (match st.obj? i with | some ⟨_, .list l⟩ => (l.mapM (dataOf st 7)).map PyData.list | _ => none) = _
    rw [hv]
    show ((l.map encT).mapM (dataOf st 7)).map PyData.list = _
    rw [h1]; rfl
  have e2 : dataOf st 8 (.obj j) = some (.list []) := by
    show (match st.obj? j with | some ⟨_, .list l⟩ => (l.mapM (dataOf st 7)).map PyData.list | _ => none) = _
    rw [hw]; rfl
  unfold aeq
  rw [e1, e2]
  show (if (PyData.list ds).canLay0 && (PyData.list []).canLay0 then some (PyData.eqv (.list ds) (.list []), st) else none) = _
  have e3 : ((PyData.list ds).canLay0 && (PyData.list []).canLay0) = true := by simp only [PyData.canLay0, h2]; rfl
  rw [e3]
  have e4 : PyData.eqv (.list ds) (.list []) = l.isEmpty := by
    rw [← h3]
    cases ds <;> simp only [PyData.eqv, PyData.eqvAll] <;> rfl
  rw [e4]; rfl
end

section
variable {X : WIds} {loc : Loc} {H H' : WS} {F : Frm} {st : ASt} {wh : ((AEnv × ASt) → Option (Sum (AEnv × ASt) ((Out × AEnv) × ASt))) → AEnv × ASt → Option ((Out × AEnv) × ASt)} {n : Nat} {v w : V} {Q : AVal → ASt → Prop} {p : Pl} {k : Int} {P : List (Int × List D)}

local macro_rules | `(tactic| walk_at "call") => `(tactic| first
  | with_reducible refine cmp_eq (aeq_lit (by decide +kernel) (by decide +kernel) (by with_unfolding_all rfl)) ?_)

theorem ok_w_let_go {pid : Nat} (r0 : RepW X loc H F st) (hP : PlanAt F pid P) (h : H.letGo P v = some H') (q : ∀ st', RepW X loc H' F st' → Q .none st') : wp ((R wh (n + 16)).call "_law_let_go" [.obj X.root, enc v, .obj pid]) st Q := by
  walk_at "fn"
  cases v with
  | int i =>
    cases h
    walk_at "go"
    exact q _ r0
  | cell m =>
    have h : (if H.small = true then if (H.holders m : Int) > 0 then some H else (getK m H.cells).bind fun c =>
      if c.due = true then if H.log.length ≤ 100000 ∧ H.vars.length ≤ 100000 ∧ (planOf P m).length ≤ 100000 ∧ H.tasks.length ≤ 100000 then some { H with cells := putK m { c with due := false } H.cells, log := H.log ++ [.destruct m], vars := putK (-m) (.cell m) H.vars, tasks := (planOf P m).map .deed ++ .deed (.unset (-m)) :: H.tasks } else none
      else if H.log.length ≤ 100000 ∧ H.cells.length ≤ 100000 ∧ c.slots.length ≤ 100000 ∧ H.tasks.length ≤ 100000 then some { H with cells := delK m H.cells, log := H.log ++ [.free m], tasks := (c.slots.map fun p => T.lose p.2) ++ H.tasks } else none
    else none) = some H' := h
    cases hsm : H.small with
    | false => rw [hsm, if_neg (by decide)] at h; cases h
    | true =>
    rw [hsm, if_pos rfl] at h
    walk_at "go"
    refine ok_w_holders r0 hsm fun st1 r1 => ?_
    by_cases hn : (H.holders m : Int) > 0
    · rw [if_pos hn] at h; cases h
      have hn' : decide ((H.holders m : Int) > 0) = true := by simpa using hn
      walk_at "go"
      exact q _ r1
    · rw [if_neg hn] at h
      have hn' : decide ((H.holders m : Int) > 0) = false := by simpa using hn
      cases hc : getK m H.cells with
      | none => rw [hc] at h; cases h
      | some c =>
      rw [hc, Option.bind_some] at h
      walk_at "go"
      cases hd : c.due with
      | true =>
        rw [hd, if_pos rfl] at h
        split at h
        case isFalse => cases h
        rename_i hz
        cases h
        walk_at "go"
        refine set_due r1 hc fun st2 r2 => ?_
        walk_at "go"
        refine log_appendW (l := .destruct m) r2 (Nat.le_trans hz.1 (by decide)) fun st3 r3 => ?_
        walk_at "go"
        refine set_varsW r3 (Nat.le_trans hz.2.1 (by decide)) fun st4 r4 => ?_
        walk_at "go"
        refine tasks_append (t := .deed (.unset (-m))) r4 (Nat.le_trans hz.2.2.2 (by decide)) fun st5 r5 => ?_
        walk_at "go"
        obtain ⟨vp, lp, hp1, hp2⟩ := hP
        refine ev_comp (by with_unfolding_all rfl) (src_sub (ev_back ?_))
        walk_at "go"
        refine meth_i (r5.frame _ _ hp1).at ?_
        walk_at "go"
        rename_i e st6 r6 hF6 _
        refine m_get (r6.frame _ _ (.inl hp1)).at ?_
        walk_at "go"
        obtain ⟨j, vj, hj1, hj2⟩ : ∃ j vj, (getK m lp).getD (.obj e) = .obj j ∧ (F.add e ⟨0, .list []⟩) j ⟨vj, .list ((planOf P m).map encD)⟩ := by
          unfold planOf
          cases hg : getK m P with
          | none => rw [(hp2 m).1 hg]; exact ⟨e, 0, rfl, .inr ⟨rfl, rfl⟩⟩
          | some ds =>
            obtain ⟨j, v, h1, h2⟩ := (hp2 m).2 ds hg
            rw [h1]; exact ⟨j, v, rfl, .inl h2⟩
        refine ⟨j, _, hj1, by with_unfolding_all rfl, (r6.frame _ _ hj2).at, by rw [List.length_map]; exact Nat.le_trans hz.2.2.1 (by decide), ?_⟩
        refine wp_newW r6 fun i st7 r7 hF7 _ => ?_
        refine ⟨i, rfl, .inl ⟨⟨_, r7.top⟩, by with_unfolding_all rfl, its_lst r7.top ⟨by rw [List.length_reverse, List.length_map]; exact Nat.le_trans hz.2.2.1 (by decide), ?_⟩⟩⟩
        refine compLoop_has (Has.of rfl rfl) (fun x => some (.tup [.str "deed", x])) rfl (fun x hx env hE => ?_) ?_
        · walk_at "go"
          rename_i env1 hE1
          refine ⟨rfl, hE1.pop (by with_unfolding_all rfl), tests_nil ⟨rfl, fun _ => ?_, fun h => by cases h⟩⟩
          walk_at "go"
          exact ⟨rfl, rfl⟩
        have e1 : (((planOf P m).map encD).reverse.filterMap fun x => some (AVal.tup [.str "deed", x])) = ((planOf P m).map T.deed).reverse.map encT := by
          rw [List.filterMap_eq_map', ← List.map_reverse, ← List.map_reverse, List.map_map, List.map_map]; rfl
        rw [e1]
        walk_at "go"
        rename_i t st8 r8 hF8 _
        refine tasks_extend r8 (by show (_ :: H.tasks).length + _ ≤ _; rw [List.length_cons, List.length_map]; omega) fun st9 r9 => ?_
        walk_at "go"
        exact q _ r9.drop.drop
      | false =>
        rw [hd, if_neg (by decide)] at h
        split at h
        case isFalse => cases h
        rename_i hz
        cases h
        walk_at "go"
        refine del_cellsW r1 hc (Nat.le_trans hz.2.1 (by decide)) fun o o' st2 r2 ho ho' => ?_
        walk_at "go"
        refine log_appendW (l := .free m) r2 (Nat.le_trans hz.1 (by decide)) fun st3 r3 => ?_
        walk_at "go"
        refine ev_comp (by with_unfolding_all rfl) (src_sub (ev_back ?_))
        refine ev_list_call (by with_unfolding_all rfl) (by with_unfolding_all rfl) (by with_unfolding_all rfl) (src_values (by with_unfolding_all rfl) (by with_unfolding_all rfl) ?_)
        walk_at "go"
        refine item_list (l := cellW (loc.slot m) c) (by rw [← ho]; exact (r3.frame _ _ (.inl (.inr ⟨rfl, rfl⟩))).at) (by decide) rfl ?_
        have has : st3.At (loc.slot m) (.idict (encM c.slots)) := by rw [← ho']; exact (r3.frame _ _ (.inr ⟨rfl, rfl⟩)).at
        refine ⟨loc.slot m, _, rfl, has, by with_unfolding_all rfl, its_values has ⟨by rw [List.length_map, len_encM]; exact Nat.le_trans hz.2.2.1 (by decide), ?_⟩⟩
        refine wp_newW r3 fun i st4 r4 hF4 _ => ?_
        walk_at "go"
        refine ⟨i, _, rfl, by with_unfolding_all rfl, r4.top, by rw [List.length_map, len_encM]; exact Nat.le_trans hz.2.2.1 (by decide), ?_⟩
        refine wp_newW r4 fun i2 st5 r5 hF5 _ => ?_
        refine ⟨i2, rfl, .inl ⟨⟨_, r5.top⟩, by with_unfolding_all rfl, its_lst r5.top ⟨by rw [List.length_reverse, List.length_map, len_encM]; exact Nat.le_trans hz.2.2.1 (by decide), ?_⟩⟩⟩
        refine compLoop_has (Has.of rfl rfl) (fun x => some (.tup [.str "lose", x])) rfl (fun x hx env hE => ?_) ?_
        · walk_at "go"
          rename_i env1 hE1
          refine ⟨rfl, hE1.pop (by with_unfolding_all rfl), tests_nil ⟨rfl, fun _ => ?_, fun h => by cases h⟩⟩
          walk_at "go"
          exact ⟨rfl, rfl⟩
        have e1 : (((encM c.slots).map fun p => p.2).reverse.filterMap fun x => some (AVal.tup [.str "lose", x])) = (c.slots.map fun p => T.lose p.2).reverse.map encT := by
          unfold encM
          rw [List.filterMap_eq_map', ← List.map_reverse, ← List.map_reverse, ← List.map_reverse, List.map_map, List.map_map, List.map_map]; rfl
        rw [e1]
        walk_at "go"
        rename_i t st8 r8 hF8 _
        refine tasks_extend r8 (by rw [List.length_map]; exact Nat.le_trans (Nat.add_le_add hz.2.2.2 hz.2.2.1) (by decide)) fun st9 r9 => ?_
        walk_at "go"
        exact q _ r9.drop.drop.drop.drop

theorem ok_w_done {m pid : Nat} {d : D} (hw : WhOK wh) (r0 : RepW X loc H F st) (hP : PlanAt F pid P) (hz0 : H.tasks.length ≤ 100000) (h : WRuns P m { H with tasks := .deed d :: H.tasks } H') (q : ∀ loc' st', RepW X loc' H' F st' → Q .none st') : wp ((R wh (n + 46)).call "_law_done" [.obj X.root, encD d, .obj pid]) st Q := by
  walk_at "fn"
  walk_at "go"
  refine tasks_append (t := .deed d) r0 (Nat.le_trans hz0 (by decide)) fun st1 r1 => ?_
  walk_at "go"
  refine st_while_has hw (Has.of rfl rfl) (fun m s => ∃ H loc, WRuns P m H H' ∧ RepW X loc H F s) ⟨_, _, h, r1⟩ ?_ ?_
  · rintro m env s hE ⟨H, loc, hr, r2⟩
    cases hr with
    | @cons _ _ H1 _ t ts ht hz hs k1 =>
    walk_at "go"
    rename_i j s3 r3 hF3 _
    refine cmp_ne (aeq_tasks r3.tasks r3.top) ?_
    walk_at "go"
    refine ⟨by rw [ht]; simp, ?_⟩
    have r3 := r3.drop
    walk_at "go"
    refine tasks_pop r3 ht (by rw [ht, List.length_cons]; omega) fun s4 r4 => ?_
    cases t with
    | lose v =>
      dsimp only [encT]
      walk_at "go"
      rename_i env1 hE1 env2 hE2
      refine ok_w_let_go r4 hP hs fun s5 r5 => ?_
      walk_at "go"
      exact ⟨rfl, (hE2.pop (by with_unfolding_all rfl)).pop (by with_unfolding_all rfl), _, _, k1, r5⟩
    | deed d =>
      dsimp only [encT, encD]
      have hs : (({ H with tasks := ts } : WS).change d).bind (fun z => if z.2.length + z.1.tasks.length ≤ 100000 then some { z.1 with tasks := z.2.map .lose ++ z.1.tasks } else none) = some H1 := hs
      cases hd : ({ H with tasks := ts } : WS).change d with
      | none => rw [hd] at hs; cases hs
      | some z =>
      rw [hd, Option.bind_some] at hs
      split at hs
      case isFalse => cases hs
      rename_i hz2
      cases hs
      walk_at "go"
      rename_i env1 hE1 env2 hE2
      refine ev_comp (by rw [hE2.1]; with_unfolding_all rfl) (src_sub (ev_back ?_))
      walk_at "go"
      refine ok_w_change r4 hd fun loc5 i s5 r5 hF5 => ?_
      walk_at "go"
      refine ⟨i, _, rfl, by with_unfolding_all rfl, r5.top, by rw [List.length_map]; omega, ?_⟩
      refine wp_newW r5 fun i2 s6 r6 hF6 _ => ?_
      refine ⟨i2, rfl, .inl ⟨⟨_, r6.top⟩, by with_unfolding_all rfl, its_lst r6.top ⟨by rw [List.length_reverse, List.length_map]; omega, ?_⟩⟩⟩
      refine compLoop_has (hE2.comp _) (fun x => some (.tup [.str "lose", x])) rfl (fun x hx env hE => ?_) ?_
      · walk_at "go"
        rename_i env3 hE3
        refine ⟨rfl, hE3.pop (by with_unfolding_all rfl), tests_nil ⟨rfl, fun _ => ?_, fun h => by cases h⟩⟩
        walk_at "go"
        exact ⟨rfl, rfl⟩
      have e1 : ((z.2.map enc).reverse.filterMap fun x => some (AVal.tup [.str "lose", x])) = (z.2.map T.lose).reverse.map encT := by
        rw [List.filterMap_eq_map', ← List.map_reverse, ← List.map_reverse, List.map_map, List.map_map]; rfl
      rw [e1]
      walk_at "go"
      rename_i t s8 r8 hF8 _
      refine tasks_extend r8 (by rw [List.length_map]; omega) fun s9 r9 => ?_
      walk_at "go"
      exact ⟨rfl, (hE2.pop (by with_unfolding_all rfl)).pop (by with_unfolding_all rfl), _, _, k1, r9.drop.drop⟩
  · rintro env s hE ⟨H, loc, hr, r2⟩
    cases hr with
    | nil ht =>
    walk_at "go"
    rename_i j s3 r3 hF3 _
    refine cmp_ne (aeq_tasks r3.tasks r3.top) ?_
    walk_at "go"
    refine ⟨by rw [ht]; rfl, ?_⟩
    have r3 := r3.drop
    walk_at "go"
    exact q _ _ r3
end
end
end Mine
namespace Mine
open PySem PySem.W PyProof.Rows
/-! ready-made steps -/
local macro_rules | `(tactic| walk_at "at") => `(tactic| first
  | assumption
  | exact Rep.root (by assumption)
  | exact Rep.cells (by assumption)
  | exact Rep.vars (by assumption)
  | exact Rep.log (by assumption)
  | exact Rep.buffer (by assumption)
  | exact Rep.tables (by assumption)
  | exact Rep.cell (by assumption) (by assumption)
  | exact Rep.slot (by assumption) (by assumption)
  | exact Rep.pl (by assumption) (by assumption)
  | exact Rep.top (by assumption)
  | exact Rep.top2 (by assumption))
local macro_rules | `(tactic| walk_at "br") => `(tactic| first
  | with_reducible refine br_t (by first | assumption | with_unfolding_all rfl) ?_
  | with_reducible refine br_f (by first | assumption | with_unfolding_all rfl) ?_
  | with_reducible refine br_f' (by first | assumption | with_unfolding_all rfl) ?_
  | with_reducible refine br_t' (by first | assumption | with_unfolding_all rfl) ?_
  | with_reducible refine br_t (isSome_t (by assumption)) ?_
  | with_reducible refine br_f (isSome_f (by assumption)) ?_)
local macro_rules | `(tactic| walk_at "step") => `(tactic| first
  | with_reducible refine ev_name (by with_unfolding_all rfl) (by with_unfolding_all rfl) ?_
  | with_reducible refine ev_name (by with_unfolding_all rfl) (Has.get (by assumption) (by with_unfolding_all rfl) (by with_unfolding_all rfl)) ?_
  | with_reducible refine ev_const (by with_unfolding_all rfl) ?_
  | with_reducible refine ev_attr (by with_unfolding_all rfl) ?_
  | with_reducible refine ev_upto ?_
  | with_reducible refine ev_back ?_
  | with_reducible refine ev_sub (by with_unfolding_all rfl) ?_
  | with_reducible refine ev_call (by decide +kernel) (by with_unfolding_all rfl) ?_
  | with_reducible refine ev_callH (by assumption) (by decide +kernel) (by with_unfolding_all rfl) ?_
  | with_reducible refine ev_meth (by with_unfolding_all rfl) ?_
  | with_reducible refine ev_tuple (by with_unfolding_all rfl) ?_
  | with_reducible refine ev_dict0 ?_
  | with_reducible refine ev_list (by with_unfolding_all rfl) ?_
  | with_reducible refine ev_cmp (by with_unfolding_all rfl) ?_
  | with_reducible refine ev_if ?_
  | with_reducible refine ev_bin ?_
  | with_reducible refine ev_un ?_
  | with_reducible refine ev_bool ?_
  | with_reducible refine boolA_one ?_
  | with_reducible refine boolA_and ?_
  | with_reducible refine boolA_or ?_
  | with_reducible refine evs_nil ?_
  | with_reducible refine evs_cons ?_
  | with_reducible refine exs_nil ?_
  | with_reducible refine st_ret ?_
  | with_reducible refine st_ret0 ?_
  | with_reducible refine st_assign (by with_unfolding_all rfl) ?_
  | with_reducible refine st_expr (by with_unfolding_all rfl) ?_
  | with_reducible refine st_if ?_
  | with_reducible refine st_aug_attr ?_
  | with_reducible refine st_aug_sub (by with_unfolding_all rfl) ?_
  | with_reducible refine st_del ?_
  | with_reducible refine then_next ?_
  | with_reducible refine then_ret ?_
  | with_reducible refine as_name (by with_unfolding_all rfl) ?_
  | with_reducible refine as_nameH (by assumption) (by with_unfolding_all rfl) (fun env' hE => ?_)
  | with_reducible refine as_attr ?_
  | with_reducible refine as_sub ?_
  | with_reducible refine as_tup ?_
  | with_reducible refine bts_nil ?_
  | with_reducible refine bts_name (by with_unfolding_all rfl) ?_
  | with_reducible refine bts_nameH (by assumption) (by with_unfolding_all rfl) (fun env' hE => ?_)
  | with_reducible refine bts_attr ?_
  | with_reducible refine truth_b ?_
  | with_reducible refine attr_get (by with_unfolding_all rfl) (by walk_at "at") (by with_unfolding_all rfl) ?_
  | with_reducible refine item_v0 ?_
  | with_reducible refine item_v1c ?_
  | with_reducible refine item_v1 ?_
  | with_reducible refine item_tup (by decide) (by with_unfolding_all rfl) ?_
  | with_reducible refine item_m (by walk_at "at") (by assumption) ?_
  | with_reducible refine item_pl (by assumption) (by assumption) (by assumption) ?_
  | with_reducible refine in_pl (by assumption) (by assumption) ?_
  | with_reducible refine set_pl (by assumption) (by assumption) (by assumption) (fun st' r' => ?_)
  | with_reducible refine pop_pl (by assumption) (by assumption) (by assumption) (by assumption) (fun st' r' => ?_)
  | with_reducible refine wp_new (by assumption) (fun id st' r' hF hs => ?_)
  | with_reducible refine item_cells (by assumption) (by assumption) ?_
  | with_reducible refine get_cells_s (by assumption) (by assumption) ?_
  | with_reducible refine get_cells_n (by assumption) (by assumption) ?_
  | with_reducible refine get_m (by walk_at "at") ?_
  | with_reducible refine get_mv (by walk_at "at") ?_
  | with_reducible refine cmp_eq aeq_tagc ?_
  | with_reducible refine cmp_eq aeq_tagi ?_
  | with_reducible refine cmp_eq aeq_ref ?_
  | with_reducible refine cmp_eq aeq_object ?_
  | with_reducible refine cmp_eq aeq_int ?_
  | with_reducible refine cmp_ne aeq_ref ?_
  | with_reducible refine in_m (by walk_at "at") ?_
  | with_reducible refine cmp_gt ?_
  | with_reducible refine cmp_isnot_i ?_
  | with_reducible refine cmp_isnot_n ?_
  | with_reducible refine cmp_is_i ?_
  | with_reducible refine cmp_is_n ?_
  | with_reducible refine un_not ?_
  | with_reducible refine un_neg ?_
  | with_reducible refine aug_add ?_
  | with_reducible refine aug_sub ?_
  | with_reducible refine bin_add ?_
  | with_reducible refine bin_sub ?_
  | with_reducible refine meth_l (by walk_at "at") ?_
  | with_reducible refine meth_i (by walk_at "at") ?_
  | walk_at "br"
  | walk_at "call")
local macro_rules | `(tactic| walk_at "call") => `(tactic| fail)
local macro_rules | `(tactic| walk_at "init") => `(tactic| (refine call_init (by rfl) (by rfl) ⟨by rfl, by rfl⟩ ?_; dsimp only [List.map, List.zip, List.zipWith]))
local macro_rules | `(tactic| walk_at "fn") => `(tactic| (refine call_f (by rfl) (by decide +kernel) ⟨by rfl, by rfl⟩ ?_; dsimp only [List.map, List.zip, List.zipWith]))
local macro_rules | `(tactic| walk_at "go") => `(tactic| repeat walk_at "step")

/-! P18 -/
section
set_option maxRecDepth 100000
set_option autoImplicit false
set_option maxHeartbeats 1000000

def getv (l : List (Int × V)) (k : Int) : V := (getK k l).getD (.int 0)
def HS.allHeld (H : HS) : List V := (H.vars.map fun p => getv H.vars p.1) ++ H.cells.flatMap fun p => match getK p.1 H.cells with
  | some c => c.slots.map fun q => getv c.slots q.1
  | none => []
def cntV (n : Int) (l : List V) : Nat := (l.filter fun v => decide (v = .cell n)).length
structure CountsOK (H : HS) : Prop where
  size : H.allHeld.length ≤ 1000000
  sizeV : H.vars.length ≤ 1000000
  sizeC : H.cells.length ≤ 1000000
  live : ∀ n, V.cell n ∈ H.allHeld → (getK n H.cells).isSome
  right : ∀ n c, getK n H.cells = some c → c.count = cntV n H.allHeld

section
variable {X : HIds} {loc : Loc} {H H' : HS} {F : Frm} {st : ASt} {wh : ((AEnv × ASt) → Option (Sum (AEnv × ASt) ((Out × AEnv) × ASt))) → AEnv × ASt → Option ((Out × AEnv) × ASt)} {n : Nat} {v w : V} {c : C} {Q : AVal → ASt → Prop} {U : Unit → ASt → Prop} {k : Int}

theorem tmp_seti {i vr : Nat} {l : List (Int × AVal)} {x : AVal} (r : Rep X loc H (F.add i ⟨vr, .idict l⟩) st) (hF : ∀ o, ¬ F i o) (hz : l.length ≤ 1000000) (q : ∀ st', Rep X loc H (F.add i ⟨vr + 1, .idict (putK k x l)⟩) st' → (∀ j, j ≠ i → st'.get j = st.get j) → U () st') : wp (itemSet (.obj i) (.int k) x) st U :=
  set_idict r.top hz (q _ (r.put_tmp hF) fun _ hj => if_neg hj)

local macro_rules | `(tactic| walk_at "call") => `(tactic| first
  | with_reducible refine cmp_eq (aeq_lit (by decide +kernel) (by decide +kernel) (by with_unfolding_all rfl)) ?_)

theorem ok_all_held (r0 : Rep X loc H F st) (hz : H.allHeld.length ≤ 1000000) (hzv : H.vars.length ≤ 1000000) (q : ∀ id vr st', Rep X loc H (F.add id ⟨vr, .list (H.allHeld.map enc)⟩) st' → (∀ o, ¬ F id o) → Q (.obj id) st') : wp ((R wh (n + 10)).call "all_held" [.inst "Counted" X.root]) st Q := by
  walk_at "fn"
  walk_at "go"
  refine ev_comp (by with_unfolding_all rfl) (src_attr (id := X.vars) ?_)
  walk_at "go"
  refine ⟨rfl, .inr ⟨⟨_, r0.vars⟩, by with_unfolding_all rfl, its_keys r0.vars ⟨by rw [List.length_map, len_encM]; exact hzv, ?_⟩⟩⟩
  have e0 : ((encM H.vars).map fun p => AVal.int p.1) = H.vars.map fun p => AVal.int p.1 := by unfold encM; rw [List.map_map]; rfl
  rw [e0]
  refine compLoop_has (Has.of rfl rfl) (fun x => match x with | .int k => some (enc (getv H.vars k)) | _ => none) rfl (fun x hx env hE => ?_) ?_
  · obtain ⟨p, hp, rfl⟩ := List.mem_map.mp hx
    obtain ⟨u, hu⟩ := mem_getK hp
    walk_at "go"
    rename_i env1 hE1
    refine ⟨rfl, hE1.pop (by with_unfolding_all rfl), tests_nil ⟨rfl, fun _ => ?_, fun h => by cases h⟩⟩
    walk_at "go"
    refine ⟨rfl, ?_⟩
    show some (enc (getv H.vars p.1)) = _
    unfold getv; rw [hu]; rfl
  have e1 : ((H.vars.map fun p => AVal.int p.1).filterMap fun x => match x with | .int k => some (enc (getv H.vars k)) | _ => none) = (H.vars.map fun p => getv H.vars p.1).map enc := by
    rw [List.filterMap_map, List.map_map, ← List.filterMap_eq_map]; rfl
  rw [e1]
  walk_at "go"
  rename_i i st1 r1 hF1 _
  refine st_for (by with_unfolding_all rfl) (src_attr (id := X.cells) ?_)
  walk_at "go"
  refine ⟨rfl, .inr ⟨⟨_, r1.cells⟩, by with_unfolding_all rfl, its_keys r1.cells ?_⟩⟩
  have e2 : ((cellsA loc H.cells).map fun p => AVal.int p.1) = H.cells.map fun p => AVal.int p.1 := by unfold cellsA; rw [List.map_map]; rfl
  rw [e2]
  have hiX : X.cells ≠ i := r1.off i _ (.inr ⟨rfl, rfl⟩) .cells rfl
  refine forLoop_has (Has.of rfl rfl) (fun us s => ∃ (ps : List (Int × C)) (done : List V) (vr : Nat), us = (ps.map fun p => AVal.int p.1) ∧ Rep X loc H (F.add i ⟨vr, .list (done.map enc)⟩) s ∧ s.get X.cells = st1.get X.cells ∧ (∀ p ∈ ps, p ∈ H.cells) ∧ done ++ (ps.flatMap fun p => match getK p.1 H.cells with
    | some c => c.slots.map fun q => getv c.slots q.1
    | none => []) = H.allHeld) ⟨H.cells, _, _, rfl, r1, rfl, fun _ h => h, rfl⟩ ?_ ?_
  · rintro u us env s hE ⟨ps, done, vr, hu, r5, hs, hm, hd⟩
    cases ps with
    | nil => cases hu
    | cons pc ps =>
    rw [List.map_cons] at hu
    cases hu
    obtain ⟨c, hc⟩ := mem_getK (hm pc (.head _))
    rw [List.flatMap_cons, hc] at hd
    have hd : done ++ ((c.slots.map fun q => getv c.slots q.1) ++ _) = H.allHeld := hd
    refine ⟨by show (s.get _).ver = _; rw [hs]; rfl, ?_⟩
    walk_at "go"
    rename_i env1 hE1 env2 hE2
    refine st_for (by with_unfolding_all rfl) (src_attr (id := loc.slot pc.1) ?_)
    walk_at "go"
    refine ⟨rfl, .inr ⟨⟨_, r5.slot hc⟩, by with_unfolding_all rfl, its_keys (r5.slot hc) ?_⟩⟩
    have hi : loc.slot pc.1 ≠ i := r5.off i _ (.inr ⟨rfl, rfl⟩) (.slot pc.1) (by show ((getK pc.1 H.cells).map _).isSome = true; rw [hc]; rfl)
    have e3 : ((encM c.slots).map fun p => AVal.int p.1) = c.slots.map fun p => AVal.int p.1 := by unfold encM; rw [List.map_map]; rfl
    rw [e3]
    refine forLoop_has hE2 (fun us2 s2 => ∃ (qs : List (Int × V)) (done2 : List V) (vr2 : Nat), us2 = (qs.map fun p => AVal.int p.1) ∧ Rep X loc H (F.add i ⟨vr2, .list (done2.map enc)⟩) s2 ∧ s2.get X.cells = st1.get X.cells ∧ s2.get (loc.slot pc.1) = s.get (loc.slot pc.1) ∧ (∀ p ∈ qs, p ∈ c.slots) ∧ done2 ++ (qs.map fun q => getv c.slots q.1) = done ++ c.slots.map fun q => getv c.slots q.1) ⟨c.slots, done, vr, rfl, r5, hs, rfl, fun _ h => h, rfl⟩ ?_ ?_
    · rintro u2 us2 env s2 hE ⟨qs, done2, vr2, hu2, r6, hs6, hsl, hm2, hd2⟩
      cases qs with
      | nil => cases hu2
      | cons pq qs =>
      rw [List.map_cons] at hu2
      cases hu2
      obtain ⟨t, ht⟩ := mem_getK (hm2 pq (.head _))
      refine ⟨by show (s2.get _).ver = _; rw [hsl]; rfl, ?_⟩
      have hlen : done2.length ≤ 1000000 := by
        have e4 := congrArg List.length hd2
        have e5 := congrArg List.length hd
        rw [List.length_append, List.length_append] at e4 e5
        omega
      walk_at "go"
      rename_i env3 hE3
      refine tmp_append r6 hF1 (by rw [List.length_map]; exact hlen) fun s7 r7 hk7 => ?_
      walk_at "go"
      refine ⟨hE3.pop (by with_unfolding_all rfl), qs, done2 ++ [t], vr2 + 1, rfl, by rw [List.map_append]; exact r7, (hk7 _ hiX).trans hs6, (hk7 _ hi).trans hsl, fun p hp => hm2 p (.tail _ hp), ?_⟩
      rw [← hd2, List.map_cons, List.append_assoc]
      have : getv c.slots pq.1 = t := by unfold getv; rw [ht]; rfl
      rw [this]; rfl
    · rintro env s2 hE ⟨qs, done2, vr2, hu2, r6, hs6, hsl, hm2, hd2⟩
      cases qs with
      | cons => cases hu2
      | nil =>
      refine ⟨by show (s2.get _).ver = _; rw [hsl]; rfl, ?_⟩
      walk_at "go"
      rw [List.map_nil, List.append_nil] at hd2
      subst hd2
      exact ⟨(hE.pop (by with_unfolding_all rfl)).pop (by with_unfolding_all rfl), ps, _, _, rfl, r6, hs6, fun p hp => hm p (.tail _ hp), by rw [List.append_assoc]; exact hd⟩
  · rintro env s hE ⟨ps, done, vr, hu, r5, hs, hm, hd⟩
    cases ps with
    | cons => cases hu
    | nil =>
    rw [List.flatMap_nil, List.append_nil] at hd
    subst hd
    refine ⟨by show (s.get _).ver = _; rw [hs]; rfl, ?_⟩
    walk_at "go"
    refine st_for (by with_unfolding_all rfl) (src_attr (id := X.tables) ?_)
    walk_at "go"
    refine ⟨rfl, .inl ⟨⟨_, r5.tables⟩, by with_unfolding_all rfl, its_lst r5.tables (forLoop_nil rfl ?_)⟩⟩
    walk_at "go"
    exact q _ _ _ r5 hF1

theorem src_name_d {r : Rec} {env : AEnv} {x : Str} {p : Pos} {Q : Src → ASt → Prop} {id : Nat} {l : List (Int × AVal)} (k : wp (r.ev (.Name x p) env) st fun v st' => v = .obj id ∧ st'.At id (.idict l) ∧ Q (.keys id) st') : wp (srcOf r env (.Name x p)) st Q := by
  refine wp_bind (wp_mono k ?_)
  rintro _ st' ⟨rfl, h, q⟩
  exact wp_bind (wp_getD h (wp_pure q))
def encN (l : List (Int × Int)) : List (Int × AVal) := l.map fun p => (p.1, (fun _ i => AVal.int i) p.1 p.2)
theorem getK_encN {l : List (Int × Int)} : getK k (encN l) = (getK k l).map AVal.int := getK_mapv (f := fun _ i => AVal.int i)
theorem putK_encN {i : Int} {l : List (Int × Int)} : putK k (.int i) (encN l) = encN (putK k i l) := putK_mapv (f := fun _ i => AVal.int i)
theorem cntV_snoc {n : Int} {l : List V} {v : V} : cntV n (l ++ [v]) = cntV n l + if v = .cell n then 1 else 0 := by
  unfold cntV
  rw [List.filter_append, List.length_append]
  by_cases q : v = .cell n
  · simp [q]
  · simp [q]

theorem ok_counts_right (r0 : Rep X loc H F st) (h : CountsOK H) (q : ∀ st', Rep X loc H F st' → Q (.bool true) st') : wp ((R wh (n + 14)).call "counts_right" [.inst "Counted" X.root]) st Q := by
  walk_at "fn"
  walk_at "go"
  rename_i i st1 r1 hF1 _
  refine st_for (by with_unfolding_all rfl) (src_attr (id := X.cells) ?_)
  walk_at "go"
  refine ⟨rfl, .inr ⟨⟨_, r1.cells⟩, by with_unfolding_all rfl, its_keys r1.cells ?_⟩⟩
  have e2 : ((cellsA loc H.cells).map fun p => AVal.int p.1) = (H.cells.map (·.1)).map AVal.int := by unfold cellsA; rw [List.map_map, List.map_map]; rfl
  rw [e2]
  have hiX : X.cells ≠ i := r1.off i _ (.inr ⟨rfl, rfl⟩) .cells rfl
  refine forLoop_has (Has.of rfl rfl) (fun us s => ∃ (ks done : List Int) (cs : List (Int × Int)) (vr : Nat), us = ks.map AVal.int ∧ Rep X loc H (F.add i ⟨vr, .idict (encN cs)⟩) s ∧ s.get X.cells = st1.get X.cells ∧ done ++ ks = H.cells.map (·.1) ∧ cs.length ≤ done.length ∧ ∀ n, getK n cs = if n ∈ done then some 0 else none) ⟨H.cells.map (·.1), [], [], 0, rfl, r1, rfl, rfl, Nat.le_refl _, fun n => rfl⟩ ?_ ?_
  · rintro u us env s hE ⟨ks, done, cs, vr, hu, r2, hs, hd, hl, hg⟩
    cases ks with
    | nil => cases hu
    | cons key ks =>
    rw [List.map_cons] at hu
    cases hu
    have hlen := congrArg List.length hd
    have hsz := h.sizeC
    rw [List.length_append, List.length_cons, List.length_map] at hlen
    refine ⟨by show (s.get _).ver = _; rw [hs]; rfl, ?_⟩
    walk_at "go"
    rename_i env1 hE1
    refine tmp_seti r2 hF1 (by unfold encN; rw [List.length_map]; omega) fun s3 r3 hk3 => ?_
    rw [putK_encN] at r3
    walk_at "go"
    refine ⟨hE1.pop (by with_unfolding_all rfl), ks, done ++ [key], _, _, rfl, r3, (hk3 _ hiX).trans hs, by rw [List.append_assoc]; exact hd, ?_, fun n => ?_⟩
    · have := length_putK_le (k := key) (v := (0 : Int)) (l := cs)
      rw [List.length_append, List.length_singleton]; omega
    · rw [getK_putK, hg n]
      by_cases q1 : n = key
      · rw [if_pos q1, if_pos (by rw [q1]; simp)]
      · rw [if_neg q1]
        by_cases q2 : n ∈ done
        · rw [if_pos q2, if_pos (by simp [q2])]
        · rw [if_neg q2, if_neg (by simp [q1, q2])]
  · rintro env s hE ⟨ks, done, cs, vr, hu, r2, hs, hd, hl, hg⟩
    cases ks with
    | cons => cases hu
    | nil =>
    rw [List.append_nil] at hd
    refine ⟨by show (s.get _).ver = _; rw [hs]; rfl, ?_⟩
    walk_at "go"
    refine st_for (by with_unfolding_all rfl) (src_call (by decide +kernel) (by rw [glob_has hE]; with_unfolding_all rfl) ?_)
    walk_at "go"
    refine ok_all_held r2 h.size h.sizeV fun j vj st3 r3 hF3 => ?_
    refine ⟨j, _, rfl, r3.top, by with_unfolding_all rfl, its_lst r3.top ?_⟩
    have r3 := r3.swap
    have hFi : ∀ o, ¬ (F.add j ⟨vj, .list (H.allHeld.map enc)⟩) i o := fun o h => h.elim (hF1 o) fun h => hF3 _ (.inr ⟨h.1.symm, rfl⟩)
    have hw : ∀ s : ASt, s.Ob j ⟨vj, .list (H.allHeld.map enc)⟩ → (Src.lst j).watch s = (Src.lst j).watch st3 := fun s hs => by
      show (s.get j).ver = (st3.get j).ver
      rw [hs.2, (r3.frame _ _ (.inl (.inr ⟨rfl, rfl⟩))).2]
    have hmem : ∀ n, n ∈ done ↔ (getK n H.cells).isSome = true := fun n => by
      rw [hd]
      constructor
      · intro hn
        obtain ⟨p, hp, rfl⟩ := List.mem_map.mp hn
        obtain ⟨c, hc⟩ := mem_getK hp
        rw [hc]; rfl
      · intro hn
        obtain ⟨c, hc⟩ := Option.isSome_iff_exists.mp hn
        exact List.mem_map.mpr ⟨_, getK_mem hc, rfl⟩
    have hl1 : done.length ≤ 1000000 := by rw [hd, List.length_map]; exact h.sizeC
    refine forLoop_has hE (fun us s => ∃ (done rest : List V) (cs : List (Int × Int)) (vr : Nat), us = rest.map enc ∧ Rep X loc H ((F.add j ⟨vj, .list (H.allHeld.map enc)⟩).add i ⟨vr, .idict (encN cs)⟩) s ∧ done ++ rest = H.allHeld ∧ cs.length ≤ 1000000 ∧ ∀ n, getK n cs = if (getK n H.cells).isSome = true then some ((cntV n done : Nat) : Int) else none) ⟨[], H.allHeld, cs, vr, rfl, r3, rfl, Nat.le_trans hl hl1, fun n => ?_⟩ ?_ ?_
    · rw [hg n]
      by_cases q1 : n ∈ done
      · rw [if_pos q1, if_pos ((hmem n).mp q1)]; rfl
      · rw [if_neg q1, if_neg (fun e => q1 ((hmem n).mpr e))]
    · rintro u us env s hE ⟨done2, rest, cs2, vr2, hu, r4, hd2, hl2, hg2⟩
      cases rest with
      | nil => cases hu
      | cons v rest =>
      rw [List.map_cons] at hu
      cases hu
      refine ⟨hw _ (r4.frame _ _ (.inl (.inr ⟨rfl, rfl⟩))), ?_⟩
      cases v with
      | int z =>
        walk_at "go"
        rename_i env1 hE1
        refine ⟨hE1.pop (by with_unfolding_all rfl), done2 ++ [.int z], rest, cs2, vr2, rfl, r4, by rw [List.append_assoc]; exact hd2, hl2, fun n => ?_⟩
        have e6 : cntV n (done2 ++ [.int z]) = cntV n done2 := by rw [cntV_snoc, if_neg (fun e : V.int z = V.cell n => by cases e)]; rfl
        rw [e6]; exact hg2 n
      | cell m =>
        have hlm : (getK m H.cells).isSome = true := h.live m (by rw [← hd2]; simp)
        have hcm : getK m cs2 = some ((cntV m done2 : Nat) : Int) := by rw [hg2 m, if_pos hlm]
        walk_at "go"
        rename_i env1 hE1
        refine cmp_notin r4.top ?_
        have hni : (!(getK m (encN cs2)).isSome) = false := by rw [getK_encN, hcm]; rfl
        walk_at "go"
        refine item_idict r4.top (by rw [getK_encN, hcm]; rfl) ?_
        walk_at "go"
        refine tmp_seti r4 hFi (by unfold encN; rw [List.length_map]; exact hl2) fun s5 r5 _ => ?_
        rw [putK_encN] at r5
        walk_at "go"
        refine ⟨hE1.pop (by with_unfolding_all rfl), done2 ++ [.cell m], rest, _, _, rfl, r5, by rw [List.append_assoc]; exact hd2, by rw [length_putK_some hcm]; exact hl2, fun n => ?_⟩
        rw [getK_putK]
        by_cases q1 : n = m
        · subst q1
          have e6 : cntV n (done2 ++ [.cell n]) = cntV n done2 + 1 := by rw [cntV_snoc, if_pos rfl]
          rw [if_pos rfl, if_pos hlm, e6]; rfl
        · have e6 : cntV n (done2 ++ [.cell m]) = cntV n done2 := by rw [cntV_snoc, if_neg (fun e : V.cell m = V.cell n => q1 (by cases e; rfl))]; rfl
          rw [if_neg q1, e6]; exact hg2 n
    · rintro env s hE ⟨done2, rest, cs2, vr2, hu, r4, hd2, hl2, hg2⟩
      cases rest with
      | cons => cases hu
      | nil =>
      rw [List.append_nil] at hd2
      subst hd2
      refine ⟨hw _ (r4.frame _ _ (.inl (.inr ⟨rfl, rfl⟩))), ?_⟩
      walk_at "go"
      refine st_for (by with_unfolding_all rfl) (src_name_d (id := i) (l := encN cs2) ?_)
      walk_at "go"
      refine ⟨rfl, r4.top, by with_unfolding_all rfl, its_keys r4.top ?_⟩
      have e5 : ((encN cs2).map fun p => AVal.int p.1) = cs2.map fun p => AVal.int p.1 := by unfold encN; rw [List.map_map]; rfl
      rw [e5]
      refine forLoop_has hE (fun us s2 => ∃ ps : List (Int × Int), us = (ps.map fun p => AVal.int p.1) ∧ s2 = s ∧ ∀ p ∈ ps, p ∈ cs2) ⟨cs2, rfl, rfl, fun _ h => h⟩ ?_ ?_
      · rintro u us env s2 hE ⟨ps, hu, rfl, hm⟩
        cases ps with
        | nil => cases hu
        | cons pk ps =>
        rw [List.map_cons] at hu
        cases hu
        obtain ⟨z, hz⟩ := mem_getK (hm pk (.head _))
        have hz2 := hg2 pk.1
        rw [hz] at hz2
        cases hc : getK pk.1 H.cells with
        | none => rw [hc] at hz2; cases hz2
        | some c =>
        rw [hc, if_pos (by rfl)] at hz2
        have hcc := h.right _ _ hc
        refine ⟨rfl, ?_⟩
        walk_at "go"
        rename_i env1 hE1
        refine item_idict r4.top (by rw [getK_encN, hz]; rfl) ?_
        refine cmp_ne aeq_int ?_
        have hcz : (!decide (c.count = z)) = false := by
          rw [decide_eq_true (by rw [hcc]; cases hz2; rfl)]; rfl
        walk_at "go"
        exact ⟨hE1.pop (by with_unfolding_all rfl), ps, rfl, rfl, fun p hp => hm p (.tail _ hp)⟩
      · rintro env s2 hE ⟨ps, hu, rfl, hm⟩
        refine ⟨rfl, ?_⟩
        walk_at "go"
        exact q _ r4.drop.drop
end
end
end Mine
namespace Mine
open PySem PySem.W PyProof.Rows
/-! ready-made steps -/
local macro_rules | `(tactic| walk_at "at") => `(tactic| first
  | assumption
  | exact Rep.root (by assumption)
  | exact Rep.cells (by assumption)
  | exact Rep.vars (by assumption)
  | exact Rep.log (by assumption)
  | exact Rep.buffer (by assumption)
  | exact Rep.tables (by assumption)
  | exact Rep.cell (by assumption) (by assumption)
  | exact Rep.slot (by assumption) (by assumption)
  | exact Rep.pl (by assumption) (by assumption)
  | exact Rep.top (by assumption)
  | exact Rep.top2 (by assumption)
  | exact RepW.root (by assumption)
  | exact RepW.cells (by assumption)
  | exact RepW.vars (by assumption)
  | exact RepW.log (by assumption)
  | exact RepW.tasks (by assumption)
  | exact RepW.hand (by assumption)
  | exact RepW.cell (by assumption) (by assumption)
  | exact RepW.slot (by assumption) (by assumption))
local macro_rules | `(tactic| walk_at "br") => `(tactic| first
  | with_reducible refine br_t (by first | assumption | with_unfolding_all rfl) ?_
  | with_reducible refine br_f (by first | assumption | with_unfolding_all rfl) ?_
  | with_reducible refine br_f' (by first | assumption | with_unfolding_all rfl) ?_
  | with_reducible refine br_t' (by first | assumption | with_unfolding_all rfl) ?_
  | with_reducible refine br_t (isSome_t (by assumption)) ?_
  | with_reducible refine br_f (isSome_f (by assumption)) ?_)
local macro_rules | `(tactic| walk_at "step") => `(tactic| first
  | with_reducible refine ev_name (by with_unfolding_all rfl) (by with_unfolding_all rfl) ?_
  | with_reducible refine ev_name (by with_unfolding_all rfl) (Has.get (by assumption) (by with_unfolding_all rfl) (by with_unfolding_all rfl)) ?_
  | with_reducible refine ev_const (by with_unfolding_all rfl) ?_
  | with_reducible refine ev_attr (by with_unfolding_all rfl) ?_
  | with_reducible refine ev_upto ?_
  | with_reducible refine ev_back ?_
  | with_reducible refine ev_sub (by with_unfolding_all rfl) ?_
  | with_reducible refine ev_call (by decide +kernel) (by with_unfolding_all rfl) ?_
  | with_reducible refine ev_callH (by assumption) (by decide +kernel) (by with_unfolding_all rfl) ?_
  | with_reducible refine ev_meth (by with_unfolding_all rfl) ?_
  | with_reducible refine ev_tuple (by with_unfolding_all rfl) ?_
  | with_reducible refine ev_dict0 ?_
  | with_reducible refine ev_list (by with_unfolding_all rfl) ?_
  | with_reducible refine ev_cmp (by with_unfolding_all rfl) ?_
  | with_reducible refine ev_if ?_
  | with_reducible refine ev_bin ?_
  | with_reducible refine ev_un ?_
  | with_reducible refine ev_bool ?_
  | with_reducible refine boolA_one ?_
  | with_reducible refine boolA_and ?_
  | with_reducible refine boolA_or ?_
  | with_reducible refine evs_nil ?_
  | with_reducible refine evs_cons ?_
  | with_reducible refine exs_nil ?_
  | with_reducible refine st_ret ?_
  | with_reducible refine st_ret0 ?_
  | with_reducible refine st_assign (by with_unfolding_all rfl) ?_
  | with_reducible refine st_expr (by with_unfolding_all rfl) ?_
  | with_reducible refine st_if ?_
  | with_reducible refine st_aug_attr ?_
  | with_reducible refine st_aug_sub (by with_unfolding_all rfl) ?_
  | with_reducible refine st_del ?_
  | with_reducible refine then_next ?_
  | with_reducible refine then_ret ?_
  | with_reducible refine as_name (by with_unfolding_all rfl) ?_
  | with_reducible refine as_nameH (by assumption) (by with_unfolding_all rfl) (fun env' hE => ?_)
  | with_reducible refine as_attr ?_
  | with_reducible refine as_sub ?_
  | with_reducible refine as_tup ?_
  | with_reducible refine bts_nil ?_
  | with_reducible refine bts_name (by with_unfolding_all rfl) ?_
  | with_reducible refine bts_nameH (by assumption) (by with_unfolding_all rfl) (fun env' hE => ?_)
  | with_reducible refine bts_attr ?_
  | with_reducible refine truth_b ?_
  | with_reducible refine attr_get (by with_unfolding_all rfl) (by walk_at "at") (by with_unfolding_all rfl) ?_
  | with_reducible refine item_v0 ?_
  | with_reducible refine item_v1c ?_
  | with_reducible refine item_v1 ?_
  | with_reducible refine item_cellsW (by assumption) (by assumption) ?_
  | with_reducible refine item_sdict (by walk_at "at") (by with_unfolding_all rfl) ?_
  | with_reducible refine item_list (by walk_at "at") (by decide) (by with_unfolding_all rfl) ?_
  | with_reducible refine item_tup (by decide) (by with_unfolding_all rfl) ?_
  | with_reducible refine item_m (by walk_at "at") (by assumption) ?_
  | with_reducible refine item_cells (by assumption) (by assumption) ?_
  | with_reducible refine get_cells_s (by assumption) (by assumption) ?_
  | with_reducible refine get_cells_n (by assumption) (by assumption) ?_
  | with_reducible refine get_m (by walk_at "at") ?_
  | with_reducible refine get_mv (by walk_at "at") ?_
  | with_reducible refine cmp_eq aeq_tagc ?_
  | with_reducible refine cmp_eq aeq_tagi ?_
  | with_reducible refine cmp_eq aeq_ref ?_
  | with_reducible refine cmp_eq aeq_object ?_
  | with_reducible refine cmp_eq aeq_int ?_
  | with_reducible refine cmp_ne aeq_ref ?_
  | with_reducible refine in_m (by walk_at "at") ?_
  | with_reducible refine cmp_gt ?_
  | with_reducible refine cmp_isnot_i ?_
  | with_reducible refine cmp_isnot_n ?_
  | with_reducible refine cmp_is_i ?_
  | with_reducible refine cmp_is_n ?_
  | with_reducible refine un_not ?_
  | with_reducible refine un_neg ?_
  | with_reducible refine aug_add ?_
  | with_reducible refine aug_sub ?_
  | with_reducible refine bin_add ?_
  | with_reducible refine bin_sub ?_
  | with_reducible refine meth_l (by walk_at "at") ?_
  | with_reducible refine meth_i (by walk_at "at") ?_
  | walk_at "br"
  | walk_at "call")
local macro_rules | `(tactic| walk_at "call") => `(tactic| fail)
local macro_rules | `(tactic| walk_at "init") => `(tactic| (refine call_init (by rfl) (by rfl) ⟨by rfl, by rfl⟩ ?_; dsimp only [List.map, List.zip, List.zipWith]))
local macro_rules | `(tactic| walk_at "fn") => `(tactic| (refine call_f (by rfl) (by decide +kernel) ⟨by rfl, by rfl⟩ ?_; dsimp only [List.map, List.zip, List.zipWith]))
local macro_rules | `(tactic| walk_at "go") => `(tactic| repeat walk_at "step")

/-! P19 -/
section
set_option maxRecDepth 100000
set_option autoImplicit false
set_option maxHeartbeats 1000000

theorem PlanAt.mono {F F' : Frm} {i : Nat} {P : List (Int × List D)} (h : PlanAt F i P) (hs : ∀ i o, F i o → F' i o) : PlanAt F' i P := by
  obtain ⟨vp, l, h1, h2⟩ := h
  exact ⟨vp, l, hs _ _ h1, fun k => ⟨(h2 k).1, fun ds e => let ⟨j, v, a, b⟩ := (h2 k).2 ds e; ⟨j, v, a, hs _ _ b⟩⟩⟩

/-- the two heaps side by side -/
structure Both (X : HIds) (loc : Loc) (H : HS) (Y : WIds) (locw : Loc) (W : WS) (F : Frm) (st : ASt) : Prop where
  h : Rep X loc H F st
  w : RepW Y locw W F st
  apart : ∀ t t', (content X loc H t).isSome → (contentW Y locw W t').isSome → t.id X loc ≠ t'.id Y locw
def frmW (Y : WIds) (locw : Loc) (W : WS) (st : ASt) : Frm := fun i o => (∃ t, (contentW Y locw W t).isSome ∧ t.id Y locw = i) ∧ o = st.get i
def frmH (X : HIds) (loc : Loc) (H : HS) (st : ASt) : Frm := fun i o => (∃ t, (content X loc H t).isSome ∧ t.id X loc = i) ∧ o = st.get i

section
variable {X : HIds} {loc loc' : Loc} {H H' : HS} {Y : WIds} {locw locw' : Loc} {W W' : WS} {F : Frm} {st st' : ASt}
theorem Both.frameH (b : Both X loc H Y locw W F st) : Rep X loc H (fun i o => F i o ∨ frmW Y locw W st i o) st := by
  refine ⟨b.h.dat, b.h.inj, fun i o h => ?_, fun i o h t ht => ?_⟩
  · rcases h with h | ⟨⟨t, ht, rfl⟩, rfl⟩
    · exact b.h.frame i o h
    · obtain ⟨d, hd⟩ := Option.isSome_iff_exists.mp ht
      exact ⟨(b.w.dat t d hd).1, rfl⟩
  · rcases h with h | ⟨⟨t', ht', rfl⟩, rfl⟩
    · exact b.h.off i o h t ht
    · exact b.apart t t' ht ht'
theorem Both.backH (b : Both X loc H Y locw W F st) (r : Rep X loc' H' (fun i o => F i o ∨ frmW Y locw W st i o) st') : Both X loc' H' Y locw W F st' := by
  have ob : ∀ t, (contentW Y locw W t).isSome → st'.Ob (t.id Y locw) (st.get (t.id Y locw)) := fun t ht => r.frame _ _ (.inr ⟨⟨t, ht, rfl⟩, rfl⟩)
  refine ⟨r.mono fun _ _ h => .inl h, ⟨fun t d hd => ?_, b.w.inj, fun i o h => r.frame i o (.inl h), b.w.off⟩, fun t t' ht ht' => r.off _ _ (.inr ⟨⟨t', ht', rfl⟩, rfl⟩) t ht⟩
  have := ob t (by rw [hd]; rfl)
  exact ⟨this.1, by rw [this.2]; exact (b.w.dat t d hd).2⟩
theorem Both.frameW (b : Both X loc H Y locw W F st) : RepW Y locw W (fun i o => F i o ∨ frmH X loc H st i o) st := by
  refine ⟨b.w.dat, b.w.inj, fun i o h => ?_, fun i o h t ht => ?_⟩
  · rcases h with h | ⟨⟨t, ht, rfl⟩, rfl⟩
    · exact b.w.frame i o h
    · obtain ⟨d, hd⟩ := Option.isSome_iff_exists.mp ht
      exact ⟨(b.h.dat t d hd).1, rfl⟩
  · rcases h with h | ⟨⟨t', ht', rfl⟩, rfl⟩
    · exact b.w.off i o h t ht
    · exact fun e => b.apart t' t ht' ht e.symm
theorem Both.backW (b : Both X loc H Y locw W F st) (r : RepW Y locw' W' (fun i o => F i o ∨ frmH X loc H st i o) st') : Both X loc H Y locw' W' F st' := by
  have ob : ∀ t, (content X loc H t).isSome → st'.Ob (t.id X loc) (st.get (t.id X loc)) := fun t ht => r.frame _ _ (.inr ⟨⟨t, ht, rfl⟩, rfl⟩)
  refine ⟨⟨fun t d hd => ?_, b.h.inj, fun i o h => r.frame i o (.inl h), b.h.off⟩, r.mono fun _ _ h => .inl h, fun t t' ht ht' e => r.off _ _ (.inr ⟨⟨t, ht, rfl⟩, rfl⟩) t' ht' e.symm⟩
  have := ob t (by rw [hd]; rfl)
  exact ⟨this.1, by rw [this.2]; exact (b.h.dat t d hd).2⟩
theorem Both.drop {i : Nat} {o : AObj} (b : Both X loc H Y locw W (F.add i o) st) : Both X loc H Y locw W F st := ⟨b.h.drop, b.w.mono fun _ _ h => .inl h, b.apart⟩
theorem wp_newB {Q : Nat → ASt → Prop} {d : AData} (b : Both X loc H Y locw W F st) (q : ∀ id st', Both X loc H Y locw W (F.add id ⟨0, d⟩) st' → (∀ o, ¬ F id o) → (∀ j, j ≠ id → st'.get j = st.get j) → Q id st') : wp (newD d) st Q :=
  wp_newD (q _ _ ⟨b.h.new, b.w.new, b.apart⟩ (fun o h => Nat.lt_irrefl _ (b.h.frame _ o h).1) fun _ hj => if_neg hj)

variable {wh : ((AEnv × ASt) → Option (Sum (AEnv × ASt) ((Out × AEnv) × ASt))) → AEnv × ASt → Option ((Out × AEnv) × ASt)} {n m : Nat} {d : D} {P : List (Int × List D)} {Q : AVal → ASt → Prop}
theorem both_do_deed (hw : WhOK wh) (b : Both X loc H Y locw W F st) (hP : PlanAt F X.plan P) (h : HRuns P m H [.deed d] H') (q : ∀ loc' st', Both X loc' H' Y locw W F st' → Q .none st') : wp ((R wh (n + 47)).call "do_deed" [.inst "Counted" X.root, encD d]) st Q :=
  ok_do_deed hw b.frameH (hP.mono fun _ _ h => .inl h) h fun loc' st' r => q _ _ (b.backH r)
theorem both_done (hw : WhOK wh) (b : Both X loc H Y locw W F st) (hP : PlanAt F X.plan P) (hz : W.tasks.length ≤ 100000) (h : WRuns P m { W with tasks := .deed d :: W.tasks } W') (q : ∀ loc' st', Both X loc H Y loc' W' F st' → Q .none st') : wp ((R wh (n + 46)).call "_law_done" [.obj Y.root, encD d, .obj X.plan]) st Q :=
  ok_w_done hw b.frameW (hP.mono fun _ _ h => .inl h) hz h fun loc' st' r => q _ _ (b.backW r)
theorem both_counts (b : Both X loc H Y locw W F st) (h : CountsOK H) (q : ∀ st', Both X loc H Y locw W F st' → Q (.bool true) st') : wp ((R wh (n + 14)).call "counts_right" [.inst "Counted" X.root]) st Q :=
  ok_counts_right b.frameH h fun st' r => q _ (b.backH r)
end

/-! equal data -/
mutual
theorem eqv_refl : ∀ d : PyData, d.canLay0 = true → PyData.eqv d d = true
  | .none, _ => by simp only [PyData.eqv]
  | .bool b, _ => by simp only [PyData.eqv]; cases b <;> rfl
  | .int i, _ => by simp only [PyData.eqv]; simp
  | .str s, _ => by rw [str_beq]; simp
  | .list xs, h => by simp only [PyData.eqv]; exact eqvAll_refl xs (by simpa only [PyData.canLay0] using h)
  | .tuple xs, h => by simp only [PyData.eqv]; exact eqvAll_refl xs (by simpa only [PyData.canLay0] using h)
  | .dict _, h => by simp [PyData.canLay0] at h
theorem eqvAll_refl : ∀ l : List PyData, PyData.canLayAll0 l = true → PyData.eqvAll l l = true
  | [], _ => by simp only [PyData.eqvAll]
  | x :: xs, h => by
    simp only [PyData.canLayAll0, Bool.and_eq_true] at h
    simp only [PyData.eqvAll, eqv_refl x h.1, eqvAll_refl xs h.2]; rfl
end
def Good (st : ASt) (n : Nat) (x : AVal) : Prop := ∃ d, dataOf st n x = some d ∧ d.canLay0 = true
section
variable {st : ASt} {n : Nat}
theorem Good.all : ∀ {l : List AVal}, (∀ x ∈ l, Good st n x) → ∃ ds, l.mapM (dataOf st n) = some ds ∧ PyData.canLayAll0 ds = true
  | [], _ => ⟨[], rfl, by simp only [PyData.canLayAll0]⟩
  | x :: l, h => by
    obtain ⟨d, h1, h2⟩ := h x (.head _)
    obtain ⟨ds, h3, h4⟩ := Good.all (l := l) fun y hy => h y (.tail _ hy)
    refine ⟨d :: ds, by rw [List.mapM_cons, h1, h3]; rfl, ?_⟩
    simp only [PyData.canLayAll0, h2, h4]; rfl
theorem Good.tup {l : List AVal} (h : ∀ x ∈ l, Good st n x) : Good st (n + 1) (.tup l) := by
  obtain ⟨ds, h1, h2⟩ := Good.all h
  exact ⟨.tuple ds, by show (l.mapM (dataOf st n)).map PyData.tuple = _; rw [h1]; rfl, by simpa only [PyData.canLay0] using h2⟩
theorem Good.str {s : Str} (h : PyData.strOk s = true) : Good st n (.str s) := ⟨.str s, by cases n <;> rfl, by simpa only [PyData.canLay0] using h⟩
theorem Good.int {i : Int} : Good st n (.int i) := ⟨.int i, by cases n <;> rfl, by simp only [PyData.canLay0]⟩
theorem Good.enc {v : V} : Good st (n + 2) (enc v) := ⟨v.dat, dataOf_enc n v, v.dat_ok⟩
theorem Good.encL {l : L} : Good st (n + 2) (encL l) := by
  cases l <;> refine Good.tup (n := n + 1) fun x hx => ?_
  · simp only [List.mem_cons, List.not_mem_nil, or_false] at hx
    rcases hx with rfl | rfl | rfl
    · exact Good.str (by decide +kernel)
    · exact Good.int
    · exact Good.int
  · simp only [List.mem_cons, List.not_mem_nil, or_false] at hx
    rcases hx with rfl | rfl
    · exact Good.str (by decide +kernel)
    · exact Good.int
  · simp only [List.mem_cons, List.not_mem_nil, or_false] at hx
    rcases hx with rfl | rfl
    · exact Good.str (by decide +kernel)
    · exact Good.int
theorem Good.item {k : Int} {v : V} : Good st (n + 3) (.tup [.int k, Mine.enc v]) := Good.tup fun x hx => by
  simp only [List.mem_cons, List.not_mem_nil, or_false] at hx
  rcases hx with rfl | rfl
  · exact Good.int
  · exact Good.enc
theorem dataOf_obj {i : Nat} {l : List AVal} (h : st.At i (.list l)) : dataOf st (n + 1) (.obj i) = (l.mapM (dataOf st n)).map .list := by
  obtain ⟨v, hv⟩ := obj_of h
  show (match st.obj? i with | some ⟨_, .list l⟩ => (l.mapM (dataOf st n)).map PyData.list | _ => none) = _
  rw [hv]
theorem aeq_of {a b : AVal} {d : PyData} (h1 : dataOf st 8 a = some d) (h2 : dataOf st 8 b = some d) (h : d.canLay0 = true) : aeq a b st = some (true, st) := by
  unfold aeq
  rw [h1, h2]
  show (if d.canLay0 && d.canLay0 then some (PyData.eqv d d, st) else none) = _
  rw [h, eqv_refl d h]; rfl
theorem aeq_same {i j : Nat} {l : List AVal} (hi : st.At i (.list l)) (hj : st.At j (.list l)) (hg : ∀ x ∈ l, Good st 7 x) : aeq (.obj i) (.obj j) st = some (true, st) := by
  obtain ⟨ds, h1, h2⟩ := Good.all hg
  exact aeq_of (d := .list ds) (by rw [dataOf_obj hi, h1]; rfl) (by rw [dataOf_obj hj, h1]; rfl) (by simpa only [PyData.canLay0] using h2)
theorem aeq_pair {i j : Nat} {s : Str} {l : List AVal} (hs : PyData.strOk s = true) (hi : st.At i (.list l)) (hj : st.At j (.list l)) (hg : ∀ x ∈ l, Good st 6 x) : aeq (.tup [.str s, .obj i]) (.tup [.str s, .obj j]) st = some (true, st) := by
  obtain ⟨ds, h1, h2⟩ := Good.all hg
  refine aeq_of (d := .tuple [.str s, .list ds]) ?_ ?_ (by simp only [PyData.canLay0, PyData.canLayAll0, hs, h2]; rfl)
  · show (List.mapM (dataOf st 7) [AVal.str s, AVal.obj i]).map PyData.tuple = _
    rw [List.mapM_cons, List.mapM_cons, dataOf_obj (n := 6) hi, h1]; rfl
  · show (List.mapM (dataOf st 7) [AVal.str s, AVal.obj j]).map PyData.tuple = _
    rw [List.mapM_cons, List.mapM_cons, dataOf_obj (n := 6) hj, h1]; rfl
theorem aeq_bool {a b : Bool} : aeq (.bool a) (.bool b) st = some (decide (a = b), st) := by
  show some (PyData.eqv (.bool a) (.bool b), st) = _
  rw [PyData.eqv]; cases a <;> cases b <;> rfl
end

def HS.bufd (H : HS) (k : Int) : Bool := match getK k H.cells with
  | some c => c.buf
  | none => false
structure SameOK (H : HS) (W : WS) : Prop where
  counts : CountsOK H
  log : H.log = W.log
  last : H.last = W.last
  vars : H.vars = W.vars
  keys : H.cells.map (·.1) = W.cells.map (·.1)
  cells : ∀ n c, getK n H.cells = some c → ∃ w, getK n W.cells = some w ∧ c.sort = w.sort ∧ c.slots = w.slots ∧ (c.hasD && !c.isD) = w.due ∧ c.slots.length ≤ 1000000
  buf : sortI H.buffer = (H.cells.map (·.1)).filter H.bufd
  bufz : H.buffer.length < 64

section
variable {X : HIds} {loc loc' : Loc} {H H' : HS} {Y : WIds} {locw locw' : Loc} {W W' : WS} {F : Frm} {st st' : ASt} {wh : ((AEnv × ASt) → Option (Sum (AEnv × ASt) ((Out × AEnv) × ASt))) → AEnv × ASt → Option ((Out × AEnv) × ASt)} {n : Nat} {Q : AVal → ASt → Prop}

theorem mapM_asInt : ∀ l : List Int, (l.map AVal.int).mapM asInt = some l
  | [] => rfl
  | a :: l => by rw [List.map_cons, List.mapM_cons, mapM_asInt l]; rfl
theorem builtin_sorted {id : Nat} {l : List Int} (hl : st.At id (.list (l.map AVal.int))) (hz : l.length < 64) (k : wp (newD (.list ((sortI l).map AVal.int))) st fun i st' => Q (.obj i) st') : wp (builtinA "sorted" (.obj id)) st Q := by
  refine wp_false (by decide +kernel) (wp_false (by decide +kernel) (wp_true (by decide +kernel) (wp_bind (wp_getD hl ?_))))
  refine wp_bind (wp_opt (mapM_asInt l) (wp_true (by rw [List.length_map]; exact hz) (wp_bind (wp_mono k fun _ _ q => wp_pure q))))

local macro_rules | `(tactic| walk_at "call") => `(tactic| first
  | with_reducible refine cmp_eq (aeq_lit (by decide +kernel) (by decide +kernel) (by with_unfolding_all rfl)) ?_)

theorem ok_is_same (b0 : Both X loc H Y locw W F st) (h : SameOK H W) (q : ∀ st', Both X loc H Y locw W F st' → Q (.bool true) st') : wp ((R wh (n + 24)).call "_law_is_same" [.inst "Counted" X.root, .obj Y.root]) st Q := by
  have r0 := b0.h
  have w0 := b0.w
  walk_at "fn"
  walk_at "go"
  refine cmp_ne (aeq_same r0.log (by rw [h.log]; exact w0.log) fun x hx => ?_) ?_
  · obtain ⟨l, _, rfl⟩ := List.mem_map.mp hx; exact Good.encL
  walk_at "go"
  refine cmp_ne aeq_int ?_
  have hlast : (!decide (H.last = W.last)) = false := by rw [decide_eq_true h.last]; rfl
  walk_at "go"
  refine ev_list_call (by with_unfolding_all rfl) (by with_unfolding_all rfl) (by with_unfolding_all rfl) (src_items (by with_unfolding_all rfl) (by with_unfolding_all rfl) ?_)
  walk_at "go"
  refine ⟨X.vars, _, rfl, r0.vars, by with_unfolding_all rfl, its_items r0.vars ⟨by rw [List.length_map, len_encM]; exact h.counts.sizeV, ?_⟩⟩
  refine wp_newB b0 fun i1 st1 b1 hF1 _ => ?_
  have r1 := b1.h
  have w1 := b1.w
  walk_at "go"
  refine ev_list_call (by with_unfolding_all rfl) (by with_unfolding_all rfl) (by with_unfolding_all rfl) (src_items (by with_unfolding_all rfl) (by with_unfolding_all rfl) ?_)
  walk_at "go"
  refine ⟨Y.vars, _, rfl, w1.vars, by with_unfolding_all rfl, its_items w1.vars ⟨by rw [List.length_map, len_encM, ← h.vars]; exact h.counts.sizeV, ?_⟩⟩
  refine wp_newB b1 fun i2 st2 b2 hF2 _ => ?_
  have r2 := b2.h
  have w2 := b2.w
  refine cmp_ne (aeq_same r2.top2 (by rw [h.vars]; exact r2.top) fun x hx => ?_) ?_
  · obtain ⟨p, hp, rfl⟩ := List.mem_map.mp hx
    obtain ⟨p', _, rfl⟩ := List.mem_map.mp hp
    exact Good.item
  have b2 := b2.drop.drop
  have r2 := b2.h
  have w2 := b2.w
  walk_at "go"
  have ek1 : ∀ loc (l : List (Int × C)), ((cellsA loc l).map fun p => AVal.int p.1) = (l.map (·.1)).map AVal.int := fun loc l => by unfold cellsA; rw [List.map_map, List.map_map]; rfl
  have ek2 : ∀ loc (l : List (Int × WC)), ((objsW loc l).map fun p => AVal.int p.1) = (l.map (·.1)).map AVal.int := fun loc l => by unfold objsW; rw [List.map_map, List.map_map]; rfl
  refine ev_list_call (by with_unfolding_all rfl) (by with_unfolding_all rfl) (by with_unfolding_all rfl) (src_attr (id := X.cells) ?_)
  walk_at "go"
  refine ⟨rfl, .inr ⟨⟨_, r2.cells⟩, by with_unfolding_all rfl, its_keys r2.cells ?_⟩⟩
  rw [ek1]
  refine ⟨by rw [List.length_map, List.length_map]; exact h.counts.sizeC, ?_⟩
  refine wp_newB b2 fun i3 st3 b3 hF3 _ => ?_
  have r3 := b3.h
  have w3 := b3.w
  walk_at "go"
  refine ev_list_call (by with_unfolding_all rfl) (by with_unfolding_all rfl) (by with_unfolding_all rfl) (src_sub ?_)
  walk_at "go"
  refine ⟨Y.cells, rfl, .inr ⟨⟨_, w3.cells⟩, by with_unfolding_all rfl, its_keys w3.cells ?_⟩⟩
  rw [ek2, ← h.keys]
  refine ⟨by rw [List.length_map, List.length_map]; exact h.counts.sizeC, ?_⟩
  refine wp_newB b3 fun i4 st4 b4 hF4 _ => ?_
  refine cmp_ne (aeq_same b4.h.top2 b4.h.top fun x hx => ?_) ?_
  · obtain ⟨p, hp, rfl⟩ := List.mem_map.mp hx
    exact Good.int
  have b4 := b4.drop.drop
  have r4 := b4.h
  have w4 := b4.w
  walk_at "go"
  refine both_counts b4 h.counts fun st5 b5 => ?_
  have r5 := b5.h
  have w5 := b5.w
  walk_at "go"
  refine st_for (by with_unfolding_all rfl) (src_attr (id := X.cells) ?_)
  walk_at "go"
  refine ⟨rfl, .inr ⟨⟨_, r5.cells⟩, by with_unfolding_all rfl, its_keys r5.cells ?_⟩⟩
  rw [ek1]
  refine forLoop_has (Has.of rfl rfl) (fun us s => ∃ (ks : List Int), us = ks.map AVal.int ∧ Both X loc H Y locw W F s ∧ s.get X.cells = st5.get X.cells ∧ ∀ k ∈ ks, (getK k H.cells).isSome = true) ⟨H.cells.map (·.1), rfl, b5, rfl, fun k hk => ?_⟩ ?_ ?_
  · obtain ⟨p, hp, rfl⟩ := List.mem_map.mp hk
    obtain ⟨c, hc⟩ := mem_getK hp
    rw [hc]; rfl
  · rintro u us env s hE ⟨ks, hu, b6, hs, hm⟩
    cases ks with
    | nil => cases hu
    | cons key ks =>
    rw [List.map_cons] at hu
    cases hu
    obtain ⟨c, hc⟩ := Option.isSome_iff_exists.mp (hm key (.head _))
    obtain ⟨wc, hwc, hsort, hslots, hdue, hlen⟩ := h.cells key c hc
    refine ⟨by show (s.get _).ver = _; rw [hs]; rfl, ?_⟩
    have r6 := b6.h
    have w6 := b6.w
    walk_at "go"
    rename_i env1 hE1 env2 hE2 env3 hE3
    refine ev_list_call (by with_unfolding_all rfl) (by rw [glob_has hE3]; with_unfolding_all rfl) (by with_unfolding_all rfl) (src_items (by with_unfolding_all rfl) (by with_unfolding_all rfl) ?_)
    walk_at "go"
    refine ⟨loc.slot key, _, rfl, r6.slot hc, by with_unfolding_all rfl, its_items (r6.slot hc) ⟨by rw [List.length_map, len_encM]; exact hlen, ?_⟩⟩
    refine wp_newB b6 fun i7 s7 b7 hF7 hs7 => ?_
    have r7 := b7.h
    have w7 := b7.w
    walk_at "go"
    refine ev_list_call (by with_unfolding_all rfl) (by rw [glob_has hE3]; with_unfolding_all rfl) (by with_unfolding_all rfl) (src_items (by with_unfolding_all rfl) (by with_unfolding_all rfl) ?_)
    walk_at "go"
    refine ⟨locw.slot key, _, rfl, w7.slot hwc, by with_unfolding_all rfl, its_items (w7.slot hwc) ⟨by rw [List.length_map, len_encM, ← hslots]; exact hlen, ?_⟩⟩
    refine wp_newB b7 fun i8 s8 b8 hF8 hs8 => ?_
    have hX7 : X.cells ≠ i7 := b7.h.off i7 _ (.inr ⟨rfl, rfl⟩) .cells rfl
    have hX8 : X.cells ≠ i8 := b8.h.off i8 _ (.inr ⟨rfl, rfl⟩) .cells rfl
    walk_at "go"
    rw [← hsort]
    refine cmp_ne (aeq_pair (encK_ok _) b8.h.top2 (by rw [hslots]; exact b8.h.top) fun x hx => ?_) ?_
    · obtain ⟨p, hp, rfl⟩ := List.mem_map.mp hx
      obtain ⟨p', _, rfl⟩ := List.mem_map.mp hp
      exact Good.item
    have b9 := b8.drop.drop
    have r9 := b9.h
    have w9 := b9.w
    have hs9 : s8.get X.cells = st5.get X.cells := (hs8 _ hX8).trans ((hs7 _ hX7).trans hs)
    walk_at "go"
    cases hD : c.hasD with
    | false =>
      have hD' : wc.due = false := by rw [← hdue, hD]; rfl
      walk_at "go"
      refine cmp_ne aeq_bool ?_
      have hq : (!decide (false = wc.due)) = false := by rw [hD']; rfl
      walk_at "go"
      exact ⟨((hE3.pop (by with_unfolding_all rfl)).pop (by with_unfolding_all rfl)).pop (by with_unfolding_all rfl), ks, rfl, b9, hs9, fun k hk => hm k (.tail _ hk)⟩
    | true =>
      have hD' : wc.due = !c.isD := by rw [← hdue, hD]; rfl
      walk_at "go"
      refine cmp_ne aeq_bool ?_
      have hq : (!decide ((!c.isD) = wc.due)) = false := by rw [hD']; simp
      walk_at "go"
      exact ⟨((hE3.pop (by with_unfolding_all rfl)).pop (by with_unfolding_all rfl)).pop (by with_unfolding_all rfl), ks, rfl, b9, hs9, fun k hk => hm k (.tail _ hk)⟩
  · rintro env s hE ⟨ks, hu, b6, hs, hm⟩
    refine ⟨by show (s.get _).ver = _; rw [hs]; rfl, ?_⟩
    have r6 := b6.h
    have w6 := b6.w
    walk_at "go"
    refine ev_comp (by rw [hE.1]; with_unfolding_all rfl) (src_attr (id := X.cells) ?_)
    walk_at "go"
    refine ⟨rfl, .inr ⟨⟨_, r6.cells⟩, by with_unfolding_all rfl, its_keys r6.cells ?_⟩⟩
    rw [ek1]
    refine ⟨by rw [List.length_map, List.length_map]; exact h.counts.sizeC, ?_⟩
    refine compLoop_has (hE.comp _) (fun x => match x with | .int k => if H.bufd k = true then some (.int k) else none | _ => none) rfl (fun x hx env hE => ?_) ?_
    · obtain ⟨k, hk, rfl⟩ := List.mem_map.mp hx
      obtain ⟨p, hp, rfl⟩ := List.mem_map.mp hk
      obtain ⟨c, hc⟩ := mem_getK hp
      have hb : H.bufd p.1 = c.buf := by unfold HS.bufd; rw [hc]
      walk_at "go"
      rename_i env1 hE1
      refine ⟨rfl, hE1.pop (by with_unfolding_all rfl), tests_one ?_⟩
      walk_at "go"
      refine ⟨rfl, fun e => ?_, fun e => ?_⟩
      · walk_at "go"
        refine ⟨rfl, ?_⟩
        show (if H.bufd p.1 = true then _ else _) = _
        rw [hb, e]; rfl
      · show (if H.bufd p.1 = true then _ else _) = _
        rw [hb, e]; rfl
    have e1 : (((H.cells.map (·.1)).map AVal.int).filterMap fun x => match x with | .int k => if H.bufd k = true then some (AVal.int k) else none | _ => none) = ((H.cells.map (·.1)).filter H.bufd).map AVal.int := by
      generalize H.cells.map (·.1) = l
      induction l with
      | nil => rfl
      | cons a l ih =>
        rw [List.map_cons, List.filter_cons]
        by_cases e : H.bufd a = true
        · rw [if_pos e, List.map_cons, List.filterMap_cons_some (b := .int a) (by show (if H.bufd a = true then some (AVal.int a) else none) = _; rw [if_pos e]), ih]
        · rw [if_neg e, List.filterMap_cons_none (by show (if H.bufd a = true then some (AVal.int a) else none) = _; rw [if_neg e]), ih]
    rw [e1, ← h.buf]
    refine wp_newB b6 fun i7 s7 b7 hF7 hs7 => ?_
    have r7 := b7.h
    walk_at "go"
    rename_i env1 hE1
    refine ev_builtin (by decide +kernel) (by rw [glob_has hE1]; with_unfolding_all rfl) ?_
    walk_at "go"
    refine builtin_sorted r7.buffer h.bufz ?_
    refine wp_newB b7 fun i8 s8 b8 hF8 hs8 => ?_
    walk_at "go"
    refine cmp_eq (aeq_same b8.h.top b8.h.top2 fun x hx => ?_) ?_
    · obtain ⟨p, hp, rfl⟩ := List.mem_map.mp hx
      exact Good.int
    exact q _ b8.drop.drop
end
end
/-! P20 -/
section
set_option maxRecDepth 100000
set_option autoImplicit false
set_option maxHeartbeats 2000000

def D.vs : D → List Int
  | .setInt x _ => [x]
  | .newArray x => [x]
  | .newObject x _ => [x]
  | .assign x y => [x, y]
  | .put x _ y => [x, y]
  | .take x y _ => [x, y]
  | .makeRef x y => [x, y]
  | .putRef x _ y => [x, y]
  | .unset x => [x]
  | .unsetAt x _ => [x]
def D.ks : D → List Int
  | .put _ k _ => [k]
  | .take _ _ k => [k]
  | .putRef _ k _ => [k]
  | .unsetAt _ k => [k]
  | _ => []
structure GoodD (m : Int) (d : D) : Prop where
  vs : ∀ x ∈ d.vs, 0 ≤ x ∨ x = -m
  ks : ∀ k ∈ d.ks, 0 ≤ k ∧ k ≤ 2

section
variable {st : ASt} {Q : AVal → ASt → Prop} {B : Bool → ASt → Prop}
theorem bin_mod {i j : Int} (hj : j ≠ 0) (q : Q (.int (Int.fmod i j)) st) : wp (bin .Mod (.int i) (.int j)) st Q := wp_false hj (wp_pure q)
theorem bin_fdiv {i j : Int} (hj : j ≠ 0) (hs : j.natAbs < 1073741824) (q : Q (.int (Int.fdiv i j)) st) : wp (bin .FloorDiv (.int i) (.int j)) st Q :=
  wp_false (fun h => h.elim hj fun h => by rw [PyProof.noPylong_small hs] at h; cases h) (wp_pure q)
theorem cmp_in_ints {a b c : Int} (q : B (decide (a = c) || decide (b = c)) st) : wp (cmp .In (.int c) (.tup [.int a, .int b])) st B := by
  refine wp_of (a := decide (a = c) || decide (b = c)) (st' := st) ?_ q
  show (if PyData.canLayAll0 [.int a, .int b] && (PyData.int c).canLay0 then some ([PyData.int a, .int b].any fun y => PyData.eqv y (.int c), st) else none) = _
  have e : (PyData.canLayAll0 [.int a, .int b] && (PyData.int c).canLay0) = true := by simp only [PyData.canLayAll0, PyData.canLay0]; rfl
  rw [e]
  simp only [List.any_cons, List.any_nil, int_beq, Bool.or_false]
  rfl
theorem cmp_isnot_int {i : Int} (q : B true st) : wp (cmp .IsNot (.int i) .none) st B := wp_pure q
theorem leafD {m : Int} (q : ∀ d, GoodD m d → Q (encD d) st) (d : D) (h : GoodD m d) : Q (encD d) st := q d h
end

theorem fmod4 (x : Int) : 0 ≤ Int.fmod x 4 := Int.fmod_nonneg_of_pos x (by decide)
theorem fmod3 (x : Int) : 0 ≤ Int.fmod x 3 ∧ Int.fmod x 3 ≤ 2 := ⟨Int.fmod_nonneg_of_pos x (by decide), by have := Int.fmod_lt_of_pos x (b := 3) (by decide); omega⟩
theorem good1 {m a : Int} (ha : 0 ≤ a) : ∀ x ∈ [a], 0 ≤ x ∨ x = -m := fun x hx => by
  rw [List.mem_singleton] at hx; subst hx; exact .inl ha
theorem good2 {m a b : Int} (ha : 0 ≤ a) (hb : 0 ≤ b ∨ b = -m) : ∀ x ∈ [a, b], 0 ≤ x ∨ x = -m := fun x hx => by
  simp only [List.mem_cons, List.not_mem_nil, or_false] at hx
  rcases hx with rfl | rfl
  · exact .inl ha
  · exact hb
theorem goodk0 : ∀ k ∈ ([] : List Int), 0 ≤ k ∧ k ≤ 2 := fun _ h => by cases h
theorem goodk1 {a : Int} (h : 0 ≤ a ∧ a ≤ 2) : ∀ k ∈ [a], 0 ≤ k ∧ k ≤ 2 := fun k hk => by
  rw [List.mem_singleton] at hk; subst hk; exact h

section
variable {st : ASt} {wh : ((AEnv × ASt) → Option (Sum (AEnv × ASt) ((Out × AEnv) × ASt))) → AEnv × ASt → Option ((Out × AEnv) × ASt)} {n : Nat} {Q : AVal → ASt → Prop}

local macro_rules | `(tactic| walk_at "call") => `(tactic| first
  | with_reducible refine bin_mod (by decide) ?_
  | with_reducible refine bin_fdiv (by decide) (by decide) ?_
  | with_reducible refine cmp_in_ints ?_
  | with_reducible refine cmp_isnot_int ?_)
local macro_rules | `(tactic| walk_at "gd") => `(tactic| first
  | exact ⟨good1 (by assumption), goodk0⟩
  | exact ⟨good1 (by assumption), goodk1 (by assumption)⟩
  | exact ⟨good2 (by assumption) (by assumption), goodk0⟩
  | exact ⟨good2 (by assumption) (by assumption), goodk1 (by assumption)⟩)

def deedRest : List Stmt := ((fnOfTab "_law_deed").map fun d => d.body.drop 2).getD []
def deedScope : Scope := ((fnOfTab "_law_deed").map fun d => d.scope).getD default
theorem exs_app {r : Rec} {rest : List Stmt} {P : Out × AEnv → ASt → Prop} : ∀ {l : List Stmt} {env : AEnv} {st : ASt}, wp (exs r l env) st (fun x st' => match x.1 with | .next => wp (exs r rest x.2) st' P | .ret v => P (.ret v, x.2) st') → wp (exs r (l ++ rest) env) st P
  | [], env, st, k => by
    obtain ⟨a, st', e, q⟩ := k
    have e : some ((Out.next, env), st) = some (a, st') := e
    cases e; exact q
  | s :: l, env, st, k => by
    obtain ⟨a, st', e, q⟩ := k
    have e : (r.ex s env st >>= fun x => (match x.1 with | (.next, env') => exs r l env' | x => pure x : M (Out × AEnv)) x.2) = some (a, st') := e
    cases h : r.ex s env st with
    | none => rw [h] at e; cases e
    | some y =>
      obtain ⟨⟨o, env'⟩, st1⟩ := y
      rw [h] at e
      refine exs_cons ⟨(o, env'), st1, h, ?_⟩
      cases o with
      | next => exact exs_app ⟨a, st', e, q⟩
      | ret v =>
        have e : some ((Out.ret v, env'), st1) = some (a, st') := e
        cases e; exact q
theorem deed_head {nm : Str} {pr : Arguments} {s0 s1 : Stmt} {bd : List Stmt} {sc : Scope} {ps : Pos} {env : AEnv} {P : Out × AEnv → ASt → Prop} (h : fnOfTab "_law_deed" = some ⟨nm, pr, s0 :: s1 :: bd, sc, ps⟩) (k : wp (exs (R wh n) [s0, s1] env) st (ThenP wh n deedRest P)) : wp (exs (R wh n) (s0 :: s1 :: bd) env) st P := by
  have e1 : deedRest = bd := by unfold deedRest; rw [h]; rfl
  rw [e1] at k
  exact exs_app (l := [s0, s1]) k
theorem deed_rest {nm : Str} {pr : Arguments} {s0 s1 : Stmt} {bd : List Stmt} {sc : Scope} {ps : Pos} {env : AEnv} {L : List (Str × AVal)} {P : Out × AEnv → ASt → Prop} (h : fnOfTab "_law_deed" = some ⟨nm, pr, s0 :: s1 :: bd, sc, ps⟩) (hE : Has env deedScope L) (k : Has env sc L → wp (exs (R wh n) bd env) st P) : wp (exs (R wh n) deedRest env) st P := by
  have e1 : deedRest = bd := by unfold deedRest; rw [h]; rfl
  have e2 : deedScope = sc := by unfold deedScope; rw [h]; rfl
  rw [e1]; exact k (e2 ▸ hE)

theorem deed_tail {env : AEnv} {way a b key nn m : Int} (hE : Has env deedScope [("way", .int way), ("a", .int a), ("b", .int b), ("key", .int key), ("n", .int nn)]) (ha : 0 ≤ a) (hb : 0 ≤ b ∨ b = -m) (hk : 0 ≤ key ∧ key ≤ 2) (q : ∀ d, GoodD m d → Q (encD d) st) : wp (exs (R wh (n + 19)) deedRest env) st fun x st' => Q (retOf x.1) st' := by
  refine deed_rest (by rfl) hE fun hE => ?_
  walk_at "go"
  by_cases h0 : way = 0
  · have h0 := decide_eq_true h0
    walk_at "go"; exact leafD q (.newArray _) (by walk_at "gd")
  have h0 := decide_eq_false h0
  walk_at "go"
  by_cases h1 : way = 1
  · have h1 := decide_eq_true h1
    walk_at "go"; exact leafD q (.newObject _ _) (by walk_at "gd")
  have h1 := decide_eq_false h1
  walk_at "go"
  by_cases h2 : way = 2
  · have h2 := decide_eq_true h2
    walk_at "go"; exact leafD q (.setInt _ _) (by walk_at "gd")
  have h2 := decide_eq_false h2
  walk_at "go"
  by_cases h3 : way = 3
  · have h3 := decide_eq_true h3
    walk_at "go"; exact leafD q (.assign _ _) (by walk_at "gd")
  have h3 := decide_eq_false h3
  walk_at "go"
  cases h4 : (decide (4 = way) || decide (5 = way)) with
  | true => walk_at "go"; exact leafD q (.put _ _ _) (by walk_at "gd")
  | false =>
  walk_at "go"
  by_cases h6 : way = 6
  · have h6 := decide_eq_true h6
    walk_at "go"; exact leafD q (.take _ _ _) (by walk_at "gd")
  have h6 := decide_eq_false h6
  walk_at "go"
  by_cases h7 : way = 7
  · have h7 := decide_eq_true h7
    by_cases h8 : Int.fmod nn 2 = 0
    · have h8 := decide_eq_true h8
      walk_at "go"; exact leafD q (.makeRef _ _) (by walk_at "gd")
    · have h8 := decide_eq_false h8
      walk_at "go"; exact leafD q (.putRef _ _ _) (by walk_at "gd")
  have h7 := decide_eq_false h7
  walk_at "go"
  by_cases h8 : way = 8
  · have h8 := decide_eq_true h8
    walk_at "go"; exact leafD q (.unset _) (by walk_at "gd")
  · have h8 := decide_eq_false h8
    walk_at "go"; exact leafD q (.unsetAt _ _) (by walk_at "gd")

theorem ok_law_deed_n {x : Int} (q : ∀ d, GoodD 0 d → Q (encD d) st) : wp ((R wh (n + 20)).call "_law_deed" [.int x, .none]) st Q := by
  walk_at "fn"
  refine deed_head (by rfl) ?_
  walk_at "go"
  exact deed_tail ((Has.of rfl rfl).weak (subL_cons (by with_unfolding_all rfl) (subL_cons (by with_unfolding_all rfl) (subL_cons (by with_unfolding_all rfl) (subL_cons (by with_unfolding_all rfl) (subL_cons (by with_unfolding_all rfl) subL_nil)))))) (fmod4 _) (.inl (fmod4 _)) (fmod3 _) q

theorem ok_law_deed_m {x m : Int} (q : ∀ d, GoodD m d → Q (encD d) st) : wp ((R wh (n + 20)).call "_law_deed" [.int x, .int (-m)]) st Q := by
  walk_at "fn"
  refine deed_head (by rfl) ?_
  by_cases hn : Int.fmod (Int.fdiv x 480) 3 > 0
  · have hn := decide_eq_true hn
    walk_at "go"
    exact deed_tail ((Has.of rfl rfl).weak (subL_cons (by with_unfolding_all rfl) (subL_cons (by with_unfolding_all rfl) (subL_cons (by with_unfolding_all rfl) (subL_cons (by with_unfolding_all rfl) (subL_cons (by with_unfolding_all rfl) subL_nil)))))) (fmod4 _) (.inr rfl) (fmod3 _) q
  · have hn := decide_eq_false hn
    walk_at "go"
    exact deed_tail ((Has.of rfl rfl).weak (subL_cons (by with_unfolding_all rfl) (subL_cons (by with_unfolding_all rfl) (subL_cons (by with_unfolding_all rfl) (subL_cons (by with_unfolding_all rfl) (subL_cons (by with_unfolding_all rfl) subL_nil)))))) (fmod4 _) (.inl (fmod4 _)) (fmod3 _) q
end
end
/-! P21 -/
section
set_option maxRecDepth 100000
set_option autoImplicit false
set_option maxHeartbeats 2000000

/-- these objects lie there -/
def AFr (F : Frm) (st : ASt) : Prop := ∀ i o, F i o → st.Ob i o
section
variable {F F' : Frm} {st : ASt} {Q : Nat → ASt → Prop} {U : Unit → ASt → Prop} {i j : Nat} {o p : AObj} {d : AData}
theorem AFr.top {vr : Nat} (h : AFr (F.add i ⟨vr, d⟩) st) : st.At i d := (h i _ (.inr ⟨rfl, rfl⟩)).at
theorem AFr.swap (h : AFr ((F.add i o).add j p) st) : AFr ((F.add j p).add i o) st := fun a b q => h a b (q.elim (fun q => q.elim (fun q => .inl (.inl q)) .inr) fun q => .inl (.inr q))
theorem AFr.put (h : AFr (F.add i o) st) (hF : ∀ o, ¬ F i o) : AFr (F.add i ⟨o.ver + 1, d⟩) (st.put i d) := fun a b q => by
  rcases q with q | ⟨rfl, rfl⟩
  · exact Ob_put_ne (h a b (.inl q)) fun e => hF b (e ▸ q)
  · have oi := h a o (.inr ⟨rfl, rfl⟩)
    exact ⟨oi.1, by show (if a = a then (⟨_, d⟩ : AObj) else _) = _; rw [if_pos rfl, oi.2]⟩
theorem wp_newA (h : AFr F st) (q : ∀ id st', AFr (F.add id ⟨0, d⟩) st' → (∀ o, ¬ F id o) → id = st.next → st'.next = st.next + 1 → Q id st') : wp (newD d) st Q :=
  wp_newD (q _ _ (fun a b q => by
    rcases q with q | ⟨rfl, rfl⟩
    · exact Ob_new (h a b q)
    · exact Ob_new_self) (fun o q => Nat.lt_irrefl _ (h _ o q).1) rfl rfl)
theorem set_tmpA {vr : Nat} {l : List (Str × AVal)} {c a : Str} {v : AVal} (h : AFr (F.add i ⟨vr, .sdict l⟩) st) (hF : ∀ o, ¬ F i o) (hc : (attrsOf c).contains a = true) (hz : l.length ≤ 100) (q : ∀ st', AFr (F.add i ⟨vr + 1, .sdict (putK a v l)⟩) st' → st'.next = st.next → U () st') : wp (attrSet (.inst c i) a v) st U :=
  attr_set hc h.top hz (q _ (h.put hF) rfl)
end

/-! the two heaps at the start -/
def H0 : HS := ⟨[], [], [], 0, [], 0⟩
def W0 : WS := ⟨[], [], [], [], [], 0⟩
section
variable {F : Frm} {st : ASt} {wh : ((AEnv × ASt) → Option (Sum (AEnv × ASt) ((Out × AEnv) × ASt))) → AEnv × ASt → Option ((Out × AEnv) × ASt)} {n : Nat} {Q : AVal → ASt → Prop}

theorem ok_Counted (h : AFr F st) (q : ∀ X loc st', Rep X loc H0 F st' → (∀ t, (content X loc H0 t).isSome → st.next ≤ t.id X loc) → st.next ≤ st'.next → Q (.inst "Counted" X.root) st') : wp ((R wh (n + 8)).call "Counted" [.int 1000]) st Q := by
  walk_at "init"
  refine wp_newA h fun a st1 h1 hFa ga n1 => ?_
  walk_at "go"
  refine wp_newA h1 fun b1 st2 h2 f1 g1 n2 => ?_
  have h2 := h2.swap
  have e1 : ∀ o, ¬ (F.add b1 ⟨0, .idict []⟩) a o := fun o q => q.elim (hFa o) fun q => f1 _ (.inr ⟨q.1.symm, rfl⟩)
  walk_at "go"
  refine set_tmpA h2 e1 rfl (by show (0 : Nat) ≤ 100; decide) fun st3 h3 n3 => ?_
  walk_at "go"
  refine wp_newA h3 fun b2 st4 h4 f2 g2 n4 => ?_
  have h4 := h4.swap
  have e2 : ∀ o, ¬ ((F.add b1 ⟨0, .idict []⟩).add b2 ⟨0, .idict []⟩) a o := fun o q => q.elim (e1 o) fun q => f2 _ (.inr ⟨q.1.symm, rfl⟩)
  walk_at "go"
  refine set_tmpA h4 e2 rfl (by show (1 : Nat) ≤ 100; decide) fun st5 h5 n5 => ?_
  walk_at "go"
  refine wp_newA h5 fun b3 st6 h6 f3 g3 n6 => ?_
  have h6 := h6.swap
  have e3 : ∀ o, ¬ (((F.add b1 ⟨0, .idict []⟩).add b2 ⟨0, .idict []⟩).add b3 ⟨0, .list []⟩) a o := fun o q => q.elim (e2 o) fun q => f3 _ (.inr ⟨q.1.symm, rfl⟩)
  walk_at "go"
  refine set_tmpA h6 e3 rfl (by show (2 : Nat) ≤ 100; decide) fun st7 h7 n7 => ?_
  walk_at "go"
  refine set_tmpA h7 e3 rfl (by show (3 : Nat) ≤ 100; decide) fun st8 h8 n8 => ?_
  walk_at "go"
  refine wp_newA h8 fun b4 st9 h9 f4 g4 n9 => ?_
  have h9 := h9.swap
  have e4 : ∀ o, ¬ ((((F.add b1 ⟨0, .idict []⟩).add b2 ⟨0, .idict []⟩).add b3 ⟨0, .list []⟩).add b4 ⟨0, .list []⟩) a o := fun o q => q.elim (e3 o) fun q => f4 _ (.inr ⟨q.1.symm, rfl⟩)
  walk_at "go"
  refine set_tmpA h9 e4 rfl (by show (4 : Nat) ≤ 100; decide) fun st10 h10 n10 => ?_
  walk_at "go"
  refine set_tmpA h10 e4 rfl (by show (5 : Nat) ≤ 100; decide) fun st11 h11 n11 => ?_
  walk_at "go"
  refine set_tmpA h11 e4 rfl (by show (6 : Nat) ≤ 100; decide) fun st12 h12 n12 => ?_
  walk_at "go"
  refine wp_newA h12 fun b5 st13 h13 f5 g5 n13 => ?_
  have h13 := h13.swap
  have e5 : ∀ o, ¬ (((((F.add b1 ⟨0, .idict []⟩).add b2 ⟨0, .idict []⟩).add b3 ⟨0, .list []⟩).add b4 ⟨0, .list []⟩).add b5 ⟨0, .idict []⟩) a o := fun o q => q.elim (e4 o) fun q => f5 _ (.inr ⟨q.1.symm, rfl⟩)
  walk_at "go"
  refine set_tmpA h13 e5 rfl (by show (7 : Nat) ≤ 100; decide) fun st14 h14 n14 => ?_
  walk_at "go"
  refine wp_newA h14 fun b6 st15 h15 f6 g6 n15 => ?_
  have h15 := h15.swap
  have e6 : ∀ o, ¬ ((((((F.add b1 ⟨0, .idict []⟩).add b2 ⟨0, .idict []⟩).add b3 ⟨0, .list []⟩).add b4 ⟨0, .list []⟩).add b5 ⟨0, .idict []⟩).add b6 ⟨0, .list []⟩) a o := fun o q => q.elim (e5 o) fun q => f6 _ (.inr ⟨q.1.symm, rfl⟩)
  walk_at "go"
  refine set_tmpA h15 e6 rfl (by show (8 : Nat) ≤ 100; decide) fun st16 h16 n16 => ?_
  walk_at "go"
  refine ⟨rfl, q ⟨a, b1, b2, b3, b4, b5, b6⟩ ⟨fun _ => 0, fun _ => 0⟩ st16 ?_ ?_ (by omega)⟩
  · have ha := (h16 a _ (.inr ⟨rfl, rfl⟩)).at
    have hb6 := (h16 b6 _ (.inl (.inr ⟨rfl, rfl⟩))).at
    have hb5 := (h16 b5 _ (.inl (.inl (.inr ⟨rfl, rfl⟩)))).at
    have hb4 := (h16 b4 _ (.inl (.inl (.inl (.inr ⟨rfl, rfl⟩))))).at
    have hb3 := (h16 b3 _ (.inl (.inl (.inl (.inl (.inr ⟨rfl, rfl⟩)))))).at
    have hb2 := (h16 b2 _ (.inl (.inl (.inl (.inl (.inl (.inr ⟨rfl, rfl⟩))))))).at
    have hb1 := (h16 b1 _ (.inl (.inl (.inl (.inl (.inl (.inl (.inr ⟨rfl, rfl⟩)))))))).at
    have live : ∀ t, (content (⟨a, b1, b2, b3, b4, b5, b6⟩ : HIds) ⟨fun _ => 0, fun _ => 0⟩ H0 t).isSome = true → t = .root ∨ t = .cells ∨ t = .vars ∨ t = .log ∨ t = .buffer ∨ t = .tables := fun t ht => by
      cases t with
      | cell n => cases ht
      | slot n => cases ht
      | _ => simp
    have big : ∀ t, (content (⟨a, b1, b2, b3, b4, b5, b6⟩ : HIds) ⟨fun _ => 0, fun _ => 0⟩ H0 t).isSome = true → st.next ≤ t.id ⟨a, b1, b2, b3, b4, b5, b6⟩ ⟨fun _ => 0, fun _ => 0⟩ := fun t ht => by
      rcases live t ht with rfl | rfl | rfl | rfl | rfl | rfl <;> simp only [Tag.id] <;> omega
    refine ⟨fun t d hd => ?_, fun t t' ht ht' e => ?_, fun i o hi => h16 i o (.inl (.inl (.inl (.inl (.inl (.inl (.inl hi))))))), fun i o hi t ht e => ?_⟩
    · cases t with
      | root => cases hd; exact ha
      | cells => cases hd; exact hb1
      | vars => cases hd; exact hb2
      | log => cases hd; exact hb3
      | buffer => cases hd; exact hb4
      | tables => cases hd; exact hb6
      | cell n => cases hd
      | slot n => cases hd
    · rcases live t ht with rfl | rfl | rfl | rfl | rfl | rfl <;> rcases live t' ht' with rfl | rfl | rfl | rfl | rfl | rfl <;> first | rfl | (exfalso; simp only [Tag.id] at e; omega)
    · have := (h i o hi).1
      have := big t ht
      omega
  · intro t ht
    cases t with
    | cell n => cases ht
    | slot n => cases ht
    | _ => simp only [Tag.id]; omega

theorem ev_dict {wh : ((AEnv × ASt) → Option (Sum (AEnv × ASt) ((Out × AEnv) × ASt))) → AEnv × ASt → Option ((Out × AEnv) × ASt)} {env : AEnv} {p : Pos} {ks : List (Option Expr)} {vs : List Expr} (k : wp (dictA (R wh n) env ks vs) st fun kvs st' => (∃ l, asInts kvs = none ∧ asStrs kvs = some l ∧ (noDup (l.map (·.1)) && decide (l.length ≤ 15)) = true ∧ wp (newD (.sdict l)) st' fun id st'' => Q (.obj id) st'') ∨ (∃ l, asInts kvs = some l ∧ (noDup (l.map fun p => Str.ofString (toString p.1)) && decide (l.length ≤ 15)) = true ∧ wp (newD (.idict l)) st' fun id st'' => Q (.obj id) st'')) : wp ((R wh (n + 1)).ev (.Dict ks vs p) env) st Q := by
  refine wp_bind (wp_mono k ?_)
  rintro kvs st' (⟨l, h1, h2, h3, h4⟩ | ⟨l, h1, h2, h3⟩)
  · show wp (match asInts kvs with
      | some l => if noDup (l.map fun p => Str.ofString (toString p.1)) && decide (l.length ≤ 15) then do let id ← newD (.idict l); pure (AVal.obj id) else fail
      | none => match asStrs kvs with
        | some l => if noDup (l.map (·.1)) && decide (l.length ≤ 15) then do let id ← newD (.sdict l); pure (AVal.obj id) else fail
        | none => fail) st' Q
    rw [h1, h2]
    exact wp_true h3 (wp_bind (wp_mono h4 fun _ _ q => wp_pure q))
  · show wp (match asInts kvs with
      | some l => if noDup (l.map fun p => Str.ofString (toString p.1)) && decide (l.length ≤ 15) then do let id ← newD (.idict l); pure (AVal.obj id) else fail
      | none => match asStrs kvs with
        | some l => if noDup (l.map (·.1)) && decide (l.length ≤ 15) then do let id ← newD (.sdict l); pure (AVal.obj id) else fail
        | none => fail) st' Q
    rw [h1]
    exact wp_true h2 (wp_bind (wp_mono h3 fun _ _ q => wp_pure q))
theorem dict_nil {r : Rec} {env : AEnv} {Q : List (AVal × AVal) → ASt → Prop} (q : Q [] st) : wp (dictA r env [] []) st Q := wp_pure q
theorem dict_cons {r : Rec} {env : AEnv} {k v : Expr} {ks : List (Option Expr)} {vs : List Expr} {Q : List (AVal × AVal) → ASt → Prop} (h : wp (r.ev k env) st fun kv st' => wp (r.ev v env) st' fun vv st'' => wp (dictA r env ks vs) st'' fun rest st3 => Q ((kv, vv) :: rest) st3) : wp (dictA r env (some k :: ks) (v :: vs)) st Q :=
  wp_bind (wp_mono h fun _ _ h => wp_bind (wp_mono h fun _ _ h => wp_bind (wp_mono h fun _ _ q => wp_pure q)))

local macro_rules | `(tactic| walk_at "call") => `(tactic| first
  | with_reducible refine dict_cons ?_
  | with_reducible refine dict_nil ?_)

theorem ok_world (h : AFr F st) (q : ∀ Y loc st', RepW Y loc W0 F st' → (∀ t, (contentW Y loc W0 t).isSome → st.next ≤ t.id Y loc) → st.next ≤ st'.next → Q (.obj Y.root) st') : wp ((R wh (n + 8)).call "_law_world" []) st Q := by
  walk_at "fn"
  walk_at "go"
  refine ev_dict ?_
  walk_at "go"
  refine wp_newA h fun b1 st1 h1 f1 g1 n1 => ?_
  walk_at "go"
  refine wp_newA h1 fun b2 st2 h2 f2 g2 n2 => ?_
  walk_at "go"
  refine wp_newA h2 fun b3 st3 h3 f3 g3 n3 => ?_
  walk_at "go"
  refine wp_newA h3 fun b4 st4 h4 f4 g4 n4 => ?_
  walk_at "go"
  refine wp_newA h4 fun b5 st5 h5 f5 g5 n5 => ?_
  walk_at "go"
  refine .inl ⟨[("cells", .obj b1), ("vars", .obj b2), ("log", .obj b3), ("tasks", .obj b4), ("hand", .obj b5), ("last", .int 0)], rfl, rfl, by rfl, ?_⟩
  refine wp_newA h5 fun a st6 h6 f6 g6 n6 => ?_
  have ha := (h6 a _ (.inr ⟨rfl, rfl⟩)).at
  have hb5 := (h6 b5 _ (.inl (.inr ⟨rfl, rfl⟩))).at
  have hb4 := (h6 b4 _ (.inl (.inl (.inr ⟨rfl, rfl⟩)))).at
  have hb3 := (h6 b3 _ (.inl (.inl (.inl (.inr ⟨rfl, rfl⟩))))).at
  have hb2 := (h6 b2 _ (.inl (.inl (.inl (.inl (.inr ⟨rfl, rfl⟩)))))).at
  have hb1 := (h6 b1 _ (.inl (.inl (.inl (.inl (.inl (.inr ⟨rfl, rfl⟩))))))).at
  have live : ∀ t, (contentW (⟨a, b1, b2, b3, b4, b5⟩ : WIds) ⟨fun _ => 0, fun _ => 0⟩ W0 t).isSome = true → t = .root ∨ t = .cells ∨ t = .vars ∨ t = .log ∨ t = .tasks ∨ t = .hand := fun t ht => by
    cases t with
    | cell n => cases ht
    | slot n => cases ht
    | _ => simp
  have big : ∀ t, (contentW (⟨a, b1, b2, b3, b4, b5⟩ : WIds) ⟨fun _ => 0, fun _ => 0⟩ W0 t).isSome = true → st.next ≤ t.id ⟨a, b1, b2, b3, b4, b5⟩ ⟨fun _ => 0, fun _ => 0⟩ := fun t ht => by
    rcases live t ht with rfl | rfl | rfl | rfl | rfl | rfl <;> simp only [TagW.id] <;> omega
  refine q ⟨a, b1, b2, b3, b4, b5⟩ ⟨fun _ => 0, fun _ => 0⟩ st6 ⟨fun t d hd => ?_, fun t t' ht ht' e => ?_, fun i o hi => h6 i o (.inl (.inl (.inl (.inl (.inl (.inl hi)))))), fun i o hi t ht e => ?_⟩ big (by omega)
  · cases t with
    | root => cases hd; exact ha
    | cells => cases hd; exact hb1
    | vars => cases hd; exact hb2
    | log => cases hd; exact hb3
    | tasks => cases hd; exact hb4
    | hand => cases hd; exact hb5
    | cell n => cases hd
    | slot n => cases hd
  · rcases live t ht with rfl | rfl | rfl | rfl | rfl | rfl <;> rcases live t' ht' with rfl | rfl | rfl | rfl | rfl | rfl <;> first | rfl | (exfalso; simp only [TagW.id] at e; omega)
  · have := (h i o hi).1
    have := big t ht
    omega
end
end
/-! P22 -/
section
set_option maxRecDepth 100000
set_option autoImplicit false
set_option maxHeartbeats 2000000

structure PlanOK (P : List (Int × List D)) : Prop where
  len : ∀ k ds, getK k P = some ds → ds.length ≤ 2
  num : ∀ k ds, getK k P = some ds → 1 ≤ k ∧ k ≤ 12
  good : ∀ k ds, getK k P = some ds → ∀ d ∈ ds, GoodD k d

section
variable {st : ASt} {Q : AVal → ASt → Prop} {wh : ((AEnv × ASt) → Option (Sum (AEnv × ASt) ((Out × AEnv) × ASt))) → AEnv × ASt → Option ((Out × AEnv) × ASt)} {n : Nat}
theorem bin_mul {i j : Int} (h : Builtin.Int.intBits i ≤ 64) (q : Q (.int (i * j)) st) : wp (bin .Mult (.int i) (.int j)) st Q := wp_true h (wp_pure q)
theorem bin_pow {j : Int} (h : 0 ≤ j ∧ j ≤ 100) (q : Q (.int (5 ^ j.toNat)) st) : wp (bin .Pow (.int 5) (.int j)) st Q := wp_true ⟨rfl, h⟩ (wp_pure q)
theorem bits_small {i : Int} (h : i.natAbs < 2 ^ 64) : Builtin.Int.intBits i ≤ 64 := by
  unfold Builtin.Int.intBits
  split
  · exact Nat.zero_le _
  · rename_i q
    have h0 : i.natAbs ≠ 0 := fun e => q (by simpa using Int.natAbs_eq_zero.mp e)
    have := (Nat.log2_lt h0).mpr h
    omega
theorem builtin_sum {id : Nat} {l : List Int} (hl : st.At id (.list (l.map AVal.int))) (q : Q (.int l.sum) st) : wp (builtinA "sum" (.obj id)) st Q := by
  refine wp_false (by decide +kernel) (wp_true (by decide +kernel) (wp_bind (wp_getD hl ?_)))
  exact wp_bind (wp_opt (mapM_asInt l) (wp_pure q))
theorem compLoop_all {r : Rec} {src : Src} {ver : Nat} {t elt : Expr} {ifs : List Expr} {Q : List AVal → ASt → Prop} {env : AEnv} {sc : Scope} {L : List (Str × AVal)} (hE : Has env sc L) (Rr : AVal → Prop) (hw : src.watch st = ver) {items : List AVal}
  (step : ∀ v ∈ items, ∀ env, Has env sc L → wp (assignT r t env v) st fun env' st' => st' = st ∧ Has env' sc L ∧ wp (tests r env' ifs) st fun b st' => st' = st ∧ b = true ∧ wp (r.ev elt env') st fun y st' => st' = st ∧ Rr y)
  (q : ∀ ys, ys.length = items.length → (∀ y ∈ ys, Rr y) → Q ys st) : wp (compLoop r src ver t elt ifs items env) st Q := by
  induction items generalizing env Q with
  | nil => exact wp_bind (wp_check hw (wp_pure (q [] rfl fun _ h => by cases h)))
  | cons v vs ih =>
    refine wp_bind (wp_check hw (wp_bind (wp_mono (step v (.head _) env hE) ?_)))
    rintro env' st' ⟨rfl, h', k⟩
    refine wp_bind (wp_mono k ?_)
    rintro b st' ⟨rfl, rfl, k1⟩
    refine wp_bind (wp_mono k1 ?_)
    rintro y st' ⟨rfl, e⟩
    refine wp_bind (ih (Q := fun ys st'' => wp (pure (y :: ys)) st'' Q) h' (fun w hw => step w (.tail _ hw)) fun ys hl hr => wp_pure (q _ (by rw [List.length_cons, List.length_cons, hl]) fun z hz => ?_))
    rcases List.mem_cons.mp hz with rfl | hz
    · exact e
    · exact hr z hz
theorem encD_list {m : Int} : ∀ ys : List AVal, (∀ y ∈ ys, ∃ d, GoodD m d ∧ y = encD d) → ∃ ds : List D, ys = ds.map encD ∧ ∀ d ∈ ds, GoodD m d
  | [], _ => ⟨[], rfl, fun _ h => by cases h⟩
  | y :: ys, h => by
    obtain ⟨d, h1, rfl⟩ := h y (.head _)
    obtain ⟨ds, rfl, h2⟩ := encD_list ys fun z hz => h z (.tail _ hz)
    refine ⟨d :: ds, rfl, fun z hz => ?_⟩
    rcases List.mem_cons.mp hz with rfl | hz
    · exact h1
    · exact h2 z hz

def told : List Int := [481, 20, 24, 113, 274, 87, 364, 3392, 28, 8, 501, 502, 54, 18]
theorem ok_told (q : wp (newD (.list (told.map AVal.int))) st fun id st' => Q (.obj id) st') : wp ((R wh (n + 6)).call "_law_told" []) st Q := by
  walk_at "fn"
  walk_at "go"
  exact q

local macro_rules | `(tactic| walk_at "call") => `(tactic| first
  | with_reducible refine dict_cons ?_
  | with_reducible refine dict_nil ?_)

def gSum : AVal → Option AVal
  | .tup [.int k, .int y] => some (.int ((k + 3) * y))
  | _ => none
theorem fm_gSum : ∀ (xs : List Int) (k : Nat), ((xs.map AVal.int).zipIdx k |>.map fun p => AVal.tup [.int (p.2 : Int), p.1]).filterMap gSum = ((xs.zipIdx k).map fun p => ((p.2 : Int) + 3) * p.1).map AVal.int
  | [], _ => rfl
  | x :: xs, k => by
    rw [List.map_cons, List.zipIdx_cons, List.map_cons, List.filterMap_cons_some (f := gSum) (b := .int (((k : Int) + 3) * x)) rfl, fm_gSum xs (k + 1), List.zipIdx_cons, List.map_cons, List.map_cons]

theorem ok_plan {F : Frm} {sid vs : Nat} {xs : List Int} (h : AFr F st) (hs : F sid ⟨vs, .list (xs.map AVal.int)⟩) (hz : xs.length ≤ 63) (q : ∀ pid P F' st', (∀ i o, F i o → F' i o) → (∀ i o, F' i o → F i o ∨ st.next ≤ i) → AFr F' st' → PlanAt (fun i o => F' i o ∧ st.next ≤ i) pid P → PlanOK P → Q (.obj pid) st') : wp ((R wh (n + 32)).call "_law_plan" [.obj sid]) st Q := by
  walk_at "fn"
  walk_at "go"
  refine wp_newA h fun pid st1 h1 f1 g1 n1 => ?_
  walk_at "go"
  refine st_for (by with_unfolding_all rfl) (src_range2 (by with_unfolding_all rfl) (by with_unfolding_all rfl) ?_)
  walk_at "go"
  refine ⟨1, 13, rfl, rfl, by with_unfolding_all rfl, its_range (by decide) ?_⟩
  refine forLoop_has (Has.of rfl rfl) (fun us s => ∃ (ns : List Nat) (vr : Nat) (l : List (Int × AVal)) (P : List (Int × List D)) (G : Frm), us = (ns.map fun (k : Nat) => AVal.int (1 + (k : Int))) ∧ (∀ k ∈ ns, k < 12) ∧ AFr (G.add pid ⟨vr, .idict l⟩) s ∧ (∀ o, ¬ G pid o) ∧ (∀ i o, F i o → G i o) ∧ (∀ i o, G i o → F i o ∨ st.next ≤ i) ∧ st.next ≤ s.next ∧ (∀ k, (getK k P = none → getK k l = none) ∧ ∀ ds, getK k P = some ds → ∃ j v, getK k l = some (.obj j) ∧ G j ⟨v, .list (ds.map encD)⟩ ∧ st.next ≤ j) ∧ PlanOK P ∧ l.length + ns.length ≤ 12) ⟨List.range 12, 0, [], [], F, rfl, fun k hk => List.mem_range.mp hk, h1, f1, fun _ _ h => h, fun _ _ h => .inl h, by omega, fun _ => ⟨fun _ => rfl, fun _ e => (by cases e)⟩, ⟨fun _ _ e => (by cases e), fun _ _ e => (by cases e), fun _ _ e => (by cases e)⟩, (by decide)⟩ ?_ ?_
  · rintro u us env s hE ⟨ns, vr, l, P, G, hu, hns, h2, hG, hFG, hGF, hn2, hrel, hP, hlen⟩
    cases ns with
    | nil => cases hu
    | cons k ns =>
    rw [List.map_cons] at hu
    cases hu
    rw [List.length_cons] at hlen
    have hk := hns k (.head _)
    refine ⟨rfl, ?_⟩
    walk_at "go"
    rename_i env1 hE1
    refine ev_builtin (by decide +kernel) (by rw [glob_has hE1]; with_unfolding_all rfl) ?_
    refine ev_comp (by rw [hE1.1]; with_unfolding_all rfl) (src_enumerate (by with_unfolding_all rfl) (by rw [glob_has hE1]; with_unfolding_all rfl) ?_)
    walk_at "go"
    have hsid := (h2 sid _ (.inl (hFG _ _ hs))).at
    refine ⟨sid, _, rfl, hsid, by with_unfolding_all rfl, its_enum hsid ⟨by rw [List.length_map, List.length_zipIdx, List.length_map]; omega, ?_⟩⟩
    refine compLoop_has (hE1.comp _) gSum rfl (fun x hx env hE => ?_) ?_
    · obtain ⟨p, hp, rfl⟩ := List.mem_map.mp hx
      obtain ⟨px, pk⟩ := p
      have hpx := List.mem_zipIdx hp
      rw [List.length_map] at hpx
      have hpk : pk < 63 := by omega
      obtain ⟨y, rfl⟩ : ∃ y, px = AVal.int y := by
        have := hpx.2.2
        rw [List.getElem_map] at this
        exact ⟨_, this⟩
      walk_at "go"
      rename_i env2 hE2 env3 hE3
      refine ⟨rfl, (hE3.pop (by with_unfolding_all rfl)).pop (by with_unfolding_all rfl), tests_nil ⟨rfl, fun _ => ?_, fun h => by cases h⟩⟩
      walk_at "go"
      refine bin_mul (bits_small (by omega)) ?_
      exact ⟨rfl, rfl⟩
    rw [fm_gSum]
    refine wp_newA h2 fun e1 s3 h3 f3 g3 n3 => ?_
    refine builtin_sum h3.top ?_
    walk_at "go"
    refine bin_mul (by decide +kernel) ?_
    refine bin_fdiv (by omega) (by omega) ?_
    walk_at "go"
    refine ev_dict ?_
    walk_at "go"
    refine .inr ⟨[(1, .int 493), (2, .int 644)], rfl, by rfl, ?_⟩
    refine wp_newA h3 fun e2 s4 h4 f4 g4 n4 => ?_
    refine meth_i h4.top ?_
    walk_at "go"
    refine bin_mul (by decide +kernel) ?_
    walk_at "go"
    refine m_get h4.top ?_
    obtain ⟨z, hz2⟩ : ∃ z, (getK (1 + (k : Int)) [((1 : Int), AVal.int 493), (2, .int 644)]).getD (.int (13 * (1 + (k : Int)))) = .int z := by
      show ∃ z, (if (1 : Int) = 1 + (k : Int) then some (AVal.int 493) else if (2 : Int) = 1 + (k : Int) then some (.int 644) else none).getD _ = _
      split
      · exact ⟨_, rfl⟩
      · split
        · exact ⟨_, rfl⟩
        · exact ⟨_, rfl⟩
    rw [hz2]
    walk_at "go"
    rename_i env2 hE2
    generalize (((List.map (fun p : Int × Nat => ((p.2 : Int) + 3) * p.1) (xs.zipIdx 0)).sum.fdiv (7 * (1 + (k : Int)))) + z) = x at hE2
    refine ev_comp (by rw [hE2.1]; with_unfolding_all rfl) (src_range (by with_unfolding_all rfl) (by rw [glob_has hE2]; with_unfolding_all rfl) ?_)
    walk_at "go"
    refine bin_mod (by decide) ?_
    have hx3 := fmod3 x
    refine ⟨_, rfl, by with_unfolding_all rfl, its_range ⟨by decide, by omega, by omega⟩ ⟨by rw [List.length_map, List.length_range]; omega, ?_⟩⟩
    refine compLoop_all (hE2.comp _) (fun y => ∃ d, GoodD (1 + (k : Int)) d ∧ y = encD d) rfl (fun v hv env hE => ?_) fun ys hyl hys => ?_
    · obtain ⟨j, hj, rfl⟩ := List.mem_map.mp hv
      rw [List.mem_range] at hj
      have hj2 : j < 2 := by omega
      walk_at "go"
      rename_i env3 hE3
      refine ⟨rfl, hE3.pop (by with_unfolding_all rfl), tests_nil ⟨rfl, rfl, ?_⟩⟩
      walk_at "go"
      refine bin_mul (by decide +kernel) ?_
      refine bin_pow (by omega) ?_
      have hp : (5 : Int) ^ (5 * (0 + (j : Int))).toNat = 1 ∨ (5 : Int) ^ (5 * (0 + (j : Int))).toNat = 3125 := by
        have : j = 0 ∨ j = 1 := by omega
        rcases this with rfl | rfl
        · exact .inl (by decide)
        · exact .inr (by decide)
      refine bin_fdiv (by omega) (by omega) ?_
      walk_at "go"
      exact ok_law_deed_m fun d hd => ⟨rfl, d, hd, rfl⟩
    obtain ⟨ds, rfl, hds⟩ := encD_list ys hys
    rw [List.length_map, List.length_map, List.length_range] at hyl
    refine wp_newA h4 fun e3 s5 h5 f5 g5 n5 => ?_
    walk_at "go"
    have hne : e3 ≠ pid := fun e => f5 ⟨vr, .idict l⟩ (.inl (.inl (.inr ⟨e, rfl⟩)))
    have h6 : AFr ((G.add e3 ⟨0, .list (ds.map encD)⟩).add pid ⟨vr, .idict l⟩) s5 := fun i o q => h5 i o (by
      rcases q with (q | q) | q
      · exact .inl (.inl (.inl (.inl q)))
      · exact .inr q
      · exact .inl (.inl (.inl (.inr q))))
    have hG6 : ∀ o, ¬ (G.add e3 ⟨0, .list (ds.map encD)⟩) pid o := fun o q => q.elim (hG o) fun q => hne q.1.symm
    refine set_idict h6.top (by omega) ?_
    walk_at "go"
    refine ⟨(hE2.pop (by with_unfolding_all rfl)).pop (by with_unfolding_all rfl), ns, _, _, putK (1 + (k : Int)) ds P, G.add e3 ⟨0, .list (ds.map encD)⟩, rfl, fun k hk => hns k (.tail _ hk), h6.put hG6, hG6, fun i o q => .inl (hFG i o q), fun i o q => ?_, ?_, fun k' => ?_, ⟨fun k' ds' e => ?_, fun k' ds' e => ?_, fun k' ds' e => ?_⟩, ?_⟩
    · rcases q with q | ⟨rfl, rfl⟩
      · exact hGF i o q
      · exact .inr (by omega)
    · show st.next ≤ s5.next
      omega
    · rw [getK_putK, getK_putK]
      by_cases e : k' = 1 + (k : Int)
      · rw [if_pos e, if_pos e]
        exact ⟨fun q => (by cases q), fun ds' q => by cases q; exact ⟨e3, 0, rfl, .inr ⟨rfl, rfl⟩, by omega⟩⟩
      · rw [if_neg e, if_neg e]
        exact ⟨(hrel k').1, fun ds' q => let ⟨j, v, a, b, c⟩ := (hrel k').2 ds' q; ⟨j, v, a, .inl b, c⟩⟩
    · rw [getK_putK] at e
      by_cases q : k' = 1 + (k : Int)
      · rw [if_pos q] at e; cases e; omega
      · rw [if_neg q] at e; exact hP.len k' ds' e
    · rw [getK_putK] at e
      by_cases q : k' = 1 + (k : Int)
      · omega
      · rw [if_neg q] at e; exact hP.num k' ds' e
    · rw [getK_putK] at e
      by_cases q : k' = 1 + (k : Int)
      · rw [if_pos q] at e; cases e; rw [q]; exact hds
      · rw [if_neg q] at e; exact hP.good k' ds' e
    · have := length_putK_le (k := 1 + (k : Int)) (v := AVal.obj e3) (l := l)
      omega
  · rintro env s hE ⟨ns, vr, l, P, G, hu, hns, h2, hG, hFG, hGF, hn2, hrel, hP, hlen⟩
    cases ns with
    | cons => cases hu
    | nil =>
    refine ⟨rfl, ?_⟩
    walk_at "go"
    refine q pid P (G.add pid ⟨vr, .idict l⟩) _ (fun i o h => .inl (hFG i o h)) (fun i o h => ?_) h2 ⟨vr, l, ⟨.inr ⟨rfl, rfl⟩, by omega⟩, fun k => ⟨(hrel k).1, fun ds e => let ⟨j, v, a, b, c⟩ := (hrel k).2 ds e; ⟨j, v, a, .inl b, c⟩⟩⟩ hP
    rcases h with h | ⟨rfl, rfl⟩
    · exact hGF _ _ h
    · exact .inr (by omega)
end
end
/-! P23 -/
section
set_option maxRecDepth 100000
set_option autoImplicit false
set_option maxHeartbeats 2000000

/-- what the plain law has to give -/
def Plain : Prop := ∀ P, PlanOK P → ∃ Inv : Nat → HS → WS → Prop, Inv 18 H0 W0 ∧ (∀ n H W, Inv n H W → SameOK H W ∧ W.tasks.length ≤ 100000) ∧
  ∀ n H W d, Inv (n + 1) H W → GoodD 0 d → ∃ m m' H' W', HRuns P m H [.deed d] H' ∧ WRuns P m' { W with tasks := .deed d :: W.tasks } W' ∧ Inv n H' W'

section
variable {X : HIds} {loc loc' : Loc} {H H' : HS} {Y : WIds} {locw locw' : Loc} {W W' : WS} {F : Frm} {st st' : ASt}
theorem Both.start (r : Rep X loc H F st) (w : RepW Y locw W (fun i o => F i o ∨ frmH X loc H st i o) st') : Both X loc H Y locw W F st' := by
  have ob : ∀ t, (content X loc H t).isSome → st'.Ob (t.id X loc) (st.get (t.id X loc)) := fun t ht => w.frame _ _ (.inr ⟨⟨t, ht, rfl⟩, rfl⟩)
  refine ⟨⟨fun t d hd => ?_, r.inj, fun i o h => w.frame i o (.inl h), r.off⟩, w.mono fun _ _ h => .inl h, fun t t' ht ht' e => w.off _ _ (.inr ⟨⟨t, ht, rfl⟩, rfl⟩) t' ht' e.symm⟩
  have := ob t (by rw [hd]; rfl)
  exact ⟨this.1, by rw [this.2]; exact (r.dat t d hd).2⟩
theorem frmH_AFr (r : Rep X loc H F st) : AFr (fun i o => F i o ∨ frmH X loc H st i o) st := fun i o h => by
  rcases h with h | ⟨⟨t, ht, rfl⟩, rfl⟩
  · exact r.frame i o h
  · obtain ⟨d, hd⟩ := Option.isSome_iff_exists.mp ht
    exact ⟨(r.dat t d hd).1, rfl⟩
def frmB (X : HIds) (loc : Loc) (H : HS) (Y : WIds) (locw : Loc) (W : WS) (F : Frm) (st : ASt) : Frm := fun i o => F i o ∨ frmH X loc H st i o ∨ frmW Y locw W st i o
theorem Both.toA (b : Both X loc H Y locw W F st) : AFr (frmB X loc H Y locw W F st) st := fun i o h => by
  rcases h with h | ⟨⟨t, ht, rfl⟩, rfl⟩ | ⟨⟨t, ht, rfl⟩, rfl⟩
  · exact b.h.frame i o h
  · obtain ⟨d, hd⟩ := Option.isSome_iff_exists.mp ht
    exact ⟨(b.h.dat t d hd).1, rfl⟩
  · obtain ⟨d, hd⟩ := Option.isSome_iff_exists.mp ht
    exact ⟨(b.w.dat t d hd).1, rfl⟩
theorem Both.ofA {G : Frm} (b : Both X loc H Y locw W F st) (h : AFr G st') (hG : ∀ i o, frmB X loc H Y locw W F st i o → G i o) : Both X loc H Y locw W (fun i o => F i o ∨ (G i o ∧ st.next ≤ i)) st' := by
  refine ⟨⟨fun t d hd => ?_, b.h.inj, fun i o q => ?_, fun i o q t ht e => ?_⟩, ⟨fun t d hd => ?_, b.w.inj, fun i o q => ?_, fun i o q t ht e => ?_⟩, b.apart⟩
  · have := h _ _ (hG _ _ (.inr (.inl ⟨⟨t, by rw [hd]; rfl, rfl⟩, rfl⟩)))
    exact ⟨this.1, by rw [this.2]; exact (b.h.dat t d hd).2⟩
  · exact q.elim (fun q => h _ _ (hG _ _ (.inl q))) fun q => h _ _ q.1
  · rcases q with q | q
    · exact b.h.off i o q t ht e
    · obtain ⟨d, hd⟩ := Option.isSome_iff_exists.mp ht
      have := (b.h.dat t d hd).1
      omega
  · have := h _ _ (hG _ _ (.inr (.inr ⟨⟨t, by rw [hd]; rfl, rfl⟩, rfl⟩)))
    exact ⟨this.1, by rw [this.2]; exact (b.w.dat t d hd).2⟩
  · exact q.elim (fun q => h _ _ (hG _ _ (.inl q))) fun q => h _ _ q.1
  · rcases q with q | q
    · exact b.w.off i o q t ht e
    · obtain ⟨d, hd⟩ := Option.isSome_iff_exists.mp ht
      have := (b.w.dat t d hd).1
      omega
/-- the plan comes into the heap -/
theorem set_planB {pid : Nat} {U : Unit → ASt → Prop} (b : Both X loc H Y locw W F st) (q : ∀ st', Both { X with plan := pid } loc H Y locw W F st' → U () st') : wp (attrSet (.inst "Counted" X.root) "plan" (.obj pid)) st U := by
  refine attr_set rfl b.h.root (by show (9 : Nat) ≤ 100; decide) (q _ ?_)
  have e : ∀ t : Tag, t.id { X with plan := pid } loc = t.id X loc := fun t => by cases t <;> rfl
  have ec : ∀ t : Tag, t ≠ .root → content { X with plan := pid } loc H t = content X loc H t := fun t ht => by
    cases t <;> first | rfl | exact absurd rfl ht
  have live : ∀ t : Tag, (content { X with plan := pid } loc H t).isSome → (content X loc H t).isSome := fun t ht => by
    cases t <;> first | rfl | exact ht
  refine ⟨⟨fun t d hd => ?_, fun t t' ht ht' q => b.h.inj t t' (live t ht) (live t' ht') (by rw [← e, ← e]; exact q), fun i o q => ?_, fun i o q t ht => by rw [e]; exact b.h.off i o q t (live t ht)⟩, ⟨fun t d hd => ?_, b.w.inj, fun i o q => ?_, b.w.off⟩, fun t t' ht ht' => by rw [e]; exact b.apart t t' (live t ht) ht'⟩
  · rw [e]
    by_cases q : t = .root
    · subst q; cases hd
      exact At_put_self b.h.root.1
    · rw [ec t q] at hd
      exact At_put_ne (b.h.dat t d hd) fun e => q (b.h.inj t .root (by rw [hd]; rfl) rfl e)
  · exact Ob_put_ne (b.h.frame i o q) fun e => b.h.off i o q .root rfl e.symm
  · exact At_put_ne (b.w.dat t d hd) fun e => b.apart .root t rfl (by rw [hd]; rfl) e.symm
  · exact Ob_put_ne (b.w.frame i o q) fun e => b.h.off i o q .root rfl e.symm
end

def lawRest2 : List Stmt := ((fnOfTab "law").map fun d => d.body.drop 1).getD []
def lawScope2 : Scope := ((fnOfTab "law").map fun d => d.scope).getD default
section
variable {wh : ((AEnv × ASt) → Option (Sum (AEnv × ASt) ((Out × AEnv) × ASt))) → AEnv × ASt → Option ((Out × AEnv) × ASt)} {n : Nat} {st : ASt} {B : Bool → ASt → Prop}
theorem law_start {nm : Str} {pr : Arguments} {s0 : Stmt} {bd : List Stmt} {sc : Scope} {ps : Pos} {vars : List (Str × AVal)} {P : Out × AEnv → ASt → Prop} (h : fnOfTab "law" = some ⟨nm, pr, s0 :: bd, sc, ps⟩) (k : wp (exs (R wh n) bd { sc := sc, vars := vars }) st P) : wp (exs (R wh n) lawRest2 { sc := lawScope2, vars := vars }) st P := by
  have e1 : lawRest2 = bd := by unfold lawRest2; rw [h]; rfl
  have e2 : lawScope2 = sc := by unfold lawScope2; rw [h]; rfl
  rw [e1, e2]; exact k
theorem cmp_lt {a b : Int} (q : B (decide (a < b)) st) : wp (cmp .Lt (.int a) (.int b)) st B := wp_pure q

theorem law_ok (S : Plain) (hw : WhOK wh) {xs : List Int} (hz : xs.length ≤ 63) : wp (exs (R wh 60) lawRest2 { sc := lawScope2, vars := [("script", .obj 0)] }) { next := 1, get := fun _ => ⟨0, .list (xs.map AVal.int)⟩ } fun x _ => x.1 = .ret (.bool true) := by
  refine law_start (by rfl) ?_
  generalize hst : ({ next := 1, get := fun _ => ⟨0, .list (xs.map AVal.int)⟩ } : ASt) = st0
  have hA : AFr (fun i o => i = 0 ∧ o = ⟨0, .list (xs.map AVal.int)⟩) st0 := by
    rintro i o ⟨rfl, rfl⟩
    subst hst
    exact ⟨Nat.zero_lt_one, rfl⟩
  walk_at "go"
  refine ok_Counted hA fun X loc st1 r1 big1 n1 => ?_
  walk_at "go"
  refine ok_world (frmH_AFr r1) fun Y locw st2 w2 big2 n2 => ?_
  have b2 := Both.start r1 w2
  walk_at "go"
  refine ok_plan b2.toA (sid := 0) (vs := 0) (.inl ⟨rfl, rfl⟩) hz fun pid P F' st3 hF1 hF2 hA3 hP hPO => ?_
  have b3 := b2.ofA hA3 hF1
  have hP3 : PlanAt (fun i o => (i = 0 ∧ o = ⟨0, .list (xs.map AVal.int)⟩) ∨ (F' i o ∧ st2.next ≤ i)) pid P := hP.mono fun i o h => .inr h
  walk_at "go"
  refine set_planB b3 fun st4 b4 => ?_
  generalize hX : ({ X with plan := pid } : HIds) = X4 at b4
  have hroot : X.root = X4.root := by rw [← hX]
  have hpl : pid = X4.plan := by rw [← hX]
  rw [hroot]
  rw [hpl] at hP3
  obtain ⟨F4, hF4⟩ : ∃ F4 : Frm, F4 = fun i o => (i = 0 ∧ o = (⟨0, .list (xs.map AVal.int)⟩ : AObj)) ∨ (F' i o ∧ st2.next ≤ i) := ⟨_, rfl⟩
  rw [← hF4] at b4 hP3
  have hsc : F4 0 ⟨0, .list (xs.map AVal.int)⟩ := by rw [hF4]; exact .inl ⟨rfl, rfl⟩
  obtain ⟨Inv, hI0, hI1, hI2⟩ := S P hPO
  walk_at "go"
  refine st_for (by with_unfolding_all rfl) (src_enumerate (by with_unfolding_all rfl) (by with_unfolding_all rfl) ?_)
  walk_at "go"
  refine ok_told ?_
  refine wp_newB b4 fun lid st5 b5 hF5 _ => ?_
  refine ⟨lid, _, rfl, b5.h.top, by with_unfolding_all rfl, its_enum b5.h.top ?_⟩
  have hw5 : ∀ s : ASt, s.Ob lid ⟨0, .list (told.map AVal.int)⟩ → (Src.enum lid).watch s = (Src.enum lid).watch st5 := fun s hs => by
    show (s.get lid).ver = (st5.get lid).ver
    rw [hs.2, (b5.h.frame _ _ (.inr ⟨rfl, rfl⟩)).2]
  refine forLoop_has (Has.of rfl rfl) (fun us s => ∃ H W loc locw, Both X4 loc H Y locw W (Frm.add F4 lid ⟨0, .list (told.map AVal.int)⟩) s ∧ Inv (us.length + 4) H W ∧ ∀ u ∈ us, ∃ (k : Nat) (t : Int), u = .tup [.int k, .int t] ∧ k < 1000) ⟨_, _, _, _, b5, hI0, fun u hu => ?_⟩ ?_ ?_
  · obtain ⟨⟨pv, pk⟩, hp, rfl⟩ := List.mem_map.mp hu
    have hpx := List.mem_zipIdx hp
    rw [List.length_map] at hpx
    have h2 := hpx.2.2
    rw [List.getElem_map] at h2
    refine ⟨pk, _, by rw [h2], ?_⟩
    have : told.length = 14 := rfl
    omega
  · rintro u us env s hE ⟨H, W, loc, locw, b6, hI, hu⟩
    obtain ⟨k, t, rfl, hk⟩ := hu u (.head _)
    have r6 := b6.h
    have hs6 : s.At 0 (.list (xs.map AVal.int)) := (r6.frame _ _ (.inl hsc)).at
    refine ⟨hw5 _ (r6.frame _ _ (.inr ⟨rfl, rfl⟩)), ?_⟩
    walk_at "go"
    rename_i env1 hE1 env2 hE2
    refine ev_builtin (by decide +kernel) (by rw [glob_has hE2]; with_unfolding_all rfl) ?_
    walk_at "go"
    refine builtin_len hs6 (by rw [List.length_map]; omega) ?_
    refine cmp_lt ?_
    walk_at "go"
    have hI3 : Inv (us.length + 4 + 1) H W := by
      have h := hI
      rw [List.length_cons, Nat.add_right_comm] at h
      exact h
    have hP6 : PlanAt (Frm.add F4 lid ⟨0, .list (told.map AVal.int)⟩) X4.plan P := hP3.add
    refine ⟨fun hk2 => ?_, fun hk2 => ?_⟩
    · rw [decide_eq_true_eq, List.length_map] at hk2
      obtain ⟨y, hy⟩ : ∃ y, (xs.map AVal.int)[((k : Nat) : Int).toNat]? = some (.int y) := by
        have hlt : k < xs.length := by omega
        refine ⟨xs[k], ?_⟩
        rw [Int.toNat_natCast, List.getElem?_map, List.getElem?_eq_getElem hlt]; rfl
      walk_at "go"
      refine item_list hs6 ⟨by omega, by omega⟩ hy ?_
      walk_at "go"
      refine ok_law_deed_n fun d hd => ?_
      walk_at "go"
      rename_i env3 hE3
      obtain ⟨m, m', H', W', hr, wr, hI'⟩ := hI2 _ H W d hI3 hd
      refine both_do_deed hw b6 hP6 hr fun loc7 s7 b7 => ?_
      have r7 := b7.h
      have w7 := b7.w
      walk_at "go"
      refine both_done hw b7 hP6 (hI1 _ _ _ hI).2 wr fun locw8 s8 b8 => ?_
      walk_at "go"
      refine ok_is_same b8 (hI1 _ _ _ hI').1 fun s9 b9 => ?_
      walk_at "go"
      exact ⟨((hE3.pop (by with_unfolding_all rfl)).pop (by with_unfolding_all rfl)).pop (by with_unfolding_all rfl), _, _, _, _, b9, hI', fun u hu' => hu u (.tail _ hu')⟩
    · clear hk2
      walk_at "go"
      refine ok_law_deed_n fun d hd => ?_
      walk_at "go"
      rename_i env3 hE3
      obtain ⟨m, m', H', W', hr, wr, hI'⟩ := hI2 _ H W d hI3 hd
      refine both_do_deed hw b6 hP6 hr fun loc7 s7 b7 => ?_
      have r7 := b7.h
      have w7 := b7.w
      walk_at "go"
      refine both_done hw b7 hP6 (hI1 _ _ _ hI).2 wr fun locw8 s8 b8 => ?_
      walk_at "go"
      refine ok_is_same b8 (hI1 _ _ _ hI').1 fun s9 b9 => ?_
      walk_at "go"
      exact ⟨((hE3.pop (by with_unfolding_all rfl)).pop (by with_unfolding_all rfl)).pop (by with_unfolding_all rfl), _, _, _, _, b9, hI', fun u hu' => hu u (.tail _ hu')⟩
  · rintro env s hE ⟨H, W, loc, locw, b6, hI, hu⟩
    have hP6 : PlanAt (Frm.add F4 lid ⟨0, .list (told.map AVal.int)⟩) X4.plan P := hP3.add
    refine ⟨hw5 _ (b6.h.frame _ _ (.inr ⟨rfl, rfl⟩)), ?_⟩
    walk_at "go"
    refine st_for (by with_unfolding_all rfl) (src_range (by with_unfolding_all rfl) (by rw [glob_has hE]; with_unfolding_all rfl) ?_)
    walk_at "go"
    refine ⟨4, rfl, by with_unfolding_all rfl, its_range (by decide) ?_⟩
    refine forLoop_has hE (fun us s => ∃ H W loc locw, Both X4 loc H Y locw W (Frm.add F4 lid ⟨0, .list (told.map AVal.int)⟩) s ∧ Inv us.length H W ∧ ∀ u ∈ us, ∃ (k : Nat), u = .int (0 + (k : Int))) ⟨_, _, _, _, b6, hI, fun u hu => ?_⟩ ?_ ?_
    · obtain ⟨k, _, rfl⟩ := List.mem_map.mp hu
      exact ⟨k, rfl⟩
    · rintro u us env s hE ⟨H, W, loc, locw, b6, hI, hu⟩
      obtain ⟨k, rfl⟩ := hu u (.head _)
      refine ⟨rfl, ?_⟩
      have r6 := b6.h
      obtain ⟨m, m', H', W', hr, wr, hI'⟩ := hI2 _ H W (.unset (0 + (k : Int))) hI ⟨good1 (by omega), goodk0⟩
      walk_at "go"
      rename_i env1 hE1
      refine both_do_deed (d := .unset (0 + (k : Int))) hw b6 hP6 hr fun loc7 s7 b7 => ?_
      have r7 := b7.h
      have w7 := b7.w
      walk_at "go"
      refine both_done (d := .unset (0 + (k : Int))) hw b7 hP6 (hI1 _ _ _ hI).2 wr fun locw8 s8 b8 => ?_
      walk_at "go"
      exact ⟨hE1.pop (by with_unfolding_all rfl), _, _, _, _, b8, hI', fun u hu' => hu u (.tail _ hu')⟩
    · rintro env s hE ⟨H, W, loc, locw, b6, hI, hu⟩
      refine ⟨rfl, ?_⟩
      walk_at "go"
      refine ok_is_same b6 (hI1 _ _ _ hI).1 fun s9 b9 => ?_
      rfl
end
end
end Mine
namespace Mine
open PySem PySem.W PyProof.Rows
/-! Q1 -/
section
set_option autoImplicit false

/-! sums over the values of a table -/
section
variable {α : Type} {f : α → Nat} {k : Int} {v : α}
def sumF (f : α → Nat) : List (Int × α) → Nat
  | [] => 0
  | p :: r => f p.2 + sumF f r
def optF (f : α → Nat) : Option α → Nat
  | none => 0
  | some a => f a
theorem sumF_put : ∀ {l : List (Int × α)}, sumF f (putK k v l) + optF f (getK k l) = sumF f l + f v
  | [] => by show f v + 0 + 0 = 0 + f v; omega
  | (j, w) :: r => by
    show sumF f (if j = k then (j, v) :: r else (j, w) :: putK k v r) + optF f (if j = k then some w else getK k r) = f w + sumF f r + f v
    by_cases q : j = k
    · rw [if_pos q, if_pos q]; show f v + sumF f r + f w = _; omega
    · rw [if_neg q, if_neg q]
      have := sumF_put (l := r)
      show f w + sumF f (putK k v r) + optF f (getK k r) = _; omega
theorem getK_none_iff : ∀ {l : List (Int × α)}, getK k l = none ↔ k ∉ l.map (·.1)
  | [] => by simp [getK]
  | (j, w) :: r => by
    show (if j = k then some w else getK k r) = none ↔ _
    rw [List.map_cons, List.mem_cons, not_or, ← getK_none_iff]
    by_cases q : j = k
    · rw [if_pos q]; simp [q]
    · rw [if_neg q]; exact ⟨fun h => ⟨fun e => q e.symm, h⟩, fun h => h.2⟩
theorem getK_some_mem {w : α} {l : List (Int × α)} (h : getK k l = some w) : k ∈ l.map (·.1) := List.mem_map.mpr ⟨_, getK_mem h, rfl⟩
theorem getK_of_mem {w : α} : ∀ {l : List (Int × α)}, (l.map (·.1)).Nodup → (k, w) ∈ l → getK k l = some w
  | (j, u) :: r, nd, h => by
    rw [List.map_cons, List.nodup_cons] at nd
    show (if j = k then some u else getK k r) = _
    rcases List.mem_cons.mp h with h | h
    · cases h; rw [if_pos rfl]
    · rw [if_neg (fun e => nd.1 (by rw [e]; exact List.mem_map.mpr ⟨_, h, rfl⟩))]
      exact getK_of_mem nd.2 h
theorem keys_del {l : List (Int × α)} : (delK k l).map (·.1) = (l.map (·.1)).filter fun j => decide (j ≠ k) := by
  unfold delK; rw [List.filter_map]; rfl
theorem keys_put_some {w : α} : ∀ {l : List (Int × α)}, getK k l = some w → (putK k v l).map (·.1) = l.map (·.1)
  | (j, u) :: r, h => by
    show ((if j = k then (j, v) :: r else (j, u) :: putK k v r).map (·.1)) = _
    by_cases q : j = k
    · rw [if_pos q]; rfl
    · rw [getK, if_neg q] at h
      rw [if_neg q, List.map_cons, keys_put_some h]; rfl
theorem keys_put_none {l : List (Int × α)} (h : getK k l = none) : (putK k v l).map (·.1) = l.map (·.1) ++ [k] := by rw [putK_new h, List.map_append]; rfl
theorem nodup_put {l : List (Int × α)} (nd : (l.map (·.1)).Nodup) : ((putK k v l).map (·.1)).Nodup := by
  cases h : getK k l with
  | some w => rw [keys_put_some h]; exact nd
  | none =>
    rw [keys_put_none h, List.nodup_append]
    refine ⟨nd, by simp, fun a ha b hb e => ?_⟩
    rw [List.mem_singleton] at hb
    exact getK_none_iff.mp h (by rw [← hb, ← e]; exact ha)
theorem nodup_del {l : List (Int × α)} (nd : (l.map (·.1)).Nodup) : ((delK k l).map (·.1)).Nodup := by
  rw [keys_del]; exact nd.filter _
theorem delK_none {l : List (Int × α)} (h : getK k l = none) : delK k l = l := by
  unfold delK
  rw [List.filter_eq_self]
  intro p hp
  have := getK_none_iff.mp h
  simp only [decide_eq_true_eq]
  exact fun e => this (by rw [← e]; exact List.mem_map.mpr ⟨p, hp, rfl⟩)
theorem sumF_del : ∀ {l : List (Int × α)}, (l.map (·.1)).Nodup → sumF f (delK k l) + optF f (getK k l) = sumF f l
  | [], _ => rfl
  | (j, w) :: r, nd => by
    rw [List.map_cons, List.nodup_cons] at nd
    have ih := sumF_del (l := r) nd.2
    by_cases q : j = k
    · have e : delK k ((j, w) :: r) = r := by
        unfold delK
        rw [List.filter_cons_of_neg (by simpa using q)]
        exact delK_none (getK_none_iff.mpr (by rw [← q]; exact nd.1))
      rw [e, getK, if_pos q]; show sumF f r + f w = f w + sumF f r; omega
    · have e : delK k ((j, w) :: r) = (j, w) :: delK k r := by
        unfold delK
        rw [List.filter_cons_of_pos (by simpa using q)]
      rw [e, getK, if_neg q]; show f w + sumF f (delK k r) + optF f (getK k r) = f w + sumF f r; omega
theorem sumF_get {w : α} {l : List (Int × α)} (h : getK k l = some w) : f w ≤ sumF f l := by
  have := sumF_put (f := f) (k := k) (v := w) (l := l)
  rw [h, putK_old h] at this
  have e : optF f (some w) = f w := rfl
  have e2 : ∀ {l : List (Int × α)}, getK k l = some w → f w ≤ sumF f l := fun {l} => by
    induction l with
    | nil => intro h; cases h
    | cons p r ih =>
      obtain ⟨j, u⟩ := p
      intro h
      show f w ≤ f u + sumF f r
      by_cases q : j = k
      · rw [getK, if_pos q] at h; cases h; omega
      · rw [getK, if_neg q] at h; have := ih h; omega
  exact e2 h
theorem sumF_pos : ∀ {l : List (Int × α)}, sumF f l > 0 → ∃ p ∈ l, f p.2 > 0
  | [], h => absurd h (Nat.lt_irrefl _)
  | p :: r, h => by
    by_cases q : f p.2 > 0
    · exact ⟨p, .head _, q⟩
    · have : sumF f r > 0 := by
        have : f p.2 + sumF f r > 0 := h
        omega
      obtain ⟨p', h1, h2⟩ := sumF_pos this
      exact ⟨p', .tail _ h1, h2⟩
theorem sumF_congr {g : α → Nat} : ∀ {l : List (Int × α)}, (∀ p ∈ l, f p.2 = g p.2) → sumF f l = sumF g l
  | [], _ => rfl
  | p :: r, h => by
    show f p.2 + sumF f r = g p.2 + sumF g r
    rw [h p (.head _), sumF_congr fun q hq => h q (.tail _ hq)]
theorem sumF_map {β : Type} {g : β → α} : ∀ {l : List (Int × β)}, sumF f (l.map fun p => (p.1, g p.2)) = sumF (fun b => f (g b)) l
  | [] => rfl
  | p :: r => by show f (g p.2) + _ = f (g p.2) + _; rw [sumF_map]
theorem len_sumF : ∀ {l : List (Int × α)}, l.length = sumF (fun _ => 1) l
  | [] => rfl
  | _ :: r => by
    show r.length + 1 = 1 + sumF _ r
    rw [len_sumF (l := r)]; omega
theorem sumF_le {m : Nat} : ∀ {l : List (Int × α)}, (∀ p ∈ l, f p.2 ≤ m) → sumF f l ≤ m * l.length
  | [], _ => Nat.zero_le _
  | p :: r, h => by
    have h1 := h p (.head _)
    have h2 := sumF_le (l := r) fun q hq => h q (.tail _ hq)
    show f p.2 + sumF f r ≤ m * (r.length + 1)
    rw [Nat.mul_succ]; omega
end

/-! counting -/
def one (v : V) (n : Int) : Nat := if v = .cell n then 1 else 0
def cntL (n : Int) (l : List (Int × V)) : Nat := sumF (fun v => one v n) l
def cntH (n : Int) (H : HS) : Nat := cntL n H.vars + sumF (fun c => cntL n c.slots) H.cells
def oneO (o : Option V) (n : Int) : Nat := optF (fun v => one v n) o
def C.due (c : C) : Bool := c.hasD && !c.isD
def HS.Due (H : HS) (m : Int) : Prop := ∃ c, getK m H.cells = some c ∧ c.due = true
def HS.E (H : HS) : Nat := H.vars.length + sumF (fun c => c.slots.length) H.cells
def HS.nr (H : HS) : Nat := sumF (fun c => if c.sort = .ref then 0 else 1) H.cells
def HS.dn (H : HS) : Nat := sumF (fun c => if c.due = true then 1 else 0) H.cells
theorem one_int {i n : Int} : one (.int i) n = 0 := rfl
theorem one_self {n : Int} : one (.cell n) n = 1 := if_pos rfl
theorem one_ne {n m : Int} (h : m ≠ n) : one (.cell m) n = 0 := if_neg fun e => h (by cases e; rfl)
theorem one_pos {v : V} {n : Int} (h : one v n > 0) : v = .cell n := by
  unfold one at h; split at h
  · assumption
  · omega

/-- the counted heap in order: x n are the holders of n that are neither names nor slots -/
structure HI (H : HS) (x : Int → Nat) : Prop where
  asc : (H.cells.map (·.1)).Pairwise (· < ·)
  rng : ∀ n c, getK n H.cells = some c → 1 ≤ n ∧ n ≤ H.last
  lst : 0 ≤ H.last
  vnd : (H.vars.map (·.1)).Nodup
  snd : ∀ n c, getK n H.cells = some c → (c.slots.map (·.1)).Nodup
  skey : ∀ n c k v, getK n H.cells = some c → getK k c.slots = some v → 0 ≤ k ∧ k ≤ 2
  cnt : ∀ n c, getK n H.cells = some c → c.count = ((cntH n H + x n : Nat) : Int)
  live : ∀ n, cntH n H + x n > 0 → (getK n H.cells).isSome
  ref : ∀ n c, getK n H.cells = some c → c.sort = .ref → ∃ v, c.slots = [(0, v)] ∧ H.isRef v = false
  bnd : H.buffer.Nodup
  buf : ∀ n, n ∈ H.buffer ↔ ∃ c, getK n H.cells = some c ∧ c.buf = true
  bref : ∀ n c, getK n H.cells = some c → c.buf = true → c.sort ≠ .ref
  neg : ∀ m, 1 ≤ m → (getK (-m) H.vars).isSome → m ≤ H.last ∧ ¬ H.Due m

theorem HI.congr {H : HS} {x y : Int → Nat} (h : HI H x) (e : ∀ n, x n = y n) : HI H y := by
  have : x = y := funext e
  exact this ▸ h
theorem HI.cnd {H : HS} {x : Int → Nat} (h : HI H x) : (H.cells.map (·.1)).Nodup := h.asc.imp fun h => Int.ne_of_lt h
theorem HI.liveV {H : HS} {x : Int → Nat} (h : HI H x) {k n : Int} (hv : getK k H.vars = some (.cell n)) : (getK n H.cells).isSome := h.live n (by
  have : one (.cell n) n ≤ cntL n H.vars := sumF_get (f := fun v => one v n) hv
  rw [one_self] at this
  unfold cntH; omega)
theorem HI.liveS {H : HS} {x : Int → Nat} (h : HI H x) {m k n : Int} {c : C} (hc : getK m H.cells = some c) (hv : getK k c.slots = some (.cell n)) : (getK n H.cells).isSome := h.live n (by
  have h1 : one (.cell n) n ≤ cntL n c.slots := sumF_get (f := fun v => one v n) hv
  have h2 : cntL n c.slots ≤ sumF (fun c => cntL n c.slots) H.cells := sumF_get (f := fun c : C => cntL n c.slots) hc
  rw [one_self] at h1
  unfold cntH; omega)
theorem HI.liveX {H : HS} {x : Int → Nat} {n : Int} (h : HI H x) (hx : x n > 0) : (getK n H.cells).isSome := h.live n (by omega)

theorem pw_put {l : List (Int × C)} {k : Int} {c : C} (h : (l.map (·.1)).Pairwise (· < ·)) (hk : getK k l = none → ∀ j ∈ l.map (·.1), j < k) : ((putK k c l).map (·.1)).Pairwise (· < ·) := by
  cases e : getK k l with
  | some w => rw [keys_put_some e]; exact h
  | none =>
    rw [keys_put_none e, List.pairwise_append]
    exact ⟨h, by simp, fun a ha b hb => by rw [List.mem_singleton] at hb; subst hb; exact hk e a ha⟩
end
/-! Q2 -/
section
set_option autoImplicit false

section
variable {H : HS} {x y : Int → Nat} {n m k : Int} {c c' : C} {v : V}
theorem getK_setC : getK m (H.setC n c).cells = if m = n then some c else getK m H.cells := getK_putK
theorem cellOf_setC_sort (hc : getK n H.cells = some c) (hs : c'.sort = c.sort) : (H.setC n c').isRef v = H.isRef v := by
  unfold HS.isRef HS.cellOf
  cases v with
  | int i => rfl
  | cell j =>
    show (match getK j (H.setC n c').cells with | some c => decide (c.sort = K.ref) | none => false) = (match getK j H.cells with | some c => decide (c.sort = K.ref) | none => false)
    rw [getK_setC]
    by_cases q : j = n
    · subst q; rw [if_pos rfl, hc]; show decide (c'.sort = .ref) = decide (c.sort = .ref); rw [hs]
    · rw [if_neg q]
theorem sum_setC {f : C → Nat} (hc : getK n H.cells = some c) : sumF f (H.setC n c').cells + f c = sumF f H.cells + f c' := by
  have := sumF_put (f := f) (k := n) (v := c') (l := H.cells)
  rw [hc] at this; exact this
theorem keys_setC (hc : getK n H.cells = some c) : (H.setC n c').cells.map (·.1) = H.cells.map (·.1) := keys_put_some hc

/-- a cell keeps its sort; its count and slots change -/
theorem HI.setC (h : HI H x) (hc : getK n H.cells = some c) (hs : c'.sort = c.sort) (hb : c'.buf = c.buf)
    (hnd : (c'.slots.map (·.1)).Nodup) (hk : ∀ k v, getK k c'.slots = some v → 0 ≤ k ∧ k ≤ 2)
    (hr : c.sort = .ref → ∃ v, c'.slots = [(0, v)] ∧ H.isRef v = false)
    (hcnt : c'.count + cntL n c.slots = ((cntH n H + cntL n c'.slots + y n : Nat) : Int)) (hy : ∀ m, cntL m c'.slots + y m = cntL m c.slots + x m ∨ m = n)
    (hlv : y n + cntH n H + cntL n c'.slots > 0 → True)
    (hdue : c'.due = true → c.due = true ∨ getK (-n) H.vars = none) : HI (H.setC n c') y := by
  have hsum : ∀ m, cntH m (H.setC n c') + cntL m c.slots = cntH m H + cntL m c'.slots := fun m => by
    have := sum_setC (f := fun c => cntL m c.slots) (c' := c') hc
    show cntL m H.vars + sumF _ _ + _ = cntL m H.vars + sumF _ _ + _
    omega
  have some_iff : ∀ m, (getK m (H.setC n c').cells).isSome = (getK m H.cells).isSome := fun m => by
    rw [getK_setC]
    by_cases q : m = n
    · subst q; rw [if_pos rfl, hc]; rfl
    · rw [if_neg q]
  refine ⟨by rw [keys_setC hc]; exact h.asc, fun m d hd => ?_, h.lst, h.vnd, fun m d hd => ?_, fun m d k v hd hv => ?_, fun m d hd => ?_, fun m hm => ?_, fun m d hd hds => ?_, h.bnd, fun m => ?_, fun m d hd hdb => ?_, fun m hm hv => ?_⟩
  · rw [getK_setC] at hd
    by_cases q : m = n
    · subst q; exact h.rng m c hc
    · rw [if_neg q] at hd; exact h.rng m d hd
  · rw [getK_setC] at hd
    by_cases q : m = n
    · rw [if_pos q] at hd; cases hd; exact hnd
    · rw [if_neg q] at hd; exact h.snd m d hd
  · rw [getK_setC] at hd
    by_cases q : m = n
    · rw [if_pos q] at hd; cases hd; exact hk k v hv
    · rw [if_neg q] at hd; exact h.skey m d k v hd hv
  · rw [getK_setC] at hd
    have := hsum m
    by_cases q : m = n
    · subst q; rw [if_pos rfl] at hd; cases hd; omega
    · rw [if_neg q] at hd
      have h1 := h.cnt m d hd
      rcases hy m with h2 | h2
      · omega
      · exact absurd h2 q
  · rw [some_iff]
    by_cases q : m = n
    · subst q; rw [hc]; rfl
    · refine h.live m ?_
      have := hsum m
      rcases hy m with h2 | h2
      · omega
      · exact absurd h2 q
  · rw [getK_setC] at hd
    by_cases q : m = n
    · rw [if_pos q] at hd; cases hd
      obtain ⟨v, h1, h2⟩ := hr (hs ▸ hds)
      exact ⟨v, h1, by rw [cellOf_setC_sort hc hs]; exact h2⟩
    · rw [if_neg q] at hd
      obtain ⟨v, h1, h2⟩ := h.ref m d hd hds
      exact ⟨v, h1, by rw [cellOf_setC_sort hc hs]; exact h2⟩
  · rw [show (H.setC n c').buffer = H.buffer from rfl, h.buf m]
    constructor
    · rintro ⟨d, h1, h2⟩
      by_cases q : m = n
      · subst q; rw [hc] at h1; cases h1
        exact ⟨c', by rw [getK_setC, if_pos rfl], by rw [hb]; exact h2⟩
      · exact ⟨d, by rw [getK_setC, if_neg q]; exact h1, h2⟩
    · rintro ⟨d, h1, h2⟩
      rw [getK_setC] at h1
      by_cases q : m = n
      · subst q; rw [if_pos rfl] at h1; cases h1
        exact ⟨c, hc, by rw [← hb]; exact h2⟩
      · rw [if_neg q] at h1; exact ⟨d, h1, h2⟩
  · rw [getK_setC] at hd
    by_cases q : m = n
    · rw [if_pos q] at hd; cases hd
      rw [hs]; exact h.bref n c hc (by rw [← hb]; exact hdb)
    · rw [if_neg q] at hd; exact h.bref m d hd hdb
  · obtain ⟨h1, h2⟩ := h.neg m hm hv
    refine ⟨h1, fun ⟨d, hd, hdd⟩ => ?_⟩
    rw [getK_setC] at hd
    by_cases q : m = n
    · subst q; rw [if_pos rfl] at hd; cases hd
      rcases hdue hdd with h3 | h3
      · exact h2 ⟨c, hc, h3⟩
      · have hv : (getK (-m) H.vars).isSome = true := hv
        rw [h3] at hv; cases hv
    · rw [if_neg q] at hd; exact h2 ⟨d, hd, hdd⟩

/-- the count alone -/
theorem HI.setCount (h : HI H x) (hc : getK n H.cells = some c) (hs : c'.sort = c.sort) (hl : c'.slots = c.slots) (hb : c'.buf = c.buf)
    (hcnt : c'.count = ((cntH n H + y n : Nat) : Int)) (hy : ∀ m, m ≠ n → y m = x m) (hdue : c'.due = true → c.due = true ∨ getK (-n) H.vars = none) : HI (H.setC n c') y := by
  refine h.setC hc hs hb (by rw [hl]; exact h.snd n c hc) (fun k v hv => h.skey n c k v hc (by rw [← hl]; exact hv)) (fun q => by rw [hl]; exact h.ref n c hc q) (by rw [hl]; omega) (fun m => ?_) (fun _ => trivial) hdue
  by_cases q : m = n
  · exact .inr q
  · exact .inl (by rw [hl, hy m q])

/-- the names change -/
theorem HI.setVars {l : List (Int × V)} (h : HI H x) (hnd : (l.map (·.1)).Nodup) (hc : ∀ m, cntL m l + y m = cntL m H.vars + x m)
    (hneg : ∀ m, 1 ≤ m → (getK (-m) l).isSome → m ≤ H.last ∧ ¬ H.Due m) : HI { H with vars := l } y := by
  have e : ∀ m, cntH m { H with vars := l } + y m = cntH m H + x m := fun m => by
    have := hc m
    show cntL m l + sumF (fun c => cntL m c.slots) H.cells + _ = cntL m H.vars + sumF (fun c => cntL m c.slots) H.cells + _
    omega
  refine ⟨h.asc, h.rng, h.lst, hnd, h.snd, h.skey, fun m d hd => ?_, fun m hm => h.live m (by rw [← e m]; exact hm), h.ref, h.bnd, h.buf, h.bref, hneg⟩
  have := e m
  have := h.cnt m d hd
  omega

/-- a new cell, and the names with it -/
theorem HI.add {l : List (Int × V)} (h : HI H x) (hb : c.buf = false)
    (hsnd : (c.slots.map (·.1)).Nodup) (hk : ∀ k v, getK k c.slots = some v → 0 ≤ k ∧ k ≤ 2) (hr : c.sort = .ref → ∃ v, c.slots = [(0, v)] ∧ H.isRef v = false) (hsl : cntL (H.last + 1) c.slots = 0)
    (hnd : (l.map (·.1)).Nodup) (hcn : c.count = ((cntL (H.last + 1) l + y (H.last + 1) : Nat) : Int)) (hc : ∀ m, m ≠ H.last + 1 → cntL m l + cntL m c.slots + y m = cntL m H.vars + x m)
    (hneg : ∀ m, 1 ≤ m → (getK (-m) l).isSome → m ≤ H.last ∧ ¬ H.Due m) : HI { H with cells := putK (H.last + 1) c H.cells, vars := l, last := H.last + 1 } y := by
  have hnone : getK (H.last + 1) H.cells = none := by
    cases e : getK (H.last + 1) H.cells with
    | none => rfl
    | some d => have := h.rng _ d e; omega
  have hz : cntH (H.last + 1) H + x (H.last + 1) = 0 := by
    by_cases q : cntH (H.last + 1) H + x (H.last + 1) > 0
    · have := h.live _ q; rw [hnone] at this; cases this
    · omega
  have hg : ∀ m, getK m (putK (H.last + 1) c H.cells) = if m = H.last + 1 then some c else getK m H.cells := fun m => getK_putK
  have hsum : ∀ m, sumF (fun c => cntL m c.slots) (putK (H.last + 1) c H.cells) = sumF (fun c => cntL m c.slots) H.cells + cntL m c.slots := fun m => by
    have := sumF_put (f := fun c : C => cntL m c.slots) (k := H.last + 1) (v := c) (l := H.cells)
    rw [hnone] at this; exact this
  have hcells0 : sumF (fun c => cntL (H.last + 1) c.slots) H.cells = 0 := by unfold cntH at hz; omega
  have isr : ∀ v d, H.isRef v = d → (∀ j, v = .cell j → (getK j H.cells).isSome) → ({ H with cells := putK (H.last + 1) c H.cells, vars := l, last := H.last + 1 } : HS).isRef v = d := fun v d e hl => by
    rw [← e]
    unfold HS.isRef HS.cellOf
    cases v with
    | int i => rfl
    | cell j =>
      show (match getK j (putK (H.last + 1) c H.cells) with | some c => decide (c.sort = K.ref) | none => false) = (match getK j H.cells with | some c => decide (c.sort = K.ref) | none => false)
      rw [hg]
      by_cases q : j = H.last + 1
      · have := hl j rfl; rw [q, hnone] at this; cases this
      · rw [if_neg q]
  have hlv : ∀ m, m ≠ H.last + 1 → (getK m H.cells).isSome → (getK m (putK (H.last + 1) c H.cells)).isSome := fun m q hm => by rw [hg, if_neg q]; exact hm
  have tot : ∀ m, cntH m ({ H with cells := putK (H.last + 1) c H.cells, vars := l, last := H.last + 1 } : HS) + y m = if m = H.last + 1 then cntL m l + y m else cntH m H + x m := fun m => by
    have h1 := hsum m
    show cntL m l + sumF (fun c => cntL m c.slots) (putK (H.last + 1) c H.cells) + y m = _
    by_cases q : m = H.last + 1
    · subst q; rw [if_pos rfl, h1, hcells0, hsl]; omega
    · rw [if_neg q, h1]; have := hc m q
      show _ = cntL m H.vars + sumF _ _ + _; omega
  refine ⟨pw_put h.asc fun _ j hj => ?_, fun m d hd => ?_, ?_, hnd, fun m d hd => ?_, fun m d k v hd hv => ?_, fun m d hd => ?_, fun m hm => ?_, fun m d hd hds => ?_, h.bnd, fun m => ?_, fun m d hd hdb => ?_, fun m hm hv => ?_⟩
  · obtain ⟨p, hp, rfl⟩ := List.mem_map.mp hj
    have := (h.rng p.1 p.2 (getK_of_mem h.cnd hp)).2
    omega
  · have hd : getK m (putK (H.last + 1) c H.cells) = some d := hd
    rw [hg] at hd
    show 1 ≤ m ∧ m ≤ H.last + 1
    by_cases q : m = H.last + 1
    · have := h.lst; omega
    · rw [if_neg q] at hd; have := h.rng m d hd; omega
  · show 0 ≤ H.last + 1
    have := h.lst; omega
  · have hd : getK m (putK (H.last + 1) c H.cells) = some d := hd
    rw [hg] at hd
    by_cases q : m = H.last + 1
    · rw [if_pos q] at hd; cases hd; exact hsnd
    · rw [if_neg q] at hd; exact h.snd m d hd
  · have hd : getK m (putK (H.last + 1) c H.cells) = some d := hd
    rw [hg] at hd
    by_cases q : m = H.last + 1
    · rw [if_pos q] at hd; cases hd; exact hk k v hv
    · rw [if_neg q] at hd; exact h.skey m d k v hd hv
  · have hd : getK m (putK (H.last + 1) c H.cells) = some d := hd
    rw [hg] at hd
    rw [tot m]
    by_cases q : m = H.last + 1
    · rw [if_pos q] at hd; cases hd
      rw [if_pos q, q]; exact hcn
    · rw [if_neg q] at hd
      rw [if_neg q]; exact h.cnt m d hd
  · rw [tot m] at hm
    show (getK m (putK (H.last + 1) c H.cells)).isSome = true
    by_cases q : m = H.last + 1
    · rw [hg, if_pos q]; rfl
    · rw [if_neg q] at hm; exact hlv m q (h.live m hm)
  · have hd : getK m (putK (H.last + 1) c H.cells) = some d := hd
    rw [hg] at hd
    by_cases q : m = H.last + 1
    · rw [if_pos q] at hd; cases hd
      obtain ⟨v, h1, h2⟩ := hr hds
      refine ⟨v, h1, isr v false h2 fun j hj => ?_⟩
      subst hj
      by_cases q2 : j = H.last + 1
      · subst q2
        rw [h1] at hsl
        have : one (.cell (H.last + 1)) (H.last + 1) + 0 = 0 := hsl
        rw [one_self] at this; omega
      · refine h.live j ?_
        have h4 := hc j q2
        rw [h1] at h4
        have h5 : cntL j [((0 : Int), V.cell j)] = 1 := by show one (.cell j) j + 0 = 1; rw [one_self]
        unfold cntH; omega
    · rw [if_neg q] at hd
      obtain ⟨v, h1, h2⟩ := h.ref m d hd hds
      refine ⟨v, h1, isr v false h2 fun j hj => ?_⟩
      subst hj
      exact h.liveS hd (k := 0) (by rw [h1]; rfl)
  · show m ∈ H.buffer ↔ ∃ d, getK m (putK (H.last + 1) c H.cells) = some d ∧ d.buf = true
    rw [h.buf m, hg]
    by_cases q : m = H.last + 1
    · rw [if_pos q]
      constructor
      · rintro ⟨d, h1, _⟩; rw [q, hnone] at h1; cases h1
      · rintro ⟨d, h1, h2⟩; cases h1; rw [hb] at h2; cases h2
    · rw [if_neg q]
  · have hd : getK m (putK (H.last + 1) c H.cells) = some d := hd
    rw [hg] at hd
    by_cases q : m = H.last + 1
    · rw [if_pos q] at hd; cases hd; rw [hb] at hdb; cases hdb
    · rw [if_neg q] at hd; exact h.bref m d hd hdb
  · obtain ⟨h1, h2⟩ := hneg m hm hv
    refine ⟨by show m ≤ H.last + 1; omega, fun ⟨d, hd, hdd⟩ => h2 ?_⟩
    have hd : getK m (putK (H.last + 1) c H.cells) = some d := hd
    rw [hg, if_neg (by omega)] at hd
    exact ⟨d, hd, hdd⟩

/-- a cell goes -/
theorem HI.del {g : List L} {fr : Int} (h : HI H x) (hc : getK n H.cells = some c) (hz : cntH n H + x n = 0) : HI { H with cells := delK n H.cells, buffer := H.buffer.erase n, freed := fr, log := g } (fun m => x m + cntL m c.slots) := by
  have hg : ∀ m, getK m (delK n H.cells) = if m = n then none else getK m H.cells := fun m => getK_delK
  have hsum : ∀ m, sumF (fun c => cntL m c.slots) (delK n H.cells) + cntL m c.slots = sumF (fun c => cntL m c.slots) H.cells := fun m => by
    have := sumF_del (f := fun c : C => cntL m c.slots) (k := n) h.cnd
    rw [hc] at this; exact this
  have tot : ∀ m, cntH m ({ H with cells := delK n H.cells, buffer := H.buffer.erase n, freed := fr, log := g } : HS) + (x m + cntL m c.slots) = cntH m H + x m := fun m => by
    have := hsum m
    show cntL m H.vars + sumF (fun c => cntL m c.slots) (delK n H.cells) + _ = cntL m H.vars + sumF _ _ + _
    omega
  have notn : ∀ m, cntH m H + x m > 0 → m ≠ n := fun m hm q => by subst q; omega
  have isr : ∀ v, (∀ j, v = .cell j → j ≠ n) → ({ H with cells := delK n H.cells, buffer := H.buffer.erase n, freed := fr, log := g } : HS).isRef v = H.isRef v := fun v hv => by
    unfold HS.isRef HS.cellOf
    cases v with
    | int i => rfl
    | cell j =>
      show (match getK j (delK n H.cells) with | some c => decide (c.sort = K.ref) | none => false) = (match getK j H.cells with | some c => decide (c.sort = K.ref) | none => false)
      rw [hg, if_neg (hv j rfl)]
  have sub : ∀ m d, getK m (delK n H.cells) = some d → getK m H.cells = some d ∧ m ≠ n := fun m d hd => by
    rw [hg] at hd
    by_cases q : m = n
    · rw [if_pos q] at hd; cases hd
    · rw [if_neg q] at hd; exact ⟨hd, q⟩
  refine ⟨?_, fun m d hd => h.rng m d (sub m d hd).1, h.lst, h.vnd, fun m d hd => h.snd m d (sub m d hd).1, fun m d k v hd hv => h.skey m d k v (sub m d hd).1 hv, fun m d hd => ?_, fun m hm => ?_, fun m d hd hds => ?_, h.bnd.erase n, fun m => ?_, fun m d hd hdb => h.bref m d (sub m d hd).1 hdb, fun m hm hv => ?_⟩
  · show ((delK n H.cells).map (·.1)).Pairwise _
    rw [keys_del]; exact h.asc.filter _
  · rw [tot m]; exact h.cnt m d (sub m d hd).1
  · rw [tot m] at hm
    show (getK m (delK n H.cells)).isSome = true
    rw [hg, if_neg (notn m hm)]; exact h.live m hm
  · obtain ⟨h1, h2⟩ := sub m d hd
    obtain ⟨v, h3, h4⟩ := h.ref m d h1 hds
    refine ⟨v, h3, ?_⟩
    rw [isr v fun j hj => ?_]
    · exact h4
    · subst hj
      refine notn j ?_
      have h5 : one (.cell j) j ≤ cntL j d.slots := sumF_get (f := fun v => one v j) (k := 0) (by rw [h3]; rfl)
      have h6 : cntL j d.slots ≤ sumF (fun c => cntL j c.slots) H.cells := sumF_get (f := fun c : C => cntL j c.slots) h1
      rw [one_self] at h5
      unfold cntH; omega
  · show m ∈ H.buffer.erase n ↔ ∃ d, getK m (delK n H.cells) = some d ∧ d.buf = true
    rw [List.Nodup.mem_erase_iff h.bnd, h.buf m, hg]
    by_cases q : m = n
    · rw [if_pos q]
      exact ⟨fun h => absurd q h.1, fun ⟨_, h, _⟩ => by cases h⟩
    · rw [if_neg q]
      exact ⟨fun h => h.2, fun h => ⟨q, h⟩⟩
  · obtain ⟨h1, h2⟩ := h.neg m hm hv
    exact ⟨h1, fun ⟨d, hd, hdd⟩ => h2 ⟨d, (sub m d hd).1, hdd⟩⟩

/-- a cell comes into the buffer -/
theorem HI.mark {cl : Str} (h : HI H x) (hc : getK n H.cells = some c) (hb : c.buf = false) (hr : c.sort ≠ .ref) : HI { H.setC n { c with colour := cl, buf := true } with buffer := H.buffer ++ [n] } x := by
  have hg : ∀ m, getK m (putK n { c with colour := cl, buf := true } H.cells) = if m = n then some { c with colour := cl, buf := true } else getK m H.cells := fun m => getK_putK
  have hnb : n ∉ H.buffer := fun q => by
    obtain ⟨d, h1, h2⟩ := (h.buf n).mp q
    rw [hc] at h1; cases h1; rw [hb] at h2; cases h2
  have hsum : ∀ m, cntH m ({ H.setC n { c with colour := cl, buf := true } with buffer := H.buffer ++ [n] } : HS) = cntH m H := fun m => by
    have := sum_setC (f := fun c => cntL m c.slots) (c' := { c with colour := cl, buf := true }) hc
    show cntL m H.vars + sumF _ (putK n _ H.cells) = cntL m H.vars + sumF _ _
    have this : sumF (fun c => cntL m c.slots) (putK n { c with colour := cl, buf := true } H.cells) + cntL m c.slots = sumF (fun c => cntL m c.slots) H.cells + cntL m c.slots := this
    omega
  have get : ∀ m d, getK m (putK n { c with colour := cl, buf := true } H.cells) = some d → ∃ e, getK m H.cells = some e ∧ d.sort = e.sort ∧ d.slots = e.slots ∧ d.count = e.count ∧ d.due = e.due := fun m d hd => by
    rw [hg] at hd
    by_cases q : m = n
    · rw [if_pos q] at hd; cases hd; subst q; exact ⟨c, hc, rfl, rfl, rfl, rfl⟩
    · rw [if_neg q] at hd; exact ⟨d, hd, rfl, rfl, rfl, rfl⟩
  have isr : ∀ v, ({ H.setC n { c with colour := cl, buf := true } with buffer := H.buffer ++ [n] } : HS).isRef v = H.isRef v := fun v => cellOf_setC_sort (c' := { c with colour := cl, buf := true }) hc rfl
  refine ⟨?_, fun m d hd => ?_, h.lst, h.vnd, fun m d hd => ?_, fun m d k v hd hv => ?_, fun m d hd => ?_, fun m hm => ?_, fun m d hd hds => ?_, ?_, fun m => ?_, fun m d hd hdb => ?_, fun m hm hv => ?_⟩
  · show ((putK n _ H.cells).map (·.1)).Pairwise _
    rw [keys_put_some hc]; exact h.asc
  · obtain ⟨e, h1, h2⟩ := get m d hd; exact h.rng m e h1
  · obtain ⟨e, h1, h2, h3, h4⟩ := get m d hd; rw [h3]; exact h.snd m e h1
  · obtain ⟨e, h1, h2, h3, h4⟩ := get m d hd; rw [h3] at hv; exact h.skey m e k v h1 hv
  · obtain ⟨e, h1, h2, h3, h4, h5⟩ := get m d hd; rw [h4, hsum]; exact h.cnt m e h1
  · rw [hsum] at hm
    show (getK m (putK n _ H.cells)).isSome = true
    rw [hg]
    by_cases q : m = n
    · rw [if_pos q]; rfl
    · rw [if_neg q]; exact h.live m hm
  · obtain ⟨e, h1, h2, h3, h4⟩ := get m d hd
    obtain ⟨v, h5, h6⟩ := h.ref m e h1 (by rw [← h2]; exact hds)
    exact ⟨v, by rw [h3]; exact h5, by rw [isr]; exact h6⟩
  · show (H.buffer ++ [n]).Nodup
    rw [List.nodup_append]
    exact ⟨h.bnd, by simp, fun a ha b hb e => by rw [List.mem_singleton] at hb; exact hnb (by rw [← hb, ← e]; exact ha)⟩
  · show m ∈ H.buffer ++ [n] ↔ ∃ d, getK m (putK n { c with colour := cl, buf := true } H.cells) = some d ∧ d.buf = true
    rw [List.mem_append, List.mem_singleton, h.buf m, hg]
    by_cases q : m = n
    · rw [if_pos q]; exact ⟨fun _ => ⟨_, rfl, rfl⟩, fun _ => .inr q⟩
    · rw [if_neg q]; exact ⟨fun h => h.elim id fun e => absurd e q, fun h => .inl h⟩
  · have hd : getK m (putK n { c with colour := cl, buf := true } H.cells) = some d := hd
    rw [hg] at hd
    by_cases q : m = n
    · rw [if_pos q] at hd; cases hd; exact hr
    · rw [if_neg q] at hd; exact h.bref m d hd hdb
  · obtain ⟨h1, h2⟩ := h.neg m hm hv
    refine ⟨h1, fun ⟨d, hd, hdd⟩ => ?_⟩
    obtain ⟨e, h3, h4, h5, h6, h7⟩ := get m d hd
    exact h2 ⟨e, h3, by rw [← h7]; exact hdd⟩
end
end
/-! Q3 -/
section
set_option autoImplicit false

def wc (c : C) : WC := ⟨c.sort, c.slots, c.due⟩
/-- the law's own heap that goes with a counted heap -/
def toW (H : HS) (ts : List T) (hd : List V) : WS := { cells := H.cells.map fun p => (p.1, wc p.2), vars := H.vars, log := H.log, tasks := ts, hand := hd, last := H.last }
def LiveV (H : HS) (v : V) : Prop := ∀ n, v = .cell n → (getK n H.cells).isSome
def lsN (n : Int) : List V → Nat
  | [] => 0
  | v :: r => one v n + lsN n r
theorem lsN_append {n : Int} : ∀ {a b : List V}, lsN n (a ++ b) = lsN n a + lsN n b
  | [], b => by show _ = 0 + _; rw [Nat.zero_add]; rfl
  | v :: a, b => by show one v n + lsN n (a ++ b) = one v n + lsN n a + lsN n b; rw [lsN_append]; omega

theorem sub_len : ∀ {l m : List Int}, l.Nodup → (∀ a ∈ l, a ∈ m) → l.length ≤ m.length
  | [], _, _, _ => Nat.zero_le _
  | a :: l, m, nd, h => by
    rw [List.nodup_cons] at nd
    have h1 : a ∈ m := h a (.head _)
    have := sub_len (l := l) (m := m.erase a) nd.2 fun b hb => (List.mem_erase_of_ne (fun e => nd.1 (by rw [← e]; exact hb))).mpr (h b (.tail _ hb))
    rw [List.length_erase_of_mem h1] at this
    have h2 : 0 < m.length := List.length_pos_of_mem h1
    rw [List.length_cons]; omega

structure Sz (H : HS) : Prop where
  e : H.E ≤ 90000
  last : H.last ≤ 90000
  log : H.log.length ≤ 90000

section
variable {H H' H'' : HS} {x y : Int → Nat} {n m k : Int} {c c' : C} {v w : V} {ts : List T} {hd : List V} {l : List (Int × V)}

theorem HI.cells_len (h : HI H x) : (H.cells.length : Int) ≤ H.last := by
  have h1 := sub_len (l := H.cells.map (·.1)) (m := (List.range H.last.toNat).map fun (i : Nat) => (i : Int) + 1) h.cnd fun a ha => by
    obtain ⟨p, hp, rfl⟩ := List.mem_map.mp ha
    have := h.rng p.1 p.2 (getK_of_mem h.cnd hp)
    refine List.mem_map.mpr ⟨(p.1 - 1).toNat, List.mem_range.mpr (by omega), ?_⟩
    show (((p.1 - 1).toNat : Nat) : Int) + 1 = p.1
    omega
  rw [List.length_map, List.length_map, List.length_range] at h1
  have := h.lst
  omega
theorem HI.buf_len (h : HI H x) : H.buffer.length ≤ H.cells.length := by
  have := sub_len (l := H.buffer) (m := H.cells.map (·.1)) h.bnd fun a ha => by
    obtain ⟨c, hc, _⟩ := (h.buf a).mp ha
    exact getK_some_mem hc
  rwa [List.length_map] at this
theorem Sz.vars (z : Sz H) : H.vars.length ≤ 90000 := Nat.le_trans (Nat.le_add_right _ _) z.e
theorem Sz.slots (z : Sz H) (hc : getK n H.cells = some c) : c.slots.length ≤ 90000 := by
  have h1 : c.slots.length ≤ sumF (fun c => c.slots.length) H.cells := sumF_get (f := fun c : C => c.slots.length) hc
  have h2 := z.e
  unfold HS.E at h2; omega
theorem Sz.pl {p : Pl} (z : Sz H) (hp : H.pl p = some l) : l.length ≤ 90000 := by
  cases p with
  | vars => cases hp; exact z.vars
  | slots n =>
    have hp : (getK n H.cells).map (·.slots) = some l := hp
    cases e : getK n H.cells with
    | none => rw [e] at hp; cases hp
    | some c => rw [e] at hp; cases hp; exact z.slots e

theorem toW_get : getK n (toW H ts hd).cells = (getK n H.cells).map wc := getK_mapv (f := fun _ c => wc c)
theorem toW_pl {p : Pl} : (toW H ts hd).pl p = H.pl p := by
  cases p with
  | vars => rfl
  | slots n => show (getK n (toW H ts hd).cells).map _ = (getK n H.cells).map _; rw [toW_get]; cases getK n H.cells <;> rfl
theorem toW_setC (hc : getK n H.cells = some c) (e : wc c' = wc c) : toW (H.setC n c') ts hd = toW H ts hd := by
  have : (putK n c' H.cells).map (fun p => (p.1, wc p.2)) = H.cells.map fun p => (p.1, wc p.2) := by
    rw [← putK_mapv (f := fun _ c => wc c), e, putK_old]
    rw [getK_mapv (f := fun _ c => wc c), hc]; rfl
  unfold toW HS.setC
  rw [this]
theorem toW_setC2 : toW (H.setC n c') ts hd = (toW H ts hd).setC n (wc c') := by
  unfold toW HS.setC WS.setC
  simp only
  rw [← putK_mapv (f := fun _ c => wc c)]
theorem toW_setPl {p : Pl} (hp : H.pl p = some l) {l' : List (Int × V)} : (toW H ts hd).setPl p l' = toW (H.setPl p l') ts hd := by
  cases p with
  | vars => rfl
  | slots n =>
    have hp : (getK n H.cells).map (·.slots) = some l := hp
    cases e : getK n H.cells with
    | none => rw [e] at hp; cases hp
    | some c =>
      show (match getK n (toW H ts hd).cells with | some c => (toW H ts hd).setC n { c with slots := l' } | none => toW H ts hd) = toW (match getK n H.cells with | some c => H.setC n { c with slots := l' } | none => H) ts hd
      rw [toW_get, e]
      show (toW H ts hd).setC n { wc c with slots := l' } = toW (H.setC n { c with slots := l' }) ts hd
      rw [toW_setC2]; rfl
theorem toW_isRef (hv : LiveV H v) : (toW H ts hd).isRef v = some (H.isRef v) := by
  cases v with
  | int i => rfl
  | cell n =>
    obtain ⟨c, hc⟩ := Option.isSome_iff_exists.mp (hv n rfl)
    show (getK n (toW H ts hd).cells).map _ = _
    rw [toW_get, hc, isRef_some (H := H) (v := .cell n) hc]; rfl
theorem LiveV.int {i : Int} : LiveV H (.int i) := fun _ e => by cases e
theorem LiveV.cell (hc : getK n H.cells = some c) : LiveV H (.cell n) := fun _ e => by cases e; rw [hc]; rfl
theorem LiveV.get (hv : LiveV H (.cell n)) : ∃ c, getK n H.cells = some c := Option.isSome_iff_exists.mp (hv n rfl)
theorem HI.liveVar (h : HI H x) : LiveV H (H.var k) := fun n e => by
  unfold HS.var at e
  cases hg : getK k H.vars with
  | none => rw [hg] at e; cases e
  | some v => rw [hg] at e; have e : v = .cell n := e; subst e; exact h.liveV hg
theorem HI.liveSlot (h : HI H x) (hc : getK n H.cells = some c) (hg : getK k c.slots = some v) : LiveV H v := fun j e => by
  subst e; exact h.liveS hc hg
theorem HI.pl_live {p : Pl} (h : HI H x) (hp : H.pl p = some l) (hg : getK k l = some v) : LiveV H v := by
  cases p with
  | vars => cases hp; exact fun n e => by subst e; exact h.liveV hg
  | slots n =>
    have hp : (getK n H.cells).map (·.slots) = some l := hp
    cases e : getK n H.cells with
    | none => rw [e] at hp; cases hp
    | some c => rw [e] at hp; cases hp; exact h.liveSlot e hg
theorem HI.refOf (h : HI H x) (hr : H.isRef v = true) : ∃ n c u, v = .cell n ∧ getK n H.cells = some c ∧ c.sort = .ref ∧ c.slots = [(0, u)] ∧ H.isRef u = false ∧ LiveV H u := by
  cases v with
  | int i => cases hr
  | cell n =>
    cases hc : getK n H.cells with
    | none => rw [isRef_none (H := H) (v := .cell n) hc] at hr; cases hr
    | some c =>
      rw [isRef_some (H := H) (v := .cell n) hc, decide_eq_true_eq] at hr
      obtain ⟨u, h1, h2⟩ := h.ref n c hc hr
      exact ⟨n, c, u, rfl, hc, hr, h1, h2, h.liveSlot hc (k := 0) (by rw [h1]; rfl)⟩
theorem inner_ok (h : HI H x) (hv : LiveV H v) : ∃ w, H.inner v = some w ∧ (∀ ts hd, (toW H ts hd).inner v = some w) ∧ LiveV H w ∧ H.isRef w = false := by
  cases hr : H.isRef v with
  | false =>
    refine ⟨v, by unfold HS.inner; rw [hr]; rfl, fun ts hd => ?_, hv, hr⟩
    unfold WS.inner
    rw [toW_isRef hv, hr]; rfl
  | true =>
    obtain ⟨n, c, u, rfl, hc, hs, hl, hu, hlu⟩ := h.refOf hr
    refine ⟨u, ?_, fun ts hd => ?_, hlu, hu⟩
    · unfold HS.inner
      rw [hr, if_pos rfl, show H.cellOf (.cell n) = some c from hc, Option.bind_some, hl]; rfl
    · unfold WS.inner
      rw [toW_isRef hv, hr, Option.bind_some, if_pos rfl, show V.num (.cell n) = n from rfl, toW_get, hc]
      show getK 0 (wc c).slots = some u
      show getK 0 c.slots = some u
      rw [hl]; rfl
theorem value_ok (h : HI H x) : ∃ w, H.valueOf k = some w ∧ (∀ ts hd, (toW H ts hd).valueOf k = some w) ∧ LiveV H w ∧ H.isRef w = false := inner_ok h h.liveVar

/-- how far a deed's step may go -/
structure Grow (H H' : HS) (dl dE dr dd dg k : Nat) : Prop where
  last : H.last ≤ H'.last ∧ H'.last ≤ H.last + dl
  e : H'.E + k ≤ H.E + dE
  nr : H'.nr ≤ H.nr + dr
  dn : H'.dn ≤ H.dn + dd
  log : H'.log.length ≤ H.log.length + dg
  due : ∀ m, H'.Due m → H.Due m ∨ H.last < m
  keep : ∀ m c, getK m H.cells = some c → ∃ c', getK m H'.cells = some c' ∧ c'.sort = c.sort
theorem Grow.refl : Grow H H 0 0 0 0 0 0 := ⟨⟨Int.le_refl _, by omega⟩, Nat.le_refl _, Nat.le_refl _, Nat.le_refl _, Nat.le_refl _, fun _ h => .inl h, fun _ c h => ⟨c, h, rfl⟩⟩
theorem Grow.trans {a1 a2 a3 a4 a5 a6 b1 b2 b3 b4 b5 b6 : Nat} (g : Grow H H' a1 a2 a3 a4 a5 a6) (g' : Grow H' H'' b1 b2 b3 b4 b5 b6) : Grow H H'' (a1 + b1) (a2 + b2) (a3 + b3) (a4 + b4) (a5 + b5) (a6 + b6) := by
  have l1 := g.last; have l2 := g'.last; have e1 := g.e; have e2 := g'.e; have r1 := g.nr; have r2 := g'.nr; have d1 := g.dn; have d2 := g'.dn; have o1 := g.log; have o2 := g'.log
  refine ⟨⟨by omega, by omega⟩, by omega, by omega, by omega, by omega, fun m h => ?_, fun m c h => ?_⟩
  · rcases g'.due m h with h | h
    · exact g.due m h
    · exact .inr (by omega)
  · obtain ⟨c1, h1, h2⟩ := g.keep m c h
    obtain ⟨c2, h3, h4⟩ := g'.keep m c1 h1
    exact ⟨c2, h3, h4.trans h2⟩
theorem Grow.le {a1 a2 a3 a4 a5 a6 b1 b2 b3 b4 b5 b6 : Nat} (g : Grow H H' a1 a2 a3 a4 a5 a6) (h1 : a1 ≤ b1) (h2 : a2 + b6 ≤ b2 + a6) (h3 : a3 ≤ b3) (h4 : a4 ≤ b4) (h5 : a5 ≤ b5) : Grow H H' b1 b2 b3 b4 b5 b6 := by
  have l1 := g.last; have e1 := g.e; have r1 := g.nr; have d1 := g.dn; have o1 := g.log
  exact ⟨⟨by omega, by omega⟩, by omega, by omega, by omega, by omega, g.due, g.keep⟩
theorem Grow.live {a1 a2 a3 a4 a5 a6 : Nat} (g : Grow H H' a1 a2 a3 a4 a5 a6) (hv : LiveV H v) : LiveV H' v := fun n e => by
  obtain ⟨c, hc⟩ := Option.isSome_iff_exists.mp (hv n e)
  obtain ⟨c', h, _⟩ := g.keep n c hc
  rw [h]; rfl
theorem Grow.isRef {a1 a2 a3 a4 a5 a6 : Nat} (g : Grow H H' a1 a2 a3 a4 a5 a6) (hv : LiveV H v) : H'.isRef v = H.isRef v := by
  cases v with
  | int i => rfl
  | cell n =>
    obtain ⟨c, hc⟩ := hv.get
    obtain ⟨c', h1, h2⟩ := g.keep n c hc
    rw [isRef_some (H := H') (v := .cell n) h1, isRef_some (H := H) (v := .cell n) hc, h2]

theorem Grow.setC {d : Nat} (hc : getK n H.cells = some c) (hs : c'.sort = c.sort) (hl : c'.slots.length ≤ c.slots.length + d) (hdue : c'.due = true → c.due = true) : Grow H (H.setC n c') 0 d 0 0 0 0 := by
  refine ⟨⟨Int.le_refl _, by show H.last ≤ H.last + 0; omega⟩, ?_, ?_, ?_, Nat.le_refl _, fun m ⟨e, he, hed⟩ => .inl ?_, fun m e he => ?_⟩
  · have := sum_setC (f := fun c => c.slots.length) (c' := c') hc
    unfold HS.E
    show H.vars.length + _ + 0 ≤ H.vars.length + _ + d
    omega
  · have := sum_setC (f := fun c => if c.sort = .ref then 0 else 1) (c' := c') hc
    unfold HS.nr
    simp only [hs] at this
    omega
  · have := sum_setC (f := fun c => if c.due = true then 1 else 0) (c' := c') hc
    unfold HS.dn
    have h2 : (if c'.due = true then 1 else 0) ≤ (if c.due = true then 1 else 0) := by
      by_cases q : c'.due = true
      · rw [if_pos q, if_pos (hdue q)]; exact Nat.le_refl _
      · rw [if_neg q]; exact Nat.zero_le _
    omega
  · rw [getK_setC] at he
    by_cases q : m = n
    · subst q; rw [if_pos rfl] at he; cases he; exact ⟨c, hc, hdue hed⟩
    · rw [if_neg q] at he; exact ⟨e, he, hed⟩
  · rw [getK_setC]
    by_cases q : m = n
    · subst q; rw [hc] at he; cases he; rw [if_pos rfl]; exact ⟨c', rfl, hs⟩
    · rw [if_neg q]; exact ⟨e, he, rfl⟩
theorem Grow.setVars {d k : Nat} (hl : l.length + k ≤ H.vars.length + d) : Grow H { H with vars := l } 0 d 0 0 0 k :=
  ⟨⟨Int.le_refl _, by show H.last ≤ H.last + 0; omega⟩, by unfold HS.E; show l.length + sumF (fun c => c.slots.length) H.cells + k ≤ H.vars.length + sumF (fun c => c.slots.length) H.cells + d; omega, Nat.le_refl _, Nat.le_refl _, Nat.le_refl _, fun _ h => .inl h, fun _ c h => ⟨c, h, rfl⟩⟩

theorem gain_ok (h : HI H x) (hv : LiveV H v) : HI (H.gain v) (fun n => x n + one v n) ∧ (∀ ts hd, toW (H.gain v) ts hd = toW H ts hd) ∧ Grow H (H.gain v) 0 0 0 0 0 0 ∧ ∀ m c, getK m H.cells = some c → ∃ c', getK m (H.gain v).cells = some c' ∧ wc c' = wc c := by
  cases v with
  | int i => exact ⟨h.congr fun _ => rfl, fun _ _ => rfl, Grow.refl, fun m c hc => ⟨c, hc, rfl⟩⟩
  | cell n =>
    obtain ⟨c, hc⟩ := hv.get
    have e : H.gain (.cell n) = H.setC n { c with count := c.count + 1 } := by
      unfold HS.gain; rw [show H.cellOf (.cell n) = some c from hc]; rfl
    rw [e]
    refine ⟨h.setCount hc rfl rfl rfl ?_ (fun m hm => by rw [one_ne (fun q => hm q.symm)]; rfl) (fun q => .inl q), fun _ _ => toW_setC hc rfl, Grow.setC hc rfl (Nat.le_refl _) id, fun m d hd => ?_⟩
    · have := h.cnt n c hc
      show c.count + 1 = _
      rw [one_self]; omega
    · rw [getK_setC]
      by_cases q : m = n
      · subst q; rw [hc] at hd; cases hd; rw [if_pos rfl]; exact ⟨_, rfl, rfl⟩
      · rw [if_neg q]; exact ⟨d, hd, rfl⟩
end
end
/-! Q4 -/
section
set_option autoImplicit false

/-- a place of H that v may be written to, under k -/
def PlOK (H : HS) (k : Int) (v : V) : Pl → Prop
  | .vars => ∀ m, 1 ≤ m → k = -m → m ≤ H.last ∧ ¬ H.Due m
  | .slots n => ∃ c, getK n H.cells = some c ∧ (0 ≤ k ∧ k ≤ 2) ∧ (c.sort = .ref → k = 0 ∧ H.isRef v = false)
section
variable {H H' H'' : HS} {x y : Int → Nat} {n m k a : Int} {c c' : C} {v w : V} {ts : List T} {hd : List V} {l : List (Int × V)} {p : Pl}
theorem lsN_toList {o : Option V} : lsN n o.toList = oneO o n := by cases o <;> rfl
theorem len_put : (putK k v l).length + (getK k l).toList.length = l.length + 1 := by
  have := sumF_put (f := fun _ : V => 1) (k := k) (v := v) (l := l)
  rw [← len_sumF, ← len_sumF] at this
  have e : optF (fun _ : V => 1) (getK k l) = (getK k l).toList.length := by cases getK k l <;> rfl
  rw [e] at this; exact this
theorem cnt_put : cntL n (putK k v l) + lsN n (getK k l).toList = cntL n l + one v n := by
  rw [lsN_toList]; exact sumF_put
theorem PlOK.some (q : PlOK H k v p) : ∃ l, H.pl p = some l := by
  cases p with
  | vars => exact ⟨_, rfl⟩
  | slots n => obtain ⟨c, hc, _⟩ := q; exact ⟨c.slots, by show (getK n H.cells).map _ = _; rw [hc]; rfl⟩
theorem E_setC (hc : getK n H.cells = some c) : (H.setC n c').E + c.slots.length = H.E + c'.slots.length := by
  have := sum_setC (f := fun c => c.slots.length) (c' := c') hc
  unfold HS.E
  show H.vars.length + _ + _ = H.vars.length + _ + _
  omega
theorem Grow.setC' {d j : Nat} (hc : getK n H.cells = some c) (hs : c'.sort = c.sort) (hl : c'.slots.length + j ≤ c.slots.length + d) (hdue : c'.due = true → c.due = true) : Grow H (H.setC n c') 0 d 0 0 0 j := by
  have g := Grow.setC (c' := c') (d := c'.slots.length) hc hs (by omega) hdue
  have := E_setC (c' := c') hc
  exact ⟨g.last, by omega, g.nr, g.dn, g.log, g.due, g.keep⟩

theorem replaced_at (h : HI H (fun n => x n + one v n)) (z : Sz H) (q : PlOK H k v p) (hl : H.pl p = some l) : H.replaced p k v = some (H.setPl p (putK k v l), (getK k l).toList) ∧ (∀ ts hd, (toW H ts hd).replaced p k v = some (toW (H.setPl p (putK k v l)) ts hd, (getK k l).toList)) ∧
    HI (H.setPl p (putK k v l)) (fun n => x n + lsN n (getK k l).toList) ∧ Grow H (H.setPl p (putK k v l)) 0 1 0 0 0 (getK k l).toList.length := by
  have hz := z.pl hl
  refine ⟨?_, fun ts hd => ?_, ?_, ?_⟩
  · unfold HS.replaced; rw [hl, Option.bind_some, if_pos (by omega)]
  · unfold WS.replaced; rw [toW_pl, hl, Option.bind_some, if_pos (by omega), toW_setPl hl]
  · cases p with
    | vars =>
      cases hl
      refine h.setVars (nodup_put h.vnd) (fun m => ?_) fun m hm hg => ?_
      · have := cnt_put (n := m) (k := k) (v := v) (l := H.vars); omega
      · rw [getK_putK] at hg
        by_cases e : -m = k
        · exact q m hm e.symm
        · rw [if_neg e] at hg; exact h.neg m hm hg
    | slots n =>
      obtain ⟨c, hc, hk, hr⟩ := q
      have hl : (getK n H.cells).map (·.slots) = some l := hl
      rw [hc] at hl; have hl : some c.slots = some l := hl; cases hl
      show HI (match getK n H.cells with | some c' => H.setC n { c' with slots := putK k v c.slots } | none => H) _
      rw [hc]
      refine h.setC hc rfl rfl (nodup_put (h.snd n c hc)) (fun j u hj => ?_) (fun hs => ?_) ?_ (fun m => .inl ?_) (fun _ => trivial) (fun e => .inl e)
      · rw [getK_putK] at hj
        by_cases e : j = k
        · rw [e]; exact hk
        · rw [if_neg e] at hj; exact h.skey n c j u hc hj
      · obtain ⟨u, hu, _⟩ := h.ref n c hc hs
        obtain ⟨hk0, hv⟩ := hr hs
        exact ⟨v, by rw [hk0, hu]; rfl, hv⟩
      · have h1 := h.cnt n c hc
        have h2 := cnt_put (n := n) (k := k) (v := v) (l := c.slots)
        show c.count + _ = ((cntH n H + cntL n (putK k v c.slots) + _ : Nat) : Int)
        omega
      · have h2 := cnt_put (n := m) (k := k) (v := v) (l := c.slots)
        show cntL m (putK k v c.slots) + _ = _
        omega
  · cases p with
    | vars => cases hl; exact Grow.setVars (by rw [len_put]; exact Nat.le_refl _)
    | slots n =>
      obtain ⟨c, hc, hk, hr⟩ := q
      have hl : (getK n H.cells).map (·.slots) = some l := hl
      rw [hc] at hl; have hl : some c.slots = some l := hl; cases hl
      show Grow H (match getK n H.cells with | some c' => H.setC n { c' with slots := putK k v c.slots } | none => H) _ _ _ _ _ _
      rw [hc]
      exact Grow.setC' hc rfl (by show (putK k v c.slots).length + _ ≤ _; rw [len_put]; exact Nat.le_refl _) id

theorem replaced_ok (h : HI H (fun n => x n + one v n)) (z : Sz H) (q : PlOK H k v p) : ∃ H' ls, H.replaced p k v = some (H', ls) ∧ (∀ ts hd, (toW H ts hd).replaced p k v = some (toW H' ts hd, ls)) ∧
    HI H' (fun n => x n + lsN n ls) ∧ Grow H H' 0 1 0 0 0 ls.length := by
  obtain ⟨l, hl⟩ := q.some
  exact ⟨_, _, replaced_at h z q hl⟩

theorem cnt_del (nd : (l.map (·.1)).Nodup) (hk : getK k l = some v) : cntL n (delK k l) + one v n = cntL n l := by
  have := sumF_del (f := fun v => one v n) (k := k) nd
  rw [hk] at this; exact this
theorem len_del (nd : (l.map (·.1)).Nodup) (hk : getK k l = some v) : (delK k l).length + 1 = l.length := by
  have := sumF_del (f := fun _ : V => 1) (k := k) nd
  rw [hk, ← len_sumF, ← len_sumF] at this; exact this
/-- a place of H out of which a key may go -/
def OutOK (H : HS) : Pl → Prop
  | .vars => True
  | .slots n => ∃ c, getK n H.cells = some c ∧ c.sort ≠ .ref
theorem takenOut_ok (h : HI H x) (z : Sz H) (q : OutOK H p) : ∃ H' ls, H.takenOut p k = some (H', ls) ∧ (∀ ts hd, (toW H ts hd).takenOut p k = some (toW H' ts hd, ls)) ∧
    HI H' (fun n => x n + lsN n ls) ∧ Grow H H' 0 0 0 0 0 ls.length := by
  have hl : ∃ l, H.pl p = some l := by
    cases p with
    | vars => exact ⟨_, rfl⟩
    | slots n => obtain ⟨c, hc, _⟩ := q; exact ⟨c.slots, by show (getK n H.cells).map _ = _; rw [hc]; rfl⟩
  obtain ⟨l, hl⟩ := hl
  have hz := z.pl hl
  cases hk : getK k l with
  | none =>
    refine ⟨H, [], ?_, fun ts hd => ?_, h.congr fun n => ?_, Grow.refl⟩
    · unfold HS.takenOut; rw [hl, Option.bind_some, hk]
    · unfold WS.takenOut; rw [toW_pl, hl, Option.bind_some, hk]
    · rfl
  | some v =>
    refine ⟨H.setPl p (delK k l), [v], ?_, fun ts hd => ?_, ?_, ?_⟩
    · unfold HS.takenOut; rw [hl, Option.bind_some, hk]; show (if _ then _ else _) = _; rw [if_pos (by omega)]
    · unfold WS.takenOut; rw [toW_pl, hl, Option.bind_some, hk]; show (if _ then _ else _) = _; rw [if_pos (by omega), toW_setPl hl]
    · cases p with
      | vars =>
        cases hl
        refine h.setVars (nodup_del h.vnd) (fun m => ?_) fun m hm hg => ?_
        · have := cnt_del (n := m) h.vnd hk
          show _ + (_ + (_ + 0)) = _; omega
        · rw [getK_delK] at hg
          by_cases e : -m = k
          · rw [if_pos e] at hg; cases hg
          · rw [if_neg e] at hg; exact h.neg m hm hg
      | slots n =>
        obtain ⟨c, hc, hs⟩ := q
        have hl : (getK n H.cells).map (·.slots) = some l := hl
        rw [hc] at hl; have hl : some c.slots = some l := hl; cases hl
        show HI (match getK n H.cells with | some c' => H.setC n { c' with slots := delK k c.slots } | none => H) _
        rw [hc]
        refine h.setC hc rfl rfl (nodup_del (h.snd n c hc)) (fun j u hj => ?_) (fun hs' => absurd hs' hs) ?_ (fun m => .inl ?_) (fun _ => trivial) (fun e => .inl e)
        · rw [getK_delK] at hj
          by_cases e : j = k
          · rw [if_pos e] at hj; cases hj
          · rw [if_neg e] at hj; exact h.skey n c j u hc hj
        · have h1 := h.cnt n c hc
          have h2 := cnt_del (n := n) (h.snd n c hc) hk
          show c.count + _ = ((cntH n H + cntL n (delK k c.slots) + (_ + (_ + 0)) : Nat) : Int)
          omega
        · have h2 := cnt_del (n := m) (h.snd n c hc) hk
          show cntL m (delK k c.slots) + (_ + (_ + 0)) = _
          omega
    · cases p with
      | vars => cases hl; exact Grow.setVars (by have := len_del h.vnd hk; show (delK k H.vars).length + 1 ≤ _; omega)
      | slots n =>
        obtain ⟨c, hc, hs⟩ := q
        have hl : (getK n H.cells).map (·.slots) = some l := hl
        rw [hc] at hl; have hl : some c.slots = some l := hl; cases hl
        show Grow H (match getK n H.cells with | some c' => H.setC n { c' with slots := delK k c.slots } | none => H) _ _ _ _ _ _
        rw [hc]
        exact Grow.setC' hc rfl (by have := len_del (h.snd n c hc) hk; show (delK k c.slots).length + 1 ≤ _; omega) id

theorem written_ok (h : HI H (fun n => x n + one v n)) (z : Sz H) (q : PlOK H k v p) (hv : H.isRef v = false) : ∃ H' ls, H.written p k v = some (H', ls) ∧ (∀ ts hd, (toW H ts hd).write p k v true = some (toW H' ts hd, ls)) ∧
    HI H' (fun n => x n + lsN n ls) ∧ Grow H H' 0 1 0 0 0 ls.length := by
  obtain ⟨l, hl⟩ := q.some
  unfold HS.written WS.write
  rw [hl, Option.bind_some]
  simp only [toW_pl, hl, Option.bind_some]
  cases hk : getK k l with
  | none => exact replaced_ok h z q
  | some w =>
    have hlw := h.pl_live hl hk
    simp only [if_true, toW_isRef hlw, Option.bind_some]
    cases hr : H.isRef w with
    | false => exact replaced_ok h z q
    | true =>
      obtain ⟨n, c, u, rfl, hc, hs, _, _, _⟩ := h.refOf hr
      exact replaced_ok h z ⟨c, hc, ⟨by decide, by decide⟩, fun _ => ⟨rfl, hv⟩⟩
theorem write_false (q : PlOK H k v p) : (toW H ts hd).write p k v false = (toW H ts hd).replaced p k v := by
  obtain ⟨l, hl⟩ := q.some
  unfold WS.write
  rw [toW_pl, hl, Option.bind_some]
  cases getK k l <;> rfl
end
end
/-! Q5 -/
section
set_option autoImplicit false

structure Sz0 (H : HS) : Prop where
  e : H.E ≤ 85000
  last : H.last ≤ 85000
  log : H.log.length ≤ 85000
def NC (H : HS) (c : C) : HS := { H with last := H.last + 1, cells := putK (H.last + 1) c H.cells }
section
variable {H H' H'' : HS} {x y : Int → Nat} {n m k a : Int} {c c' : C} {v w : V} {ts : List T} {hd : List V} {l : List (Int × V)} {p : Pl}
theorem Sz0.sz (z : Sz0 H) : Sz H := ⟨by have := z.e; omega, by have := z.last; omega, by have := z.log; omega⟩
theorem Grow.sz {a1 a2 a3 a4 a5 a6 : Nat} (g : Grow H H' a1 a2 a3 a4 a5 a6) (z : Sz0 H) (h : a1 + a2 + a5 ≤ 1000) : Sz H' := by
  have l1 := g.last; have e1 := g.e; have o1 := g.log; have := z.e; have := z.last; have := z.log
  exact ⟨by omega, by omega, by omega⟩
theorem HI.fresh (h : HI H x) : getK (H.last + 1) H.cells = none := by
  cases e : getK (H.last + 1) H.cells with
  | none => rfl
  | some d => have := h.rng _ d e; omega
theorem HI.zero (h : HI H x) (hn : getK n H.cells = none) : cntH n H + x n = 0 := by
  by_cases q : cntH n H + x n > 0
  · have := h.live _ q; rw [hn] at this; cases this
  · omega
theorem newCell_eq {K : K} (h : HI H x) (z : Sz H) : H.newCell K = some (NC H (newC K)) := by
  unfold HS.newCell
  rw [h.fresh, if_pos ⟨rfl, by have := h.cells_len; have := z.last; omega⟩]; rfl
theorem NC_get : getK m (NC H c).cells = if m = H.last + 1 then some c else getK m H.cells := getK_putK
theorem NC_self : getK (H.last + 1) (NC H c).cells = some c := by rw [NC_get, if_pos rfl]
theorem NC_setC : (NC H c).setC (H.last + 1) c' = NC H c' := by
  unfold HS.setC NC; simp only [putK_putK]
theorem NC_gain : (NC H c).gain (.cell (H.last + 1)) = NC H { c with count := c.count + 1 } := by
  unfold HS.gain
  rw [show (NC H c).cellOf (.cell (H.last + 1)) = some c from NC_self]
  exact NC_setC
theorem NC_toW : toW (NC H c) ts hd = { toW H ts hd with last := H.last + 1, cells := putK (H.last + 1) (wc c) (toW H ts hd).cells } := by
  unfold toW NC; simp only; rw [← putK_mapv (f := fun _ c => wc c)]
theorem NC_toW_eq (e : wc c = wc c') : toW (NC H c) ts hd = toW (NC H c') ts hd := by rw [NC_toW, NC_toW, e]
theorem newCellW_eq {b : Bool} (h : HI H x) (z : Sz H) (e : wc c = ⟨c.sort, [], b⟩) : (toW H ts hd).newCell c.sort b = some (toW (NC H c) ts hd) := by
  unfold WS.newCell
  have h1 : getK ((toW H ts hd).last + 1) (toW H ts hd).cells = none := by
    show getK (H.last + 1) (toW H ts hd).cells = none
    rw [toW_get, h.fresh]; rfl
  rw [h1, if_pos ⟨rfl, by show (H.cells.map _).length ≤ _; rw [List.length_map]; have := h.cells_len; have := z.last; omega⟩, NC_toW, e]; rfl
theorem Grow.nc (h : HI H x) : Grow H (NC H c) 1 c.slots.length (if c.sort = .ref then 0 else 1) (if c.due = true then 1 else 0) 0 0 := by
  have s : ∀ f : C → Nat, sumF f (NC H c).cells = sumF f H.cells + f c := fun f => by
    have := sumF_put (f := f) (k := H.last + 1) (v := c) (l := H.cells)
    rw [h.fresh] at this; exact this
  refine ⟨⟨by show H.last ≤ H.last + 1; omega, by show H.last + 1 ≤ H.last + 1; omega⟩, ?_, ?_, ?_, Nat.le_refl _, fun m ⟨d, hd, hdd⟩ => ?_, fun m d hd => ?_⟩
  · unfold HS.E; rw [s]; show H.vars.length + _ + 0 ≤ _; omega
  · unfold HS.nr; rw [s]; exact Nat.le_refl _
  · unfold HS.dn; rw [s]; exact Nat.le_refl _
  · rw [NC_get] at hd
    by_cases q : m = H.last + 1
    · right; omega
    · rw [if_neg q] at hd; exact .inl ⟨d, hd, hdd⟩
  · refine ⟨d, ?_, rfl⟩
    rw [NC_get, if_neg, hd]
    intro q; rw [q, h.fresh] at hd; cases hd
/-- a new cell that x' holds -/
theorem HI.nc (h : HI H x) (hb : c.buf = false) (hs : c.sort ≠ .ref) (hl : c.slots = []) (hc : c.count = ((y (H.last + 1) : Nat) : Int)) (hy : ∀ m, m ≠ H.last + 1 → y m = x m) : HI (NC H c) y := by
  have z0 := h.zero h.fresh
  unfold cntH at z0
  refine h.add (c := c) (l := H.vars) hb (by rw [hl]; exact List.nodup_nil) (fun k v hv => by rw [hl] at hv; cases hv) (fun q => absurd q hs) (by rw [hl]; rfl) h.vnd ?_ (fun m hm => ?_) h.neg
  · rw [hc, show cntL (H.last + 1) H.vars = 0 by omega, Nat.zero_add]
  · rw [hl, hy m hm]; rfl

theorem NC_dueOld (hm : m ≤ H.last) : (NC H c).Due m ↔ H.Due m := by
  unfold HS.Due
  rw [NC_get, if_neg (by omega)]
theorem Grow.plVars {a1 a2 a3 a4 a5 a6 : Nat} (g : Grow H H' a1 a2 a3 a4 a5 a6) (q : PlOK H k v .vars) : PlOK H' k w .vars := fun m h1 h2 => by
  obtain ⟨h3, h4⟩ := q m h1 h2
  have := g.last
  refine ⟨by omega, fun h5 => ?_⟩
  rcases g.due m h5 with h6 | h6
  · exact h4 h6
  · omega

theorem refIn_ok (h : HI H x) (z : Sz H) (q : PlOK H k (.int 0) .vars) : ∃ H' v, H.refIn k = some (H', v) ∧ (∀ ts hd, (toW H ts hd).refIn k = some (toW H' ts hd, v)) ∧
    HI H' x ∧ LiveV H' v ∧ H'.isRef v = true ∧ Grow H H' 1 2 0 0 0 0 := by
  have hlv := h.liveVar (k := k)
  cases hr : H.isRef (H.var k) with
  | true =>
    refine ⟨H, H.var k, by unfold HS.refIn; rw [hr, if_pos rfl], fun ts hd => ?_, h, hlv, hr, Grow.refl.le (by omega) (by omega) (by omega) (by omega) (by omega)⟩
    unfold WS.refIn
    rw [show (toW H ts hd).var k = H.var k from rfl, toW_isRef hlv, hr, Option.bind_some, if_pos rfl]
    show (getK k H.vars).map _ = _
    unfold HS.var at hr ⊢
    cases e : getK k H.vars with
    | none => rw [e] at hr; cases hr
    | some v => rfl
  | false =>
    have z0 := h.zero h.fresh
    unfold cntH at z0
    have e1 : ∀ m, oneO (getK k H.vars) m = one (H.var k) m := fun m => by
      unfold HS.var
      cases getK k H.vars with
      | none => rfl
      | some v => rfl
    have e2 : ∀ m, cntL m (putK k (.cell (H.last + 1)) H.vars) + one (H.var k) m = cntL m H.vars + one (.cell (H.last + 1)) m := fun m => by
      rw [← e1]; exact sumF_put
    have e3 : one (H.var k) (H.last + 1) = 0 := by
      have := e2 (H.last + 1)
      have h1 : oneO (getK k H.vars) (H.last + 1) ≤ cntL (H.last + 1) H.vars := by
        cases e : getK k H.vars with
        | none => exact Nat.zero_le _
        | some v => exact sumF_get (f := fun v => one v (H.last + 1)) e
      rw [e1] at h1; omega
    have g0 := Grow.nc (c := { newC .ref with slots := [(0, H.var k)], count := 1 }) h
    refine ⟨{ NC H { newC .ref with slots := [(0, H.var k)], count := 1 } with vars := putK k (.cell (H.last + 1)) H.vars }, .cell (H.last + 1), ?_, fun ts hd => ?_, ?_, LiveV.cell NC_self, ?_, ?_⟩
    · unfold HS.refIn
      rw [hr, if_neg (by decide), newCell_eq h z, Option.bind_some]
      rw [show (NC H (newC .ref)).last = H.last + 1 from rfl, NC_setC, NC_gain]
      unfold HS.setVar
      rw [if_pos (by show H.vars.length ≤ _; have := z.vars; omega)]; rfl
    · unfold WS.refIn
      rw [show (toW H ts hd).var k = H.var k from rfl, toW_isRef hlv, hr, Option.bind_some, if_neg (by decide)]
      have := newCellW_eq (c := newC .ref) (b := false) (ts := ts) (hd := hd) h z rfl
      rw [show (newC .ref).sort = .ref from rfl] at this
      rw [this, Option.bind_some]
      rw [show (toW (NC H (newC .ref)) ts hd).last = H.last + 1 from rfl]
      rw [show (⟨.ref, [(0, H.var k)], false⟩ : WC) = wc { newC .ref with slots := [(0, H.var k)], count := 1 } from rfl, ← toW_setC2, NC_setC]
      unfold WS.setVar
      rw [if_pos (by show H.vars.length ≤ _; have := z.vars; omega)]; rfl
    · refine h.add (c := { newC .ref with slots := [(0, H.var k)], count := 1 }) rfl (by simp) (fun j u hj => ?_) (fun _ => ⟨_, rfl, hr⟩) ?_ (nodup_put h.vnd) ?_ (fun m hm => ?_) fun m hm hg => ?_
      · have hj : (if (0 : Int) = j then some (H.var k) else none) = some u := hj
        by_cases e : (0 : Int) = j
        · omega
        · rw [if_neg e] at hj; cases hj
      · show one (H.var k) (H.last + 1) + 0 = 0; omega
      · have := e2 (H.last + 1)
        rw [one_self] at this
        show (1 : Int) = _; omega
      · have := e2 m
        rw [one_ne (fun e => hm e.symm)] at this
        show cntL m _ + (one (H.var k) m + 0) + x m = _; omega
      · rw [getK_putK] at hg
        by_cases e : -m = k
        · exact q m hm e.symm
        · rw [if_neg e] at hg; exact h.neg m hm hg
    · show (NC H { newC .ref with slots := [(0, H.var k)], count := 1 }).isRef (.cell (H.last + 1)) = true
      rw [isRef_some (v := .cell (H.last + 1)) (c := { newC .ref with slots := [(0, H.var k)], count := 1 }) NC_self]; rfl
    · have g1 : Grow (NC H { newC .ref with slots := [(0, H.var k)], count := 1 }) _ 0 1 0 0 0 0 := Grow.setVars (l := putK k (.cell (H.last + 1)) H.vars) (d := 1) (k := 0) (by
        have := len_put (k := k) (v := .cell (H.last + 1)) (l := H.vars)
        show _ ≤ H.vars.length + 1; omega)
      exact g0.trans g1

/-! holders -/
theorem lsN_filter : ∀ {l : List V}, (l.filter fun v => decide (v = .cell n)).length = lsN n l
  | [] => rfl
  | v :: r => by
    show _ = one v n + lsN n r
    unfold one
    by_cases q : v = .cell n
    · rw [List.filter_cons_of_pos (by simpa using q), if_pos q, List.length_cons, lsN_filter]; omega
    · rw [List.filter_cons_of_neg (by simpa using q), if_neg q, lsN_filter]; omega
theorem lsN_snd : ∀ {l : List (Int × V)}, lsN n (l.map (·.2)) = cntL n l
  | [] => rfl
  | p :: r => by show one p.2 n + lsN n (r.map (·.2)) = one p.2 n + cntL n r; rw [lsN_snd]
theorem lsN_reverse : ∀ {l : List V}, lsN n l.reverse = lsN n l
  | [] => rfl
  | v :: r => by rw [List.reverse_cons, lsN_append, lsN_reverse]; show _ + (one v n + 0) = one v n + _; omega
theorem lsN_flat {f : Int × WC → List V} : ∀ {l : List (Int × C)}, (∀ p ∈ l, f (p.1, wc p.2) = p.2.slots.map (·.2)) → lsN n ((l.map fun p => (p.1, wc p.2)).flatMap f) = sumF (fun c => cntL n c.slots) l
  | [], _ => rfl
  | p :: r, h => by
    rw [List.map_cons, List.flatMap_cons, lsN_append, h p (.head _), lsN_snd, lsN_flat fun q hq => h q (.tail _ hq)]; rfl
theorem len_flat {f : Int × WC → List V} : ∀ {l : List (Int × C)}, (∀ p ∈ l, f (p.1, wc p.2) = p.2.slots.map (·.2)) → ((l.map fun p => (p.1, wc p.2)).flatMap f).length = sumF (fun c => c.slots.length) l
  | [], _ => rfl
  | p :: r, h => by
    rw [List.map_cons, List.flatMap_cons, List.length_append, h p (.head _), List.length_map, len_flat fun q hq => h q (.tail _ hq)]; rfl
theorem HI.placeOf (h : HI H x) : ∀ p ∈ H.cells, (match getK p.1 (toW H ts hd).cells with | some c => c.slots.map (·.2) | none => []) = p.2.slots.map (·.2) := fun p hp => by
  rw [toW_get, getK_of_mem h.cnd hp]; rfl
theorem holders_eq (h : HI H x) : (toW H ts hd).holders n = cntH n H + (lsN n hd + lsN n (ts.filterMap loseV)) := by
  unfold WS.holders WS.places
  rw [lsN_filter, lsN_append, lsN_append, lsN_append, List.filterMap_reverse, lsN_reverse]
  have := lsN_flat (n := n) (f := fun p : Int × WC => match getK p.1 (toW H ts hd).cells with | some c => c.slots.map (·.2) | none => []) (l := H.cells) h.placeOf
  show lsN n (H.vars.map (·.2)) + lsN n hd + lsN n (ts.filterMap loseV) + lsN n (List.flatMap _ (H.cells.map fun p => (p.1, wc p.2))) = _
  refine (congrArg (fun t => lsN n (H.vars.map (·.2)) + lsN n hd + lsN n (ts.filterMap loseV) + t) this).trans ?_
  rw [lsN_snd]
  unfold cntH; omega
theorem small_ok (h : HI H x) (z : Sz H) (ht : ts.length ≤ 90000) (hh : hd.length ≤ 10) : (toW H ts hd).small = true := by
  unfold WS.small
  rw [Bool.and_eq_true, decide_eq_true_eq, decide_eq_true_eq]
  refine ⟨?_, by show ts.length ≤ _; omega⟩
  unfold WS.places
  have := len_flat (f := fun p : Int × WC => match getK p.1 (toW H ts hd).cells with | some c => c.slots.map (·.2) | none => []) (l := H.cells) h.placeOf
  have h1 : (ts.reverse.filterMap loseV).length ≤ ts.length := by
    have := List.length_filterMap_le loseV ts.reverse
    rwa [List.length_reverse] at this
  rw [List.length_append, List.length_append, List.length_append]
  show (H.vars.map (·.2)).length + hd.length + (ts.reverse.filterMap loseV).length + (List.flatMap _ (H.cells.map fun p => (p.1, wc p.2))).length ≤ _
  refine Nat.le_trans (Nat.le_of_eq (congrArg (fun t => (H.vars.map (·.2)).length + hd.length + (ts.reverse.filterMap loseV).length + t) this)) ?_
  rw [List.length_map]
  have := z.e
  unfold HS.E at this
  omega
end
end
/-! Q6 -/
section
set_option autoImplicit false

section
variable {H H' H'' : HS} {x y : Int → Nat} {n m k a : Int} {c c' cm : C} {v w : V} {ts : List T} {hd : List V} {l : List (Int × V)} {p : Pl}
theorem Grow.szz {a3 a4 a6 : Nat} (g : Grow H H' 0 0 a3 a4 0 a6) (z : Sz H) : Sz H' := by
  have l1 := g.last; have e1 := g.e; have o1 := g.log; have := z.e; have := z.last; have := z.log
  exact ⟨by omega, by omega, by omega⟩
theorem HI.setLog {g : List L} (h : HI H x) : HI { H with log := g } x := ⟨h.asc, h.rng, h.lst, h.vnd, h.snd, h.skey, h.cnt, h.live, h.ref, h.bnd, h.buf, h.bref, h.neg⟩
theorem Grow.setLog {g : List L} {d : Nat} (hg : g.length ≤ H.log.length + d) : Grow H { H with log := g } 0 0 0 0 d 0 :=
  ⟨⟨Int.le_refl _, by show H.last ≤ H.last + 0; omega⟩, Nat.le_refl _, Nat.le_refl _, Nat.le_refl _, hg, fun _ h => .inl h, fun _ c h => ⟨c, h, rfl⟩⟩
theorem HI.slots3 (h : HI H x) (hc : getK n H.cells = some c) : c.slots.length ≤ 3 := by
  have := sub_len (l := c.slots.map (·.1)) (m := [0, 1, 2]) (h.snd n c hc) fun j hj => by
    obtain ⟨q, hq, rfl⟩ := List.mem_map.mp hj
    obtain ⟨h1, h2⟩ := h.skey n c q.1 q.2 hc (getK_of_mem (h.snd n c hc) hq)
    have : q.1 = 0 ∨ q.1 = 1 ∨ q.1 = 2 := by omega
    rcases this with h | h | h <;> simp [h]
  rwa [List.length_map] at this

/-- who holds: the one extra table is the hand and the tasks -/
structure XW (x : Int → Nat) (ts : List T) (hd : List V) : Prop where
  x : ∀ n, x n = lsN n hd + lsN n (ts.filterMap loseV)
  ht : ts.length ≤ 90000
  hh : hd.length ≤ 10
theorem count_holders (h : HI H x) (X : XW x ts hd) (hc : getK n H.cells = some c) : c.count = ((toW H ts hd).holders n : Int) := by
  rw [h.cnt n c hc, holders_eq h, X.x]

theorem inCopy_ok (h : HI H x) (z : Sz H) (X : XW x ts hd) (hc : getK a H.cells = some c) (hv : getK k c.slots = some v) : ∃ w, H.inCopy a v = some w ∧ (toW H ts hd).inCopy a v = some w ∧ LiveV H w := by
  have hlv := h.liveSlot hc hv
  unfold HS.inCopy WS.inCopy
  rw [toW_isRef hlv, Option.bind_some]
  cases hr : H.isRef v with
  | false =>
    refine ⟨v, ?_, rfl, hlv⟩
    cases hco : H.cellOf v with
    | none => rfl
    | some d =>
      rw [isRef_some hco, decide_eq_false_iff_not] at hr
      show (if d.sort ≠ .ref then some v else _) = _
      rw [if_pos hr]
  | true =>
    obtain ⟨n, d, u, rfl, hd', hs, hl, hu, hlu⟩ := h.refOf hr
    have hcount := count_holders h X hd'
    have hpos : cntH n H ≥ 1 := by
      have h1 : one (.cell n) n ≤ cntL n c.slots := sumF_get (f := fun v => one v n) hv
      have h2 : cntL n c.slots ≤ sumF (fun c => cntL n c.slots) H.cells := sumF_get (f := fun c : C => cntL n c.slots) hc
      rw [one_self] at h1
      unfold cntH; omega
    have hcnt := h.cnt n d hd'
    rw [if_pos rfl, small_ok h z X.ht X.hh, if_pos rfl, show H.cellOf (.cell n) = some d from hd', show V.num (.cell n) = n from rfl]
    show ∃ w, (if d.sort ≠ .ref then some (V.cell n) else if d.count > 1 then some (V.cell n) else _) = some w ∧ _
    rw [if_neg (fun q => q hs)]
    by_cases q : d.count > 1
    · rw [if_pos q, if_neg (by omega)]
      exact ⟨_, rfl, rfl, hlv⟩
    · rw [if_neg q, if_pos (by omega), hl]
      have hi : (toW H ts hd).inner (.cell n) = some u := by
        unfold WS.inner
        rw [toW_isRef hlv, hr, Option.bind_some, if_pos rfl, show V.num (.cell n) = n from rfl, toW_get, hd']
        show getK 0 d.slots = some u
        rw [hl]; rfl
      rw [hi]
      refine ⟨if u = .cell a then .cell n else u, rfl, rfl, ?_⟩
      by_cases q2 : u = .cell a
      · rw [if_pos q2]; exact hlv
      · rw [if_neg q2]; exact hlu

theorem copyStep_ok (h : HI H x) (z : Sz H) (X : XW x ts hd) (hc : getK a H.cells = some c) (hv : getK k c.slots = some v) (hm : getK m H.cells = some cm) (hms : cm.sort = .array) (hkey : getK k cm.slots = none) (ham : a ≠ m) :
    ∃ H', HS.copyStep a m H k = some H' ∧ WS.copyStep a m (toW H ts hd) k = some (toW H' ts hd) ∧ HI H' x ∧ Grow H H' 0 1 0 0 0 0 ∧ (∃ c', getK a H'.cells = some c' ∧ c'.slots = c.slots) ∧
      ∃ cm', getK m H'.cells = some cm' ∧ cm'.sort = .array ∧ cm'.slots.map (·.1) = cm.slots.map (·.1) ++ [k] := by
  obtain ⟨w, hw1, hw2, hlw⟩ := inCopy_ok h z X hc hv
  obtain ⟨g1, g2, g3, g4⟩ := gain_ok h hlw
  obtain ⟨cm1, hm1, em1⟩ := g4 m cm hm
  obtain ⟨c1, hc1, ec1⟩ := g4 a c hc
  have es : cm1.sort = cm.sort := congrArg WC.sort em1
  have el : cm1.slots = cm.slots := congrArg WC.slots em1
  have el1 : c1.slots = c.slots := congrArg WC.slots ec1
  have hpl : (H.gain w).pl (.slots m) = some cm.slots := by show (getK m (H.gain w).cells).map _ = _; rw [hm1, ← el]; rfl
  obtain ⟨r1, r2, r3, r4⟩ := replaced_at (p := .slots m) (k := k) g1 (g3.szz z) ⟨cm1, hm1, h.skey a c k v hc hv, fun q => by rw [es, hms] at q; cases q⟩ hpl
  have hH : (H.gain w).setPl (.slots m) (putK k w cm.slots) = (H.gain w).setC m { cm1 with slots := putK k w cm.slots } := by
    show (match getK m (H.gain w).cells with | some c => (H.gain w).setC m { c with slots := putK k w cm.slots } | none => H.gain w) = _
    rw [hm1]
  rw [hH, hkey] at r3 r4
  have zs := z.slots hm
  refine ⟨(H.gain w).setC m { cm1 with slots := putK k w cm.slots }, ?_, ?_, r3.congr fun _ => rfl, g3.trans r4, ⟨c1, ?_, el1⟩, ⟨{ cm1 with slots := putK k w cm.slots }, ?_, by show cm1.sort = _; rw [es, hms], keys_put_none hkey⟩⟩
  · unfold HS.copyStep
    rw [hc, Option.bind_some, hv, Option.bind_some, hw1, Option.bind_some, hm1, Option.bind_some, el, if_pos (by omega)]
  · unfold WS.copyStep
    rw [toW_get, hc]
    show ((getK k c.slots).bind _) = _
    rw [hv, Option.bind_some, hw2, Option.bind_some, toW_get, hm]
    show (if cm.slots.length ≤ 1000000 then some ((toW H ts hd).setC m ⟨cm.sort, putK k w cm.slots, cm.due⟩) else none) = _
    rw [if_pos (by omega), toW_setC2, g2]
    show _ = some ((toW H ts hd).setC m ⟨(wc cm1).sort, putK k w cm.slots, (wc cm1).due⟩)
    rw [em1]; rfl
  · rw [getK_setC, if_neg ham, hc1]
  · rw [getK_setC, if_pos rfl]

theorem copyLoop_ok (X : XW x ts hd) (ham : a ≠ m) : ∀ (ks : List Int) {H : HS} {c cm : C}, HI H x → H.E + ks.length ≤ 90000 → H.last ≤ 90000 → H.log.length ≤ 90000 → getK a H.cells = some c → getK m H.cells = some cm → cm.sort = .array →
    ks.Nodup → (∀ k ∈ ks, getK k cm.slots = none ∧ (getK k c.slots).isSome) → ∃ H', ks.foldlM (HS.copyStep a m) H = some H' ∧ ks.foldlM (WS.copyStep a m) (toW H ts hd) = some (toW H' ts hd) ∧ HI H' x ∧ Grow H H' 0 ks.length 0 0 0 0 ∧ ∃ cm', getK m H'.cells = some cm' ∧ cm'.sort = .array
  | [], H, c, cm, h, _, _, _, _, hm, hs, _, _ => ⟨H, rfl, rfl, h, Grow.refl, cm, hm, hs⟩
  | k :: ks, H, c, cm, h, z1, z2, z3, hc, hm, hs, nd, hk => by
    rw [List.nodup_cons] at nd
    rw [List.length_cons] at z1
    obtain ⟨v, hv⟩ := Option.isSome_iff_exists.mp (hk k (.head _)).2
    obtain ⟨H1, e1, e2, h1, g1, ⟨c1, hc1, ec1⟩, cm1, hm1, hs1, ek1⟩ := copyStep_ok h ⟨by omega, z2, z3⟩ X hc hv hm hs (hk k (.head _)).1 ham
    have gl := g1.last; have ge := g1.e; have gg := g1.log
    obtain ⟨H2, e3, e4, h2, g2, r⟩ := copyLoop_ok X ham ks h1 (by omega) (by omega) (by omega) hc1 hm1 hs1 nd.2 fun j hj => by
      refine ⟨getK_none_iff.mpr ?_, by rw [ec1]; exact (hk j (.tail _ hj)).2⟩
      rw [ek1, List.mem_append, List.mem_singleton]
      rintro (q | q)
      · exact getK_none_iff.mp (hk j (.tail _ hj)).1 q
      · exact nd.1 (q ▸ hj)
    refine ⟨H2, ?_, ?_, h2, (g1.trans g2).le (by omega) (by rw [List.length_cons]; omega) (by omega) (by omega) (by omega), r⟩
    · rw [List.foldlM_cons, e1]; exact e3
    · rw [List.foldlM_cons, e2]; exact e4

theorem copied_ok (h : HI H x) (z : Sz0 H) (X : XW x ts hd) (hc : getK a H.cells = some c) : ∃ H', H.copied a = some (H', H.last + 1) ∧ (toW H ts hd).copied a = some (toW H' ts hd, H.last + 1) ∧ HI H' x ∧
    (∃ cm, getK (H.last + 1) H'.cells = some cm ∧ cm.sort = .array) ∧ Grow H H' 1 3 1 0 1 0 := by
  have z' := z.sz
  have z0 := h.zero h.fresh
  have zl := z.log; have zls := z.last; have ze := z.e
  have h1 : HI (NC H (newC .array)) x := h.nc rfl (by decide) rfl (by show (0 : Int) = _; omega) fun _ _ => rfl
  have g1 : Grow H (NC H (newC .array)) 1 0 1 0 0 0 := Grow.nc h
  have h2 : HI { NC H (newC .array) with log := H.log ++ [.copy a (H.last + 1)] } x := h1.setLog
  have g2 : Grow (NC H (newC .array)) { NC H (newC .array) with log := H.log ++ [.copy a (H.last + 1)] } 0 0 0 0 1 0 := Grow.setLog (by rw [List.length_append]; exact Nat.le_refl _)
  have g12 := g1.trans g2
  have ham : a ≠ H.last + 1 := fun q => by have := h.rng a c hc; omega
  have s3 := h.slots3 hc
  have gl := g12.last; have ge := g12.e; have gg := g12.log
  obtain ⟨H', e1, e2, h3, g3, r⟩ := copyLoop_ok (a := a) (m := H.last + 1) X ham (c.slots.map (·.1)) (c := c) (cm := newC .array) h2 (by rw [List.length_map]; omega) (by omega) (by omega)
    (by show getK a (NC H (newC .array)).cells = _; rw [NC_get, if_neg ham, hc]) NC_self rfl (h.snd a c hc) fun j hj => ⟨rfl, by
      obtain ⟨q, hq, rfl⟩ := List.mem_map.mp hj
      rw [getK_of_mem (h.snd a c hc) hq]; rfl⟩
  refine ⟨H', ?_, ?_, h3, r, (g12.trans g3).le (by omega) (by rw [List.length_map]; omega) (by omega) (by omega) (by omega)⟩
  · unfold HS.copied
    rw [hc, Option.bind_some, newCell_eq h z', Option.bind_some, if_pos (by show H.log.length ≤ _; omega)]
    show ((c.slots.map (·.1)).foldlM (HS.copyStep a (H.last + 1)) { NC H (newC .array) with log := H.log ++ [.copy a (H.last + 1)] }).map _ = _
    rw [e1]; rfl
  · unfold WS.copied
    rw [toW_get, hc]
    have := newCellW_eq (c := newC .array) (b := false) (ts := ts) (hd := hd) h z' rfl
    rw [show (newC .array).sort = .array from rfl] at this
    show ((toW H ts hd).newCell .array false).bind _ = _
    rw [this, Option.bind_some, if_pos ⟨by show H.log.length ≤ _; omega, by show c.slots.length ≤ _; omega⟩]
    show ((c.slots.map (·.1)).foldlM (WS.copyStep a (H.last + 1)) (toW { NC H (newC .array) with log := H.log ++ [.copy a (H.last + 1)] } ts hd)).map _ = _
    rw [e2]; rfl

theorem container_ok (h : HI H x) (z : Sz0 H) (X : XW x ts hd) (q : PlOK H k (.int 0) .vars) (hv : H.valueOf k = some (.cell a)) : ∃ H' n ls, H.container k = some (H', n, ls) ∧ (toW H ts hd).slotsOf k = some (toW H' ts hd, n, ls) ∧
    HI H' (fun j => x j + lsN j ls) ∧ OutOK H' (.slots n) ∧ Grow H H' 1 4 1 0 1 ls.length := by
  have z' := z.sz
  obtain ⟨w, hw1, hw2, hw3, hw4⟩ := value_ok (k := k) h
  rw [hv] at hw1; cases hw1
  obtain ⟨c, hc⟩ := hw3.get
  have hs : c.sort ≠ .ref := by rw [isRef_some (v := .cell a) hc, decide_eq_false_iff_not] at hw4; exact hw4
  have hcount := count_holders h X hc
  unfold HS.container WS.slotsOf
  rw [hv, hw2, Option.bind_some, Option.bind_some, show V.num (.cell a) = a from rfl, toW_get, hc, small_ok h z' X.ht X.hh]
  show ∃ H' n ls, (if c.sort = .object then some (H, a, []) else if c.count = 1 then some (H, a, []) else _) = some (H', n, ls) ∧ (if c.sort = .object then some (toW H ts hd, a, []) else if true = true then if (toW H ts hd).holders a = 1 then some (toW H ts hd, a, []) else _ else none) = _ ∧ _
  by_cases qo : c.sort = .object
  · rw [if_pos qo, if_pos qo]
    exact ⟨_, _, _, rfl, rfl, h.congr fun _ => rfl, ⟨c, hc, hs⟩, Grow.refl.le (by omega) (by show 0 + 0 ≤ 4 + 0; omega) (by omega) (by omega) (by omega)⟩
  rw [if_neg qo, if_neg qo, if_pos rfl]
  by_cases q1 : c.count = 1
  · rw [if_pos q1, if_pos (by omega)]
    exact ⟨_, _, _, rfl, rfl, h.congr fun _ => rfl, ⟨c, hc, hs⟩, Grow.refl.le (by omega) (by show 0 + 0 ≤ 4 + 0; omega) (by omega) (by omega) (by omega)⟩
  rw [if_neg q1, if_neg (by omega)]
  obtain ⟨H1, e1, e2, h1, ⟨cm, hcm, hcs⟩, g1⟩ := copied_ok h z X hc
  obtain ⟨g21, g22, g23, g24⟩ := gain_ok h1 (v := .cell (H.last + 1)) (LiveV.cell hcm)
  obtain ⟨cm2, hcm2, ecm2⟩ := g24 _ cm hcm
  have es2 : cm2.sort = .array := (congrArg WC.sort ecm2).trans hcs
  have g12 := g1.trans g23
  obtain ⟨H3, ls, e3, e4, h3, g3⟩ := written_ok (p := .vars) (k := k) g21 (g12.sz z (by omega)) (g12.plVars q) (by rw [isRef_some (v := .cell (H.last + 1)) hcm2, es2]; rfl)
  have g := g12.trans g3
  obtain ⟨cm3, hcm3, es3⟩ := g3.keep _ cm2 hcm2
  refine ⟨H3, H.last + 1, ls, ?_, ?_, h3, ⟨cm3, hcm3, by rw [es3, es2]; decide⟩, g.le (by omega) (by omega) (by omega) (by omega) (by omega)⟩
  · rw [e1, Option.bind_some, hcm, Option.bind_some, e3]; rfl
  · rw [e2, Option.bind_some, toW_get, hcm]
    show ((toW H1 ts hd).write .vars k (.cell (H.last + 1)) true).map _ = _
    rw [← g22, e4]; rfl
end
end
/-! Q7 -/
section
set_option autoImplicit false

section
variable {H H' H'' : HS} {x y : Int → Nat} {n m k j a : Int} {c c' cm : C} {v w : V} {ts : List T} {hd : List V} {l : List (Int × V)} {p : Pl}
theorem Grow.sz0 {a3 a4 a6 : Nat} (g : Grow H H' 0 0 a3 a4 0 a6) (z : Sz0 H) : Sz0 H' := by
  have l1 := g.last; have e1 := g.e; have o1 := g.log; have := z.e; have := z.last; have := z.log
  exact ⟨by omega, by omega, by omega⟩
structure SzS (H : HS) : Prop where
  e : H.E ≤ 80000
  last : H.last ≤ 80000
  log : H.log.length ≤ 80000
theorem SzS.sz0 (z : SzS H) : Sz0 H := ⟨by have := z.e; omega, by have := z.last; omega, by have := z.log; omega⟩
theorem Grow.szs {a1 a2 a3 a4 a5 a6 : Nat} (g : Grow H H' a1 a2 a3 a4 a5 a6) (z : SzS H) (h : a1 + a2 + a5 ≤ 1000) : Sz0 H' := by
  have l1 := g.last; have e1 := g.e; have o1 := g.log; have := z.e; have := z.last; have := z.log
  exact ⟨by omega, by omega, by omega⟩
theorem HI.one0 (h : HI H x) {i : Int} : HI H (fun n => x n + one (.int i) n) := h.congr fun _ => rfl

theorem inner_of (hc : getK n H.cells = some c) (hs : c.sort = .ref) : H.inner (.cell n) = getK 0 c.slots := by
  unfold HS.inner
  rw [isRef_some (v := .cell n) hc, hs]
  show (getK n H.cells).bind _ = _
  rw [hc]; rfl
theorem inner_same (e : getK n H'.cells = getK n H.cells) : H'.inner (.cell n) = H.inner (.cell n) := by
  unfold HS.inner HS.isRef HS.cellOf; simp only [e]
theorem refIn_value (h : HI H x) (z : Sz H) {r : HS × V} (e : H.refIn k = some r) : r.1.valueOf j = H.valueOf j := by
  have key : ∀ HX : HS, H.isRef (H.var k) = false → HX.vars = putK k (.cell (H.last + 1)) H.vars → getK (H.last + 1) HX.cells = some { newC .ref with slots := [(0, H.var k)], count := 1 } → (∀ i, i ≠ H.last + 1 → getK i HX.cells = getK i H.cells) → HX.valueOf j = H.valueOf j := fun HX hr h1 h2 h3 => by
    unfold HS.valueOf
    by_cases qj : j = k
    · subst qj
      rw [show HX.var j = .cell (H.last + 1) by unfold HS.var; rw [h1, getK_putK, if_pos rfl]; rfl, inner_of h2 rfl]
      unfold HS.inner
      rw [hr]; rfl
    · rw [show HX.var j = H.var j by unfold HS.var; rw [h1, getK_putK, if_neg qj]]
      have hj := h.liveVar (k := j)
      cases hv : H.var j with
      | int i => rfl
      | cell i =>
        rw [hv] at hj
        obtain ⟨d, hd⟩ := hj.get
        exact inner_same (h3 i fun q => by rw [q, h.fresh] at hd; cases hd)
  unfold HS.refIn at e
  cases hr : H.isRef (H.var k) with
  | true => rw [hr, if_pos rfl] at e; cases e; rfl
  | false =>
    rw [hr, if_neg (by decide), newCell_eq h z, Option.bind_some, show (NC H (newC .ref)).last = H.last + 1 from rfl, NC_setC, NC_gain] at e
    unfold HS.setVar at e
    rw [if_pos (by show H.vars.length ≤ _; have := z.vars; omega)] at e
    cases e
    exact key _ hr rfl NC_self fun i hi => by
      show getK i (NC H _).cells = _
      rw [NC_get, if_neg hi]

theorem gain_value (h : HI H x) (hl : LiveV H v) : (H.gain v).valueOf j = H.valueOf j := by
  obtain ⟨g1, g2, _, _⟩ := gain_ok h hl
  obtain ⟨w, h1, h2, _⟩ := value_ok (k := j) h
  obtain ⟨w', h3, h4, _⟩ := value_ok (k := j) g1
  have a := h2 [] []
  have b := h4 [] []
  rw [g2] at b
  rw [h1, h3]; rw [a] at b; exact b.symm

theorem new_written (h : HI H x) (z : Sz0 H) (q : PlOK H k (.int 0) .vars) (hs : c.sort ≠ .ref) (hl : c.slots = []) (hb : c.buf = false) (hc : c.count = 1) : ∃ H' ls, (NC H c).written .vars k (.cell (H.last + 1)) = some (H', ls) ∧
    (∀ ts hd, (toW (NC H c) ts hd).write .vars k (.cell (H.last + 1)) true = some (toW H' ts hd, ls)) ∧ HI H' (fun n => x n + lsN n ls) ∧ Grow H H' 1 1 1 1 0 ls.length := by
  have z0 := h.zero h.fresh
  have h1 : HI (NC H c) (fun n => x n + one (.cell (H.last + 1)) n) := h.nc hb hs hl (by rw [hc, one_self, show x (H.last + 1) = 0 by omega]; rfl) fun m hm => by rw [one_ne fun e => hm e.symm]; rfl
  have g1 : Grow H (NC H c) 1 0 1 1 0 0 := (Grow.nc (c := c) h).le (by omega) (by rw [hl]; exact Nat.le_refl _) (by split <;> omega) (by split <;> omega) (by omega)
  obtain ⟨H', ls, e1, e2, h2, g2⟩ := written_ok (p := .vars) (k := k) h1 (g1.sz z (by omega)) (g1.plVars q) (by rw [isRef_some (v := .cell (H.last + 1)) (c := c) NC_self, decide_eq_false_iff_not]; exact hs)
  exact ⟨H', ls, e1, e2, h2, (g1.trans g2).le (by omega) (by omega) (by omega) (by omega) (by omega)⟩

theorem gain_written (h : HI H x) (z : Sz0 H) (q : PlOK H k (.int 0) .vars) (hl : LiveV H v) (hr : H.isRef v = false) : ∃ H' ls, (H.gain v).written .vars k v = some (H', ls) ∧
    (∀ ts hd, (toW H ts hd).write .vars k v true = some (toW H' ts hd, ls)) ∧ HI H' (fun n => x n + lsN n ls) ∧ Grow H H' 0 1 0 0 0 ls.length := by
  obtain ⟨g1, g2, g3, _⟩ := gain_ok h hl
  obtain ⟨H', ls, e1, e2, h2, g4⟩ := written_ok (p := .vars) (k := k) g1 (g3.sz z (by omega)) (g3.plVars q) (by rw [g3.isRef hl]; exact hr)
  exact ⟨H', ls, e1, fun ts hd => by rw [← g2]; exact e2 ts hd, h2, (g3.trans g4).le (by omega) (by omega) (by omega) (by omega) (by omega)⟩

theorem joinL_ok {l : List V} {z : HS × List V} (h : l.length + z.2.length ≤ 1000000) : joinL l z = some (z.1, l ++ z.2) := if_pos h
theorem joinW_ok {l : List V} {z : WS × List V} (h : l.length + z.2.length ≤ 1000000) : joinW l z = some (z.1, l ++ z.2) := if_pos h

/-- a value v (held in hand) put into the container in k -/
theorem put_ok (h : HI H x) (z : Sz0 H) (X : XW x ts []) (q : PlOK H k (.int 0) .vars) (hl : LiveV H v) (hk : 0 ≤ j ∧ j ≤ 2) (ha : H.valueOf k = some (.cell a)) : ∃ H1 n ls1, (H.gain v).container k = some (H1, n, ls1) ∧
    (toW H ts [v]).slotsOf k = some (toW H1 ts [v], n, ls1) ∧ HI H1 (fun i => x i + lsN i ls1 + one v i) ∧ Grow H H1 1 4 1 0 1 ls1.length ∧ PlOK H1 j v (.slots n) := by
  obtain ⟨g1, g2, g3, _⟩ := gain_ok h hl
  obtain ⟨H1, n, ls1, e1, e2, h1, ⟨c1, hc1, hs1⟩, g4⟩ := container_ok (ts := ts) (hd := [v]) (k := k) (a := a) g1 (g3.sz0 z) ⟨fun i => by rw [X.x i]; show 0 + _ + _ = one v i + 0 + _; omega, X.ht, by show 1 ≤ 10; omega⟩ (g3.plVars q) (by rw [gain_value h hl]; exact ha)
  rw [g2] at e2
  exact ⟨H1, n, ls1, e1, e2, h1.congr fun i => by show _ + one v i + _ = _; omega, (g3.trans g4).le (by omega) (by omega) (by omega) (by omega) (by omega), c1, hc1, hk, fun q => absurd q hs1⟩

theorem change_ok {d : D} (h : HI H x) (zs : SzS H) (X : XW x ts []) (hx : ∀ k ∈ d.vs, PlOK H k (.int 0) .vars) (hk : ∀ k ∈ d.ks, 0 ≤ k ∧ k ≤ 2) : ∃ H' ls, H.change d = some (H', ls) ∧ (toW H ts []).change d = some (toW H' ts [], ls) ∧
    HI H' (fun j => x j + lsN j ls) ∧ Grow H H' 2 8 1 1 1 ls.length := by
  have z := zs.sz0
  have z' := z.sz
  have zero : Grow H H 2 8 1 1 1 ([] : List V).length := Grow.refl.le (by omega) (by show 0 + 0 ≤ 8 + 0; omega) (by omega) (by omega) (by omega)
  cases d with
  | setInt k i =>
    obtain ⟨H', ls, e1, e2, h1, g1⟩ := written_ok (p := .vars) (k := k) (v := .int i) h.one0 z' (hx k (by simp [D.vs])) rfl
    exact ⟨H', ls, e1, e2 _ _, h1, g1.le (by omega) (by omega) (by omega) (by omega) (by omega)⟩
  | newArray k =>
    obtain ⟨H', ls, e1, e2, h1, g1⟩ := new_written (c := { newC .array with count := 1 }) h z (hx k (by simp [D.vs])) (by show K.array ≠ K.ref; decide) rfl rfl rfl
    refine ⟨H', ls, ?_, ?_, h1, g1.le (by omega) (by omega) (by omega) (by omega) (by omega)⟩
    · show (H.newCell .array).bind _ = _
      rw [newCell_eq h z', Option.bind_some, show (NC H (newC .array)).last = H.last + 1 from rfl, NC_gain]; exact e1
    · show ((toW H ts []).newCell (newC .array).sort false).bind _ = _
      rw [newCellW_eq h z' rfl, Option.bind_some, NC_toW_eq (c := newC .array) (c' := { newC .array with count := 1 }) rfl]; exact e2 _ _
  | newObject k b =>
    obtain ⟨H', ls, e1, e2, h1, g1⟩ := new_written (c := { newC .object with count := 1, hasD := b }) h z (hx k (by simp [D.vs])) (by show K.object ≠ K.ref; decide) rfl rfl rfl
    refine ⟨H', ls, ?_, ?_, h1, g1.le (by omega) (by omega) (by omega) (by omega) (by omega)⟩
    · show (H.newCell .object).bind _ = _
      rw [newCell_eq h z', Option.bind_some, show (NC H (newC .object)).last = H.last + 1 from rfl, NC_gain, NC_self, Option.bind_some, NC_setC]; exact e1
    · show ((toW H ts []).newCell (newC .object).sort b).bind _ = _
      have := newCellW_eq (c := { newC .object with count := 1, hasD := b }) (b := b) (ts := ts) (hd := []) h z' (by cases b <;> rfl)
      rw [show (newC .object).sort = ({ newC .object with count := 1, hasD := b } : C).sort from rfl, this, Option.bind_some]; exact e2 _ _
  | assign k j =>
    obtain ⟨w, h1, h2, h3, h4⟩ := value_ok (k := j) h
    obtain ⟨H', ls, e1, e2, h5, g1⟩ := gain_written (k := k) h z (hx k (by simp [D.vs])) h3 h4
    refine ⟨H', ls, ?_, ?_, h5, g1.le (by omega) (by omega) (by omega) (by omega) (by omega)⟩
    · show (H.valueOf j).bind _ = _
      rw [h1]; exact e1
    · show ((toW H ts []).valueOf j).bind _ = _
      rw [h2]; exact e2 _ _
  | put k i j =>
    obtain ⟨u, hu1, hu2, _, _⟩ := value_ok (k := k) h
    show ∃ H' ls, ((H.valueOf k).map V.isCell).bind _ = _ ∧ ((toW H ts []).valueOf k).bind _ = _ ∧ _
    rw [hu1, hu2, Option.map_some, Option.bind_some, Option.bind_some]
    cases u with
    | int i => exact ⟨H, [], rfl, rfl, h.congr fun _ => rfl, zero⟩
    | cell a =>
      obtain ⟨v, hv1, hv2, hv3, hv4⟩ := value_ok (k := j) h
      obtain ⟨H1, n, ls1, e1, e2, h1, g1, q1⟩ := put_ok (k := k) (j := i) h z X (hx k (by simp [D.vs])) hv3 (hk i (by simp [D.ks])) hu1
      obtain ⟨H2, ls2, e3, e4, h2, g2⟩ := written_ok (p := .slots n) (k := i) (x := fun i => x i + lsN i ls1) h1 (g1.sz z (by omega)) q1 (by rw [g1.isRef hv3]; exact hv4)
      have ge1 := g1.e; have ge2 := g2.e; have ze := z.e
      have hlen : ls1.length + ls2.length ≤ 1000000 := by omega
      refine ⟨H2, ls1 ++ ls2, ?_, ?_, h2.congr fun i => by rw [lsN_append]; omega, (g1.trans g2).le (by omega) (by rw [List.length_append]; omega) (by omega) (by omega) (by omega)⟩
      · rw [if_pos (show (V.cell a).isCell = true from rfl), hv1, Option.bind_some, e1, Option.bind_some, e3]
        exact joinL_ok (z := (H2, ls2)) hlen
      · rw [if_pos (show (V.cell a).isCell = true from rfl), hv2, Option.bind_some]
        show ((toW H ts [v]).slotsOf k).bind _ = _
        rw [e2, Option.bind_some]
        show (((toW H1 ts [v]).write (.slots n) i v true).bind fun u => (joinW ls1 u).bind popHand) = _
        rw [e4, Option.bind_some, joinW_ok (z := (toW H2 ts [v], ls2)) hlen]; rfl
  | take k y i =>
    obtain ⟨u, hu1, hu2, hu3, hu4⟩ := value_ok (k := y) h
    have key : ∃ v, (if u.isCell = true then (H.valueOf y).bind fun w => (H.cellOf w).bind fun c => H.inner ((getK i c.slots).getD (.int 0)) else some (.int 0)) = some v ∧ (toW H ts []).takeV y i = some v ∧ LiveV H v ∧ H.isRef v = false := by
      unfold WS.takeV
      rw [hu1, hu2]
      cases u with
      | int i => exact ⟨.int 0, rfl, rfl, LiveV.int, rfl⟩
      | cell a =>
        obtain ⟨c, hc⟩ := hu3.get
        have hl : LiveV H ((getK i c.slots).getD (.int 0)) := by
          cases hg : getK i c.slots with
          | none => exact LiveV.int
          | some v => exact h.liveSlot hc hg
        obtain ⟨v, e1, e2, e3, e4⟩ := inner_ok h hl
        refine ⟨v, ?_, ?_, e3, e4⟩
        · show (getK a H.cells).bind _ = _
          rw [hc]; exact e1
        · show (getK a (toW H ts []).cells).bind _ = _
          rw [toW_get, hc]; exact e2 _ _
    obtain ⟨v, k1, k2, k3, k4⟩ := key
    obtain ⟨H', ls, e1, e2, h5, g1⟩ := gain_written (k := k) h z (hx k (by simp [D.vs])) k3 k4
    refine ⟨H', ls, ?_, ?_, h5, g1.le (by omega) (by omega) (by omega) (by omega) (by omega)⟩
    · show ((H.valueOf y).map V.isCell).bind (fun b => (if b = true then (H.valueOf y).bind fun w => (H.cellOf w).bind fun c => H.inner ((getK i c.slots).getD (.int 0)) else some (.int 0)).bind fun v => (H.gain v).written .vars k v) = _
      rw [show (H.valueOf y).map V.isCell = some u.isCell by rw [hu1]; rfl, Option.bind_some, k1]; exact e1
    · show ((toW H ts []).takeV y i).bind _ = _
      rw [k2]; exact e2 _ _
  | makeRef k j =>
    obtain ⟨H1, r, e1, e2, h1, hl, hr, g1⟩ := refIn_ok (k := j) h z' (hx j (by simp [D.vs]))
    obtain ⟨a1, a2, a3, _⟩ := gain_ok h1 hl
    have g12 := g1.trans a3
    have q := g12.plVars (w := r) (hx k (by simp [D.vs]))
    obtain ⟨H2, ls, e3, e4, h2, g2⟩ := replaced_ok (p := .vars) (k := k) a1 (g12.sz z (by omega)) q
    refine ⟨H2, ls, ?_, ?_, h2, (g12.trans g2).le (by omega) (by omega) (by omega) (by omega) (by omega)⟩
    · show (H.refIn j).bind _ = _
      rw [e1]; exact e3
    · show ((toW H ts []).refIn j).bind _ = _
      rw [e2, Option.bind_some]
      show (toW H1 ts []).write .vars k r false = _
      rw [← a2, write_false q]; exact e4 _ _
  | putRef k i j =>
    obtain ⟨u, hu1, hu2, _, _⟩ := value_ok (k := k) h
    show ∃ H' ls, ((H.valueOf k).map V.isCell).bind _ = _ ∧ ((toW H ts []).valueOf k).bind _ = _ ∧ _
    rw [hu1, hu2, Option.map_some, Option.bind_some, Option.bind_some]
    cases u with
    | int i => exact ⟨H, [], rfl, rfl, h.congr fun _ => rfl, zero⟩
    | cell a =>
      obtain ⟨H0, r, e1, e2, h0, hl, hr, g0⟩ := refIn_ok (k := j) h z' (hx j (by simp [D.vs]))
      have hv0 := refIn_value (j := k) h z' e1
      obtain ⟨H1, n, ls1, e3, e4, h1, g1, q1⟩ := put_ok (k := k) (j := i) h0 (g0.szs zs (by omega)) X (g0.plVars (hx k (by simp [D.vs]))) hl (hk i (by simp [D.ks])) (by rw [hv0]; exact hu1)
      have g01 := g0.trans g1
      obtain ⟨H2, ls2, e5, e6, h2, g2⟩ := replaced_ok (p := .slots n) (k := i) (x := fun i => x i + lsN i ls1) h1 (g01.sz z (by omega)) q1
      have ge0 := g0.e; have ge1 := g1.e; have ge2 := g2.e; have ze := z.e
      have hlen : ls1.length + ls2.length ≤ 1000000 := by omega
      refine ⟨H2, ls1 ++ ls2, ?_, ?_, h2.congr fun i => by rw [lsN_append]; omega, (g01.trans g2).le (by omega) (by rw [List.length_append]; omega) (by omega) (by omega) (by omega)⟩
      · rw [if_pos (show (V.cell a).isCell = true from rfl), e1, Option.bind_some]
        show ((H0.gain r).container k).bind _ = _
        rw [e3, Option.bind_some]
        show ((H1.replaced (.slots n) i r).bind _) = _
        rw [e5]
        exact joinL_ok (z := (H2, ls2)) hlen
      · rw [if_pos (show (V.cell a).isCell = true from rfl), e2, Option.bind_some]
        show ((toW H0 ts [r]).slotsOf k).bind _ = _
        rw [e4, Option.bind_some]
        show (((toW H1 ts [r]).write (.slots n) i r false).bind fun u => (joinW ls1 u).bind popHand) = _
        rw [write_false q1, e6, Option.bind_some, joinW_ok (z := (toW H2 ts [r], ls2)) hlen]; rfl
  | unset k =>
    obtain ⟨H', ls, e1, e2, h1, g1⟩ := takenOut_ok (p := .vars) (k := k) h z' trivial
    exact ⟨H', ls, e1, e2 _ _, h1, g1.le (by omega) (by omega) (by omega) (by omega) (by omega)⟩
  | unsetAt k i =>
    obtain ⟨u, hu1, hu2, _, _⟩ := value_ok (k := k) h
    show ∃ H' ls, ((H.valueOf k).map V.isCell).bind _ = _ ∧ ((toW H ts []).valueOf k).bind _ = _ ∧ _
    rw [hu1, hu2, Option.map_some, Option.bind_some, Option.bind_some]
    cases u with
    | int i => exact ⟨H, [], rfl, rfl, h.congr fun _ => rfl, zero⟩
    | cell a =>
      obtain ⟨H1, n, ls1, e1, e2, h1, q1, g1⟩ := container_ok (k := k) h z X (hx k (by simp [D.vs])) hu1
      obtain ⟨H2, ls2, e3, e4, h2, g2⟩ := takenOut_ok (p := .slots n) (k := i) h1 (g1.sz z (by omega)) q1
      have ge1 := g1.e; have ge2 := g2.e; have ze := z.e
      have hlen : ls1.length + ls2.length ≤ 1000000 := by omega
      refine ⟨H2, ls1 ++ ls2, ?_, ?_, h2.congr fun i => by rw [lsN_append]; omega, (g1.trans g2).le (by omega) (by rw [List.length_append]; omega) (by omega) (by omega) (by omega)⟩
      · rw [if_pos (show (V.cell a).isCell = true from rfl), e1, Option.bind_some, e3]
        exact joinL_ok (z := (H2, ls2)) hlen
      · rw [if_pos (show (V.cell a).isCell = true from rfl), e2, Option.bind_some, e4]
        exact joinW_ok (z := (toW H2 ts [], ls2)) hlen
end
end
/-! Q8 -/
section
set_option autoImplicit false

section
open Classical
noncomputable def uS (P : List (Int × List D)) (H : HS) : Nat → Nat
  | 0 => 0
  | k + 1 => uS P H k + (if H.last < (k : Int) + 1 ∨ H.Due ((k : Int) + 1) then (planOf P ((k : Int) + 1)).length else 0)
end
def wT : T → Nat
  | .lose _ => 1
  | .deed (.unset x) => if x < 0 then 1 else 12
  | .deed _ => 12
def gT : T → Nat
  | .lose _ => 0
  | .deed (.unset x) => if x < 0 then 0 else 1
  | .deed _ => 1
def sumT (f : T → Nat) : List T → Nat
  | [] => 0
  | t :: r => f t + sumT f r
noncomputable def Phi (P : List (Int × List D)) (H : HS) (ts : List T) : Nat := 12 * uS P H 12 + 3 * H.dn + H.E + sumT wT ts
noncomputable def bud (P : List (Int × List D)) (H : HS) (ts : List T) : Nat := uS P H 12 + sumT gT ts
structure Bnd (P : List (Int × List D)) (H : HS) (ts : List T) (H' : HS) (ts' : List T) : Prop where
  phi : Phi P H' ts' + 1 ≤ Phi P H ts
  last : H'.last + 2 * (bud P H' ts' : Int) ≤ H.last + 2 * (bud P H ts : Int)
  nr : H'.nr + bud P H' ts' ≤ H.nr + bud P H ts
  log : H'.log.length ≤ H.log.length + 1
def TaskOK (H : HS) : T → Prop
  | .lose _ => True
  | .deed d => ∃ m, GoodD m d ∧ (m = 0 ∨ (1 ≤ m ∧ m ≤ H.last ∧ ¬ H.Due m))

section
variable {P : List (Int × List D)} {H H' H'' : HS} {x y : Int → Nat} {n m k j a : Int} {c c' cm : C} {v w : V} {ts us : List T} {hd : List V} {l : List (Int × V)} {p : Pl} {t : T} {f : T → Nat}
theorem sumT_append : ∀ {a b : List T}, sumT f (a ++ b) = sumT f a + sumT f b
  | [], b => by show _ = 0 + _; rw [Nat.zero_add]; rfl
  | t :: a, b => by show f t + sumT f (a ++ b) = f t + sumT f a + sumT f b; rw [sumT_append]; omega
theorem sumT_lose : ∀ {l : List V}, sumT wT (l.map .lose) = l.length ∧ sumT gT (l.map .lose) = 0
  | [] => ⟨rfl, rfl⟩
  | v :: l => by
    obtain ⟨h1, h2⟩ := sumT_lose (l := l)
    exact ⟨by show 1 + sumT wT (l.map .lose) = l.length + 1; omega, by show 0 + sumT gT (l.map .lose) = 0; omega⟩
theorem wT_le : wT t ≤ 12 ∧ gT t ≤ 1 := by
  cases t with
  | lose v => exact ⟨by show 1 ≤ 12; omega, by show 0 ≤ 1; omega⟩
  | deed d =>
    cases d with
    | unset x =>
      show (if x < 0 then 1 else 12) ≤ 12 ∧ (if x < 0 then 0 else 1) ≤ 1
      split <;> exact ⟨by decide, by decide⟩
    | _ => exact ⟨Nat.le_refl _, Nat.le_refl _⟩
theorem sumT_deed : ∀ {l : List D}, sumT wT (l.map .deed) ≤ 12 * l.length ∧ sumT gT (l.map .deed) ≤ l.length
  | [] => ⟨Nat.le_refl _, Nat.le_refl _⟩
  | d :: l => by
    obtain ⟨h1, h2⟩ := sumT_deed (l := l)
    obtain ⟨h3, h4⟩ := wT_le (t := .deed d)
    exact ⟨by show _ + sumT wT (l.map .deed) ≤ 12 * (l.length + 1); omega, by show _ + sumT gT (l.map .deed) ≤ l.length + 1; omega⟩
theorem fm_lose : ∀ {l : List V}, (l.map T.lose).filterMap loseV = l
  | [] => rfl
  | v :: l => by show v :: (l.map T.lose).filterMap loseV = v :: l; rw [fm_lose]
theorem fm_deed : ∀ {l : List D}, (l.map T.deed).filterMap loseV = []
  | [] => rfl
  | _ :: l => fm_deed (l := l)
theorem u_mono (h : ∀ k : Int, H'.last < k ∨ H'.Due k → H.last < k ∨ H.Due k) : ∀ {n : Nat}, uS P H' n ≤ uS P H n
  | 0 => Nat.le_refl _
  | n + 1 => by
    have := u_mono h (n := n)
    unfold uS
    by_cases q : H'.last < (n : Int) + 1 ∨ H'.Due ((n : Int) + 1)
    · rw [if_pos q, if_pos (h _ q)]; omega
    · rw [if_neg q]; omega
theorem u_begin (h : ∀ k : Int, H'.last < k ∨ H'.Due k → H.last < k ∨ H.Due k) (h1 : 1 ≤ m) (h2 : H.Due m) (h3 : ¬ (H'.last < m ∨ H'.Due m)) : ∀ {n : Nat}, m ≤ n → uS P H' n + (planOf P m).length ≤ uS P H n
  | 0, q => by omega
  | n + 1, q => by
    unfold uS
    by_cases e : m = (n : Int) + 1
    · have := u_mono (P := P) h (n := n)
      rw [← e, if_neg h3, if_pos (.inr h2)]; omega
    · have := u_begin h h1 h2 h3 (n := n) (by omega)
      by_cases q : H'.last < (n : Int) + 1 ∨ H'.Due ((n : Int) + 1)
      · rw [if_pos q, if_pos (h _ q)]; omega
      · rw [if_neg q]; omega
theorem planOf_len (p : PlanOK P) : (planOf P m).length ≤ 2 := by
  unfold planOf
  cases e : getK m P with
  | none => exact Nat.zero_le _
  | some ds => exact p.len m ds e
theorem planOf_num (p : PlanOK P) (h : ¬ (1 ≤ m ∧ m ≤ 12)) : planOf P m = [] := by
  unfold planOf
  cases e : getK m P with
  | none => rfl
  | some ds => exact absurd (p.num m ds e) h
theorem planOf_good (p : PlanOK P) : ∀ d ∈ planOf P m, GoodD m d := by
  unfold planOf
  cases e : getK m P with
  | none => exact fun d hd => by cases hd
  | some ds => exact p.good m ds e
theorem u_le (p : PlanOK P) : ∀ {n : Nat}, uS P H n ≤ 2 * n
  | 0 => Nat.le_refl _
  | n + 1 => by
    have := u_le p (n := n)
    have h2 := planOf_len (m := (n : Int) + 1) p
    unfold uS
    split <;> omega
theorem Grow.u {a1 a2 a3 a4 a5 a6 : Nat} (g : Grow H H' a1 a2 a3 a4 a5 a6) : uS P H' n.toNat ≤ uS P H n.toNat := u_mono fun k q => by
  have := g.last
  rcases q with q | q
  · exact .inl (by omega)
  · rcases g.due k q with q | q
    · exact .inr q
    · exact .inl q
theorem Grow.u12 {a1 a2 a3 a4 a5 a6 : Nat} (g : Grow H H' a1 a2 a3 a4 a5 a6) : uS P H' 12 ≤ uS P H 12 := Grow.u (n := 12) g
theorem Grow.task {a1 a2 a3 a4 a5 a6 : Nat} (g : Grow H H' a1 a2 a3 a4 a5 a6) (q : TaskOK H t) : TaskOK H' t := by
  cases t with
  | lose v => trivial
  | deed d =>
    obtain ⟨m, h1, h2⟩ := q
    refine ⟨m, h1, h2.imp id fun ⟨h3, h4, h5⟩ => ⟨h3, ?_, fun h6 => ?_⟩⟩
    · have := g.last; omega
    · rcases g.due m h6 with h6 | h6
      · exact h5 h6
      · omega
theorem Grow.task0 (hl : H'.last = H.last) (hd : ∀ m, H'.Due m → H.Due m) (q : TaskOK H t) : TaskOK H' t := by
  cases t with
  | lose v => trivial
  | deed d =>
    obtain ⟨m, h1, h2⟩ := q
    exact ⟨m, h1, h2.imp id fun ⟨h3, h4, h5⟩ => ⟨h3, by omega, fun h6 => h5 (hd m h6)⟩⟩

theorem mark_ok (h : HI H x) (z : Sz H) (hc : getK n H.cells = some c) (hs : c.sort ≠ .ref) : ∃ H', H.mark n c = some H' ∧ HI H' x ∧ (∀ ts hd, toW H' ts hd = toW H ts hd) ∧ Grow H H' 0 0 0 0 0 0 := by
  unfold HS.mark
  cases hb : c.buf with
  | true => exact ⟨H, rfl, h, fun _ _ => rfl, Grow.refl⟩
  | false =>
    have h1 := h.buf_len; have h2 := h.cells_len; have h3 := z.last
    refine ⟨_, by rw [if_neg (by decide), if_pos (by omega)], h.mark hc hb hs, fun ts hd => toW_setC hc rfl, ?_⟩
    have g := Grow.setC (c' := { c with colour := "purple", buf := true }) (d := 0) hc rfl (Nat.le_refl _) id
    exact ⟨g.last, g.e, g.nr, g.dn, g.log, g.due, g.keep⟩
theorem suspect_ok (h : HI H x) (z : Sz H) (hc : getK n H.cells = some c) : ∃ H', H.suspect n = some H' ∧ HI H' x ∧ (∀ ts hd, toW H' ts hd = toW H ts hd) ∧ Grow H H' 0 0 0 0 0 0 := by
  unfold HS.suspect
  rw [hc, Option.bind_some]
  by_cases q : c.sort = .ref
  · obtain ⟨u, hu, hr⟩ := h.ref n c hc q
    rw [if_pos q, hu]
    show ∃ H', (match H.cellOf u with | none => some H | some d => H.mark u.num d) = some H' ∧ _
    cases u with
    | int i => exact ⟨H, rfl, h, fun _ _ => rfl, Grow.refl⟩
    | cell i =>
      obtain ⟨d, hd⟩ := Option.isSome_iff_exists.mp (h.liveS hc (k := 0) (n := i) (by rw [hu]; rfl))
      rw [show H.cellOf (.cell i) = some d from hd]
      refine mark_ok h z hd ?_
      rw [isRef_some (v := .cell i) hd, decide_eq_false_iff_not] at hr; exact hr
  · rw [if_neg q]; exact mark_ok h z hc q
theorem mapM_get : ∀ {l m : List (Int × V)}, (∀ p ∈ l, getK p.1 m = some p.2) → (l.map (·.1)).mapM (fun k => getK k m) = some (l.map (·.2))
  | [], _, _ => rfl
  | p :: r, m, h => by
    rw [List.map_cons, List.mapM_cons, h p (.head _), mapM_get fun q hq => h q (.tail _ hq)]; rfl
theorem vals_ok (nd : (l.map (·.1)).Nodup) (hz : l.length ≤ 1000000) : vals l = some (l.map (·.2)) := by
  unfold vals
  rw [if_pos hz]
  exact mapM_get fun p hp => getK_of_mem nd hp
theorem unbuf_ok (h : HI H x) (z : Sz H) (hc : getK n H.cells = some c) : H.unbuf n c = some (H.buffer.erase n) := by
  have h1 := h.buf_len; have h2 := h.cells_len; have h3 := z.last
  unfold HS.unbuf
  cases hb : c.buf with
  | true => rw [if_pos rfl, if_pos ⟨(h.buf n).mpr ⟨c, hc, hb⟩, by omega⟩]
  | false =>
    rw [if_neg (by decide), List.erase_of_not_mem fun q => ?_]
    obtain ⟨d, h1, h2⟩ := (h.buf n).mp q
    rw [hc] at h1; cases h1; rw [hb] at h2; cases h2
end
end
/-! Q9 -/
section
set_option autoImplicit false

section
variable {P : List (Int × List D)} {H H' H'' : HS} {x y : Int → Nat} {n m k j a : Int} {c c' cm : C} {v w : V} {ts us : List T} {hd : List V} {l : List (Int × V)} {p : Pl} {t : T} {f : T → Nat} {l' : List (Int × C)}
theorem Grow.bnd0 {a3 : Nat} {v : V} (g : Grow H H' 0 0 a3 0 0 0) (h3 : a3 = 0) : Bnd P H (.lose v :: ts) H' ts := by
  subst h3
  have u := g.u12 (P := P); have l1 := g.last; have e1 := g.e; have r1 := g.nr; have d1 := g.dn; have o1 := g.log
  have ew : sumT wT (.lose v :: ts) = 1 + sumT wT ts := rfl
  have eg : sumT gT (.lose v :: ts) = 0 + sumT gT ts := rfl
  exact ⟨by unfold Phi; omega, by unfold bud; omega, by unfold bud; omega, by omega⟩

def HS.freeS (H : HS) (m : Int) : HS := { H with cells := delK m H.cells, buffer := H.buffer.erase m, freed := H.freed + 1, log := H.log ++ [.free m] }
/-- what a step of the two heaps leaves -/
structure StepOK (P : List (Int × List D)) (H : HS) (t : T) (ts : List T) (H' : HS) (us : List T) : Prop where
  hs : H.step P t = some (H', us)
  ws : WS.step P (toW H ts []) t = some (toW H' (us ++ ts) [])
  hi : HI H' (fun n => lsN n ((us ++ ts).filterMap loseV))
  bnd : Bnd P H (t :: ts) H' (us ++ ts)
  task : ∀ t ∈ us, TaskOK H' t
  old : ∀ t, TaskOK H t → TaskOK H' t
  len : us.length ≤ 1000

theorem begin_ok (pk : PlanOK P) (h : HI H x) (zs : SzS H) (hc : getK m H.cells = some c) (hdue : c.due = true) (hnone : getK (-m) H.vars = none) : ∃ H', H.beginD P m = some (H', (planOf P m).map .deed ++ [.deed (.unset (-m))]) ∧
    toW H' ((planOf P m).map .deed ++ .deed (.unset (-m)) :: ts) [] = { toW H ts [] with cells := putK m { wc c with due := false } (toW H ts []).cells, log := H.log ++ [.destruct m], vars := putK (-m) (.cell m) H.vars, tasks := (planOf P m).map .deed ++ .deed (.unset (-m)) :: ts } ∧
    HI H' x ∧ H'.last = H.last ∧ H'.dn + 1 ≤ H.dn ∧ H'.nr ≤ H.nr ∧ H'.E ≤ H.E + 1 ∧ H'.log.length ≤ H.log.length + 1 ∧ (∀ n, H'.Due n → H.Due n) ∧ ¬ H'.Due m := by
  have hr := h.rng m c hc
  have d2 : ({ c with isD := true } : C).due = false := by show (c.hasD && !true) = false; cases c.hasD <;> rfl
  have h1 : HI (H.setC m { c with isD := true }) x := h.setCount hc rfl rfl rfl (h.cnt m c hc) (fun _ _ => rfl) (fun q => by rw [d2] at q; cases q)
  have g1 : Grow H (H.setC m { c with isD := true }) 0 0 0 0 0 0 := Grow.setC hc rfl (Nat.le_refl _) (fun q => by rw [d2] at q; cases q)
  have dn1 : (H.setC m { c with isD := true }).dn + 1 = H.dn := by
    have := sum_setC (f := fun c => if c.due = true then 1 else 0) (c' := { c with isD := true }) hc
    simp only [d2, hdue] at this
    exact this
  have nd1 : ∀ n, (H.setC m { c with isD := true }).Due n → H.Due n ∧ n ≠ m := fun n ⟨e, he, hed⟩ => by
    rw [getK_setC] at he
    by_cases q : n = m
    · rw [if_pos q] at he; cases he; rw [d2] at hed; cases hed
    · rw [if_neg q] at he; exact ⟨⟨e, he, hed⟩, q⟩
  have h2 : HI { H.setC m { c with isD := true } with log := H.log ++ [.destruct m] } x := h1.setLog
  have g2 : Grow (H.setC m { c with isD := true }) { H.setC m { c with isD := true } with log := H.log ++ [.destruct m] } 0 0 0 0 1 0 := Grow.setLog (by rw [List.length_append]; exact Nat.le_refl _)
  have hc2 : getK m ({ H.setC m { c with isD := true } with log := H.log ++ [.destruct m] } : HS).cells = some { c with isD := true } := by show getK m (H.setC m _).cells = _; rw [getK_setC, if_pos rfl]
  obtain ⟨g31, g32, g33, _⟩ := gain_ok h2 (v := .cell m) (LiveV.cell hc2)
  have g13 := (g2.trans g33)
  generalize hH3 : HS.gain { H.setC m { c with isD := true } with log := H.log ++ [.destruct m] } (.cell m) = H3 at g31 g32 g33 g13
  have hv3 : H3.vars = H.vars := by
    rw [← hH3]
    unfold HS.gain
    rw [show ({ H.setC m { c with isD := true } with log := H.log ++ [.destruct m] } : HS).cellOf (.cell m) = some { c with isD := true } from hc2]; rfl
  have z := zs.sz0.sz
  have zv := z.vars; have zl := z.log
  have l13 := g13.last; have e13 := g13.e; have o13 := g13.log; have n13 := g13.nr; have d13 := g13.dn
  have ll : (H.setC m { c with isD := true }).last = H.last := rfl
  have lg : (H.setC m { c with isD := true }).log.length = H.log.length := rfl
  have e1 := g1.e; have n1 := g1.nr
  have due3 : ∀ n, n ≤ H.last → H3.Due n → H.Due n ∧ n ≠ m := fun n hn hd => by
    rcases g13.due n hd with q | q
    · exact nd1 n q
    · omega
  have z3 := ((g1.trans g13).szs zs (by omega)).sz
  have q : PlOK H3 (-m) (.cell m) .vars := fun m' h4 h5 => by
    have : m' = m := by omega
    subst this
    exact ⟨by omega, fun q => (due3 m' hr.2 q).2 rfl⟩
  obtain ⟨_, _, r3, r4⟩ := replaced_at (p := .vars) (k := -m) (l := H3.vars) g31 z3 q rfl
  have hS : H3.setPl .vars (putK (-m) (.cell m) H3.vars) = { H3 with vars := putK (-m) (.cell m) H.vars } := by rw [hv3]; rfl
  rw [hS, hv3, hnone] at r3 r4
  have l4 := r4.last; have e4 := r4.e; have o4 := r4.log; have n4 := r4.nr; have d4 := r4.dn
  have hp := planOf_len (m := m) pk
  refine ⟨{ H3 with vars := putK (-m) (.cell m) H.vars }, ?_, ?_, r3.congr fun _ => rfl, by omega, by omega, by omega, by have e4 : _ + 0 ≤ _ := e4; omega, by omega, fun n hd => ?_, fun hd => ?_⟩
  · unfold HS.beginD
    rw [hc, Option.bind_some, if_pos ⟨by omega, by omega⟩, hH3]
    unfold HS.setVar
    rw [hv3, if_pos (by omega)]; rfl
  · show ({ toW H3 ((planOf P m).map .deed ++ .deed (.unset (-m)) :: ts) [] with vars := putK (-m) (.cell m) H.vars } : WS) = _
    rw [g32]
    show ({ toW (H.setC m { c with isD := true }) ((planOf P m).map .deed ++ .deed (.unset (-m)) :: ts) [] with log := H.log ++ [.destruct m], vars := putK (-m) (.cell m) H.vars } : WS) = _
    rw [toW_setC2]
    have : wc { c with isD := true } = { wc c with due := false } := by unfold wc; rw [d2]
    rw [this]; rfl
  · have hn : n ≤ H.last := by
      obtain ⟨e, he, _⟩ := hd
      have := (r3.rng n e he).2
      omega
    have hd : H3.Due n := hd
    exact (due3 n hn hd).1
  · exact (due3 m hr.2 hd).2 rfl

theorem delK_wc : delK k (l'.map fun p : Int × C => (p.1, wc p.2)) = (delK k l').map fun p => (p.1, wc p.2) := by
  unfold delK; rw [List.filter_map]; rfl
theorem lose_int {i : Int} (h : HI H (fun n => lsN n ((T.lose (.int i) :: ts).filterMap loseV))) : StepOK P H (.lose (.int i)) ts H [] :=
  ⟨rfl, rfl, h.congr fun n => Nat.zero_add _, Grow.refl.bnd0 rfl, fun _ h => (by cases h), fun _ h => h, Nat.zero_le _⟩

theorem lose_ok (pk : PlanOK P) (zs : SzS H) (h : HI H (fun n => lsN n ((T.lose (.cell m) :: ts).filterMap loseV))) (ht : ts.length ≤ 90000) : ∃ H' us, StepOK P H (.lose (.cell m)) ts H' us := by
  have hx : ∀ n, lsN n ((T.lose (.cell m) :: ts).filterMap loseV) = one (.cell m) n + lsN n (ts.filterMap loseV) := fun _ => rfl
  obtain ⟨c, hc⟩ := Option.isSome_iff_exists.mp (h.liveX (n := m) (by rw [hx, one_self]; omega))
  have z := zs.sz0.sz
  have hcnt := h.cnt m c hc
  rw [hx, one_self] at hcnt
  have hrng := h.rng m c hc
  have h1 : HI (H.setC m { c with count := c.count - 1 }) (fun n => lsN n (ts.filterMap loseV)) := h.setCount hc rfl rfl rfl (by show c.count - 1 = _; omega) (fun n hn => by rw [hx, one_ne fun e => hn e.symm, Nat.zero_add]) fun q => .inl q
  have g1 : Grow H (H.setC m { c with count := c.count - 1 }) 0 0 0 0 0 0 := Grow.setC hc rfl (Nat.le_refl _) id
  have hc1 : getK m (H.setC m { c with count := c.count - 1 }).cells = some { c with count := c.count - 1 } := by rw [getK_setC, if_pos rfl]
  have tw : ∀ ts hd, toW (H.setC m { c with count := c.count - 1 }) ts hd = toW H ts hd := fun ts hd => toW_setC hc rfl
  have zs1 : SzS (H.setC m { c with count := c.count - 1 }) := ⟨by have := g1.e; have := zs.e; omega, zs.last, zs.log⟩
  have due1 : ∀ n, (H.setC m { c with count := c.count - 1 }).Due n → H.Due n := fun n hn => by
    obtain ⟨e, he, hed⟩ := hn
    rw [getK_setC] at he
    by_cases q : n = m
    · rw [if_pos q] at he; cases he; rw [q]; exact ⟨c, hc, hed⟩
    · rw [if_neg q] at he; exact ⟨e, he, hed⟩
  have hol : (toW H ts []).holders m = cntH m H + lsN m (ts.filterMap loseV) := by rw [holders_eq h]; show _ + (0 + _) = _; omega
  have hsm := small_ok (hd := []) h z ht (Nat.zero_le _)
  have stepH : HS.step P H (.lose (.cell m)) = if c.count - 1 > 0 then ((H.setC m { c with count := c.count - 1 }).suspect m).map fun H2 => (H2, [])
    else if c.hasD = true ∧ c.isD = false then (H.setC m { c with count := c.count - 1 }).beginD P m
    else ((H.setC m { c with count := c.count - 1 }).freeCell m).map fun z => (z.1, z.2.map .lose) := by
    show (match H.cellOf (.cell m) with | none => _ | some c => _) = _
    rw [show H.cellOf (.cell m) = some c from hc]; rfl
  by_cases qc : c.count - 1 > 0
  · obtain ⟨H2, e1, h2, t2, g2⟩ := suspect_ok h1 zs1.sz0.sz hc1
    refine ⟨H2, [], ?_, ?_, h2, (g1.trans g2).bnd0 rfl, fun _ h => (by cases h), fun _ h => (g1.trans g2).task h, Nat.zero_le _⟩
    · rw [stepH, if_pos qc, e1]; rfl
    · show WS.letGo P (toW H ts []) (.cell m) = _
      unfold WS.letGo
      simp only
      rw [hsm, if_pos rfl, hol, if_pos (by omega), ← tw, ← t2]; rfl
  have hz : cntH m H + lsN m (ts.filterMap loseV) = 0 := by omega
  have stepW : ∀ X, (if c.due = true then if H.log.length ≤ 100000 ∧ H.vars.length ≤ 100000 ∧ (planOf P m).length ≤ 100000 ∧ ts.length ≤ 100000 then some { toW (H.setC m { c with count := c.count - 1 }) ts [] with cells := putK m { wc { c with count := c.count - 1 } with due := false } (toW (H.setC m { c with count := c.count - 1 }) ts []).cells, log := H.log ++ [.destruct m], vars := putK (-m) (.cell m) H.vars, tasks := (planOf P m).map .deed ++ .deed (.unset (-m)) :: ts } else none
      else if H.log.length ≤ 100000 ∧ (toW (H.setC m { c with count := c.count - 1 }) ts []).cells.length ≤ 100000 ∧ c.slots.length ≤ 100000 ∧ ts.length ≤ 100000 then some { toW (H.setC m { c with count := c.count - 1 }) ts [] with cells := delK m (toW (H.setC m { c with count := c.count - 1 }) ts []).cells, log := H.log ++ [.free m], tasks := (c.slots.map fun p => T.lose p.2) ++ ts } else none) = some X → WS.step P (toW H ts []) (.lose (.cell m)) = some X := fun X hX => by
    show WS.letGo P (toW H ts []) (.cell m) = _
    rw [← hX]
    unfold WS.letGo
    simp only
    rw [hsm, if_pos rfl, hol, if_neg (by omega), ← tw, toW_get, hc1]; rfl
  have zv := z.vars; have zl := z.log; have zc := h.cells_len; have zla := z.last
  have hp := planOf_len (m := m) pk
  cases hd : c.due with
  | true =>
    have hd2 : c.hasD = true ∧ c.isD = false := by
      have hd : (c.hasD && !c.isD) = true := hd
      cases q1 : c.hasD <;> cases q2 : c.isD <;> rw [q1, q2] at hd <;> first | exact ⟨rfl, rfl⟩ | cases hd
    have hDue : H.Due m := ⟨c, hc, hd⟩
    have hnone : getK (-m) H.vars = none := by
      cases e : getK (-m) H.vars with
      | none => rfl
      | some v => exact absurd hDue (h.neg m hrng.1 (by rw [e]; rfl)).2
    obtain ⟨H', e1, e2, h2, l2, d2, n2, ee2, o2, du2, nd2⟩ := begin_ok (ts := ts) pk h1 zs1 hc1 hd hnone
    have l2 : H'.last = H.last := l2
    have o2 : H'.log.length ≤ H.log.length + 1 := o2
    have ge := g1.e; have gd := g1.dn; have gn := g1.nr
    have app : ((planOf P m).map T.deed ++ [T.deed (.unset (-m))]) ++ ts = (planOf P m).map T.deed ++ T.deed (.unset (-m)) :: ts := by rw [List.append_assoc]; rfl
    have fm : (((planOf P m).map T.deed ++ [T.deed (.unset (-m))]) ++ ts).filterMap loseV = ts.filterMap loseV := by
      rw [app, List.filterMap_append, fm_deed]; rfl
    have hold : ∀ k : Int, H'.last < k ∨ H'.Due k → H.last < k ∨ H.Due k := fun k q => by
      rcases q with q | q
      · exact .inl (by omega)
      · exact .inr (due1 k (du2 k q))
    have hu : uS P H' 12 + (planOf P m).length ≤ uS P H 12 := by
      by_cases q : m ≤ 12
      · exact u_begin hold hrng.1 hDue (fun q => q.elim (fun q => by omega) nd2) (n := 12) q
      · rw [planOf_num pk (by omega)]; exact u_mono hold
    have w1 : sumT wT ((planOf P m).map T.deed ++ .deed (.unset (-m)) :: ts) ≤ 12 * (planOf P m).length + (1 + sumT wT ts) := by
      rw [sumT_append]
      have := (sumT_deed (l := planOf P m)).1
      show _ + ((if -m < 0 then 1 else 12) + sumT wT ts) ≤ _
      rw [if_pos (by omega)]; omega
    have w2 : sumT gT ((planOf P m).map T.deed ++ .deed (.unset (-m)) :: ts) ≤ (planOf P m).length + sumT gT ts := by
      rw [sumT_append]
      have := (sumT_deed (l := planOf P m)).2
      show _ + ((if -m < 0 then 0 else 1) + sumT gT ts) ≤ _
      rw [if_pos (by omega)]; omega
    have w3 : sumT wT (.lose (.cell m) :: ts) = 1 + sumT wT ts := rfl
    have w4 : sumT gT (.lose (.cell m) :: ts) = 0 + sumT gT ts := rfl
    refine ⟨H', (planOf P m).map .deed ++ [.deed (.unset (-m))], ?_, ?_, ?_, ⟨?_, ?_, ?_, o2⟩, fun t ht => ?_, fun t ht => Grow.task0 l2 (fun n hn => due1 n (du2 n hn)) ht, ?_⟩
    · rw [stepH, if_neg qc, if_pos hd2]; exact e1
    · refine stepW _ ?_
      rw [hd, if_pos rfl, if_pos ⟨by omega, by omega, by omega, by omega⟩, app, e2]; rfl
    · exact h2.congr fun n => by rw [fm]
    · rw [app]; unfold Phi; omega
    · rw [app]; unfold bud; omega
    · rw [app]; unfold bud; omega
    · rw [List.mem_append, List.mem_singleton] at ht
      have ok : (1 ≤ m ∧ m ≤ H'.last ∧ ¬ H'.Due m) := ⟨hrng.1, by omega, nd2⟩
      rcases ht with ht | ht
      · obtain ⟨d, hd, rfl⟩ := List.mem_map.mp ht
        exact ⟨m, planOf_good pk d hd, .inr ok⟩
      · subst ht
        exact ⟨m, ⟨fun x hx => .inr (by simpa [D.vs] using hx), fun k hk => by cases hk⟩, .inr ok⟩
    · rw [List.length_append, List.length_map]; show _ + 1 ≤ _; omega
  | false =>
    have hd2 : ¬ (c.hasD = true ∧ c.isD = false) := fun ⟨q1, q2⟩ => by
      have hd : (c.hasD && !c.isD) = false := hd
      rw [q1, q2] at hd; cases hd
    have s3 := h.slots3 hc
    have bl := h1.buf_len
    have cl1 : (H.setC m { c with count := c.count - 1 }).cells.length = H.cells.length := by
      have := congrArg List.length (keys_setC (c' := { c with count := c.count - 1 }) hc)
      rwa [List.length_map, List.length_map] at this
    have hz1 : cntH m (H.setC m { c with count := c.count - 1 }) + lsN m (ts.filterMap loseV) = 0 := by
      have := h1.cnt m _ hc1
      have : c.count - 1 = _ := this
      omega
    have h2 : HI ((H.setC m { c with count := c.count - 1 }).freeS m) (fun n => lsN n (ts.filterMap loseV) + cntL n c.slots) := h1.del (c := { c with count := c.count - 1 }) (g := H.log ++ [L.free m]) (fr := H.freed + 1) hc1 hz1
    have sd : ∀ f : C → Nat, sumF f (delK m (H.setC m { c with count := c.count - 1 }).cells) + f { c with count := c.count - 1 } = sumF f (H.setC m { c with count := c.count - 1 }).cells := fun f => by
      have := sumF_del (f := f) (k := m) h1.cnd
      rw [hc1] at this; exact this
    have ge := g1.e; have gd := g1.dn; have gn := g1.nr
    have duF : ∀ n, ((H.setC m { c with count := c.count - 1 }).freeS m).Due n → H.Due n := fun n ⟨e, he, hed⟩ => by
      have he : getK n (delK m (H.setC m { c with count := c.count - 1 }).cells) = some e := he
      rw [getK_delK] at he
      by_cases q : n = m
      · rw [if_pos q] at he; cases he
      · rw [if_neg q] at he; exact due1 n ⟨e, he, hed⟩
    have fm : ((c.slots.map (·.2)).map T.lose ++ ts).filterMap loseV = c.slots.map (·.2) ++ ts.filterMap loseV := by rw [List.filterMap_append, fm_lose]
    have hu : uS P ((H.setC m { c with count := c.count - 1 }).freeS m) 12 ≤ uS P H 12 := u_mono fun k q => q.imp id (duF k)
    have sE := sd fun c => c.slots.length
    have sN := sd fun c => if c.sort = .ref then 0 else 1
    have sD := sd fun c => if c.due = true then 1 else 0
    have w1 := sumT_lose (l := c.slots.map (·.2))
    rw [List.length_map] at w1
    have w3 : sumT wT (.lose (.cell m) :: ts) = 1 + sumT wT ts := rfl
    have w4 : sumT gT (.lose (.cell m) :: ts) = 0 + sumT gT ts := rfl
    have eF : ((H.setC m { c with count := c.count - 1 }).freeS m).E + c.slots.length = (H.setC m { c with count := c.count - 1 }).E := by
      have sE : sumF (fun c => c.slots.length) ((H.setC m { c with count := c.count - 1 }).freeS m).cells + c.slots.length = sumF (fun c => c.slots.length) (H.setC m { c with count := c.count - 1 }).cells := sE
      unfold HS.E
      show H.vars.length + _ + _ = H.vars.length + _
      omega
    have nF : ((H.setC m { c with count := c.count - 1 }).freeS m).nr ≤ (H.setC m { c with count := c.count - 1 }).nr := by
      unfold HS.nr; exact Nat.le_trans (Nat.le_add_right _ _) (Nat.le_of_eq sN)
    have dF : ((H.setC m { c with count := c.count - 1 }).freeS m).dn ≤ (H.setC m { c with count := c.count - 1 }).dn := by
      unfold HS.dn; exact Nat.le_trans (Nat.le_add_right _ _) (Nat.le_of_eq sD)
    refine ⟨(H.setC m { c with count := c.count - 1 }).freeS m, (c.slots.map (·.2)).map .lose, ?_, ?_, h2.congr fun n => ?_, ⟨?_, ?_, ?_, ?_⟩, fun t ht => ?_, fun t ht => Grow.task0 (H := H) rfl duF ht, ?_⟩
    · rw [stepH, if_neg qc, if_neg hd2]
      unfold HS.freeCell
      rw [hc1, Option.bind_some]
      show ((vals c.slots).bind _).map _ = _
      rw [vals_ok (h.snd m c hc) (by omega), Option.bind_some, unbuf_ok h1 zs1.sz0.sz hc1, Option.bind_some, if_pos ⟨by omega, by show H.log.length ≤ _; omega, by rw [List.length_map]; omega⟩]; rfl
    · refine stepW _ ?_
      rw [hd, if_neg (by decide), if_pos ⟨by omega, by show (List.map _ (H.setC m _).cells).length ≤ _; rw [List.length_map]; omega, by omega, by omega⟩]
      show some _ = some ({ toW (H.setC m { c with count := c.count - 1 }) ts [] with cells := (delK m (H.setC m { c with count := c.count - 1 }).cells).map (fun p => (p.1, wc p.2)), log := H.log ++ [.free m], tasks := (c.slots.map (·.2)).map T.lose ++ ts } : WS)
      rw [← delK_wc, List.map_map]; rfl
    · rw [fm, lsN_append, lsN_snd]; show _ + cntL n c.slots = _; omega
    · unfold Phi; rw [sumT_append]; omega
    · unfold bud; rw [sumT_append]; show H.last + _ ≤ _; omega
    · unfold bud; rw [sumT_append]; omega
    · show (H.log ++ [_]).length ≤ _; rw [List.length_append]; exact Nat.le_refl _
    · obtain ⟨v, _, rfl⟩ := List.mem_map.mp ht; trivial
    · rw [List.length_map, List.length_map]; omega
end
end
/-! Q10 -/
section
set_option autoImplicit false

section
variable {P : List (Int × List D)} {H H' H'' : HS} {x y : Int → Nat} {n m k j a : Int} {c c' cm : C} {v w : V} {ts us : List T} {hd : List V} {l : List (Int × V)} {p : Pl} {t : T} {f : T → Nat}
theorem deedW_ok {d : D} {ls : List V} (hw : (toW H ts []).change d = some (toW H' ts [], ls)) (hz : ls.length + ts.length ≤ 100000) : WS.step P (toW H ts []) (.deed d) = some (toW H' (ls.map .lose ++ ts) []) := by
  show ((toW H ts []).change d).bind _ = _
  rw [hw, Option.bind_some]
  show (if ls.length + ts.length ≤ 100000 then some _ else none) = _
  rw [if_pos hz]; rfl
theorem deedH_ok {d : D} {ls : List V} (hh : H.change d = some (H', ls)) : HS.step P H (.deed d) = some (H', ls.map .lose) := by
  show (H.change d).map _ = _
  rw [hh]; rfl
theorem hi_deed {ls : List V} (h : HI H' (fun n => lsN n (ts.filterMap loseV) + lsN n ls)) : HI H' (fun n => lsN n ((ls.map T.lose ++ ts).filterMap loseV)) := h.congr fun n => by
  rw [List.filterMap_append, fm_lose, lsN_append]; omega
theorem task_lose {ls : List V} : ∀ t ∈ ls.map T.lose, TaskOK H t := fun t ht => by
  obtain ⟨v, _, rfl⟩ := List.mem_map.mp ht; trivial
theorem TaskOK.vars {d : D} (q : TaskOK H (.deed d)) : (∀ k ∈ d.vs, PlOK H k (.int 0) .vars) ∧ ∀ k ∈ d.ks, 0 ≤ k ∧ k ≤ 2 := by
  obtain ⟨m, g, hm⟩ := q
  refine ⟨fun k hk m' h1 h2 => ?_, g.ks⟩
  rcases g.vs k hk with h3 | h3
  · omega
  · have : m' = m := by omega
    subst this
    rcases hm with h4 | h4
    · omega
    · exact h4.2
theorem change_step {d : D} (zs : SzS H) (hE : H.E ≤ 900) (h : HI H (fun n => lsN n (ts.filterMap loseV))) (ht : ts.length ≤ 90000) (q : TaskOK H (.deed d)) (w1 : wT (.deed d) = 12) (w2 : gT (.deed d) = 1) : ∃ H' us, StepOK P H (.deed d) ts H' us := by
  obtain ⟨q1, q2⟩ := q.vars
  obtain ⟨H', ls, e1, e2, h1, g⟩ := change_ok h zs ⟨fun n => (Nat.zero_add _).symm, ht, Nat.zero_le _⟩ q1 q2
  have u := g.u12 (P := P); have l1 := g.last; have ge := g.e; have r1 := g.nr; have d1 := g.dn; have o1 := g.log
  obtain ⟨s1, s2⟩ := sumT_lose (l := ls)
  have w3 : sumT wT (.deed d :: ts) = 12 + sumT wT ts := by show wT _ + _ = _; rw [w1]
  have w4 : sumT gT (.deed d :: ts) = 1 + sumT gT ts := by show gT _ + _ = _; rw [w2]
  refine ⟨H', ls.map .lose, deedH_ok e1, deedW_ok e2 (by omega), hi_deed h1, ⟨?_, ?_, ?_, o1⟩, task_lose, fun t ht => g.task ht, by rw [List.length_map]; omega⟩
  · unfold Phi; rw [sumT_append]; omega
  · unfold bud; rw [sumT_append]; omega
  · unfold bud; rw [sumT_append]; omega
theorem unset_step (zs : SzS H) (hE : H.E ≤ 900) (h : HI H (fun n => lsN n (ts.filterMap loseV))) (ht : ts.length ≤ 90000) (hk : k < 0) : ∃ H' us, StepOK P H (.deed (.unset k)) ts H' us := by
  obtain ⟨H', ls, e1, e2, h1, g⟩ := takenOut_ok (p := .vars) (k := k) h zs.sz0.sz trivial
  have u := g.u12 (P := P); have l1 := g.last; have ge := g.e; have r1 := g.nr; have d1 := g.dn; have o1 := g.log
  obtain ⟨s1, s2⟩ := sumT_lose (l := ls)
  have w3 : sumT wT (.deed (.unset k) :: ts) = 1 + sumT wT ts := by show (if k < 0 then 1 else 12) + _ = _; rw [if_pos hk]
  have w4 : sumT gT (.deed (.unset k) :: ts) = 0 + sumT gT ts := by show (if k < 0 then 0 else 1) + _ = _; rw [if_pos hk]
  refine ⟨H', ls.map .lose, deedH_ok e1, deedW_ok (e2 _ _) (by omega), hi_deed h1, ⟨?_, ?_, ?_, by omega⟩, task_lose, fun t ht => g.task ht, by rw [List.length_map]; omega⟩
  · unfold Phi; rw [sumT_append]; omega
  · unfold bud; rw [sumT_append]; omega
  · unfold bud; rw [sumT_append]; omega
theorem step_ok (pk : PlanOK P) (zs : SzS H) (hE : H.E ≤ 900) (h : HI H (fun n => lsN n ((t :: ts).filterMap loseV))) (ht : ts.length ≤ 90000) (q : TaskOK H t) : ∃ H' us, StepOK P H t ts H' us := by
  cases t with
  | lose v =>
    cases v with
    | int i => exact ⟨H, [], lose_int h⟩
    | cell m => exact lose_ok pk zs h ht
  | deed d =>
    cases d with
    | unset k =>
      by_cases hk : k < 0
      · exact unset_step zs hE h ht hk
      · exact change_step zs hE h ht q (if_neg hk) (if_neg hk)
    | _ => exact change_step zs hE h ht q rfl rfl

/-- how far all that is still to come may go; r: the deeds still to be told -/
structure Lim (P : List (Int × List D)) (r : Nat) (H : HS) (ts : List T) : Prop where
  phi : Phi P H ts + 12 * r + H.log.length ≤ 504
  last : H.last + 2 * ((bud P H ts + r : Nat) : Int) ≤ 84
  nr : H.nr + (bud P H ts + r) ≤ 42
theorem Lim.step {r : Nat} {ts' : List T} (q : Lim P r H ts) (b : Bnd P H ts H' ts') : Lim P r H' ts' := by
  have h1 := q.phi; have h2 := q.last; have h3 := q.nr; have h4 := b.phi; have h5 := b.last; have h6 := b.nr; have h7 := b.log
  exact ⟨by omega, by omega, by omega⟩
theorem len_wT : ∀ {ts : List T}, ts.length ≤ sumT wT ts
  | [] => Nat.le_refl _
  | t :: ts => by
    have h1 := len_wT (ts := ts)
    have h2 : 1 ≤ wT t := by
      cases t with
      | lose v => exact Nat.le_refl _
      | deed d =>
        cases d with
        | unset x => show 1 ≤ if x < 0 then 1 else 12; split <;> omega
        | _ => show 1 ≤ 12; omega
    show ts.length + 1 ≤ wT t + sumT wT ts
    omega
theorem Lim.small {r : Nat} (q : Lim P r H ts) : SzS H ∧ H.E ≤ 900 ∧ ts.length ≤ 504 := by
  have h1 := q.phi; have h2 := q.last; have h3 := len_wT (ts := ts)
  unfold Phi at h1
  exact ⟨⟨by omega, by omega, by omega⟩, by omega, by omega⟩
theorem run_ok (pk : PlanOK P) {r : Nat} : ∀ (N : Nat) {H : HS} {ts : List T}, Phi P H ts ≤ N → HI H (fun n => lsN n (ts.filterMap loseV)) → Lim P r H ts → (∀ t ∈ ts, TaskOK H t) →
    ∃ m H', HRuns P m H ts H' ∧ WRuns P m (toW H ts []) (toW H' [] []) ∧ HI H' (fun _ => 0) ∧ Lim P r H' []
  | N, H, [], _, h, q, _ => ⟨0, H, .nil H, .nil rfl, h, q⟩
  | 0, H, t :: ts, hN, _, _, _ => by
    have h3 := len_wT (ts := t :: ts)
    rw [List.length_cons] at h3
    unfold Phi at hN; omega
  | N + 1, H, t :: ts, hN, h, q, tk => by
    obtain ⟨z1, z2, z3⟩ := q.small
    rw [List.length_cons] at z3
    obtain ⟨H1, us, s⟩ := step_ok (ts := ts) pk z1 z2 h (by omega) (tk t (.head _))
    have := s.bnd.phi
    obtain ⟨m, H', r1, r2, r3, r4⟩ := run_ok pk N (by omega) s.hi (q.step s.bnd) fun t' ht' => by
      rcases List.mem_append.mp ht' with ht' | ht'
      · exact s.task t' ht'
      · exact s.old t' (tk t' (.tail _ ht'))
    have := s.len
    exact ⟨m + 1, H', .cons s.hs (by omega) r1, .cons rfl (by omega) s.ws r2, r3, r4⟩
end
end
/-! Q11 -/
section
set_option autoImplicit false

theorem insQ_perm (a : Int) : ∀ l, (insI a l).Perm (a :: l)
  | [] => .refl _
  | b :: r => by
    show (if a ≤ b then a :: b :: r else b :: insI a r).Perm (a :: b :: r)
    by_cases q : a ≤ b
    · rw [if_pos q]
    · rw [if_neg q]; exact ((insQ_perm a r).cons b).trans (.swap a b r)
theorem sortQ_perm : ∀ l, (sortI l).Perm l
  | [] => .refl _
  | a :: r => (insQ_perm a _).trans ((sortQ_perm r).cons a)
theorem insI_rises (a : Int) : ∀ l, l.Pairwise (· ≤ ·) → (insI a l).Pairwise (· ≤ ·)
  | [], _ => by show [a].Pairwise _; simp
  | b :: r, h => by
    rw [List.pairwise_cons] at h
    show (if a ≤ b then a :: b :: r else b :: insI a r).Pairwise _
    by_cases q : a ≤ b
    · rw [if_pos q, List.pairwise_cons, List.pairwise_cons]
      refine ⟨fun c hc => ?_, h⟩
      rcases List.mem_cons.mp hc with hc | hc
      · rw [hc]; exact q
      · exact Int.le_trans q (h.1 c hc)
    · rw [if_neg q, List.pairwise_cons]
      refine ⟨fun c hc => ?_, insI_rises a r h.2⟩
      have hc := (insQ_perm a r).mem_iff.mp hc
      rcases List.mem_cons.mp hc with hc | hc
      · omega
      · exact h.1 c hc
theorem sortI_rises : ∀ l, (sortI l).Pairwise (· ≤ ·)
  | [] => .nil
  | a :: r => insI_rises a _ (sortI_rises r)
theorem sortI_eq {a b : List Int} (hp : b.Perm a) (hs : b.Pairwise (· ≤ ·)) : sortI a = b :=
  List.Perm.eq_of_pairwise (fun _ _ _ _ a b => Int.le_antisymm a b) (sortI_rises a) hs ((sortQ_perm a).trans hp.symm)

section
variable {P : List (Int × List D)} {H H' H'' : HS} {x y : Int → Nat} {n m k j a : Int} {c c' cm : C} {v w : V} {ts us : List T} {hd : List V} {l : List (Int × V)} {p : Pl} {t : T} {f : T → Nat}
theorem map_getv (nd : (l.map (·.1)).Nodup) : (l.map fun p => getv l p.1) = l.map (·.2) :=
  List.map_congr_left fun p hp => by unfold getv; rw [getK_of_mem nd hp]; rfl
theorem lsN_flatC {f : Int × C → List V} : ∀ {l : List (Int × C)}, (∀ p ∈ l, f p = p.2.slots.map (·.2)) → lsN n (l.flatMap f) = sumF (fun c => cntL n c.slots) l
  | [], _ => rfl
  | p :: r, h => by
    rw [List.flatMap_cons, lsN_append, h p (.head _), lsN_snd, lsN_flatC fun q hq => h q (.tail _ hq)]; rfl
theorem len_flatC {f : Int × C → List V} : ∀ {l : List (Int × C)}, (∀ p ∈ l, f p = p.2.slots.map (·.2)) → (l.flatMap f).length = sumF (fun c => c.slots.length) l
  | [], _ => rfl
  | p :: r, h => by
    rw [List.flatMap_cons, List.length_append, h p (.head _), List.length_map, len_flatC fun q hq => h q (.tail _ hq)]; rfl
theorem HI.heldOf (h : HI H x) : ∀ p ∈ H.cells, (match getK p.1 H.cells with | some c => c.slots.map fun q => getv c.slots q.1 | none => []) = p.2.slots.map (·.2) := fun p hp => by
  have hg := getK_of_mem h.cnd hp
  rw [hg]; exact map_getv (h.snd _ _ hg)
theorem held_cnt (h : HI H x) : lsN n H.allHeld = cntH n H := by
  unfold HS.allHeld
  rw [lsN_append, map_getv h.vnd, lsN_snd]
  exact congrArg (cntL n H.vars + ·) (lsN_flatC h.heldOf)
theorem held_len (h : HI H x) : H.allHeld.length = H.E := by
  unfold HS.allHeld
  rw [List.length_append, map_getv h.vnd, List.length_map]
  exact congrArg (H.vars.length + ·) (len_flatC h.heldOf)
theorem lsN_mem : ∀ {l : List V}, V.cell n ∈ l → lsN n l > 0
  | v :: r, h => by
    show one v n + lsN n r > 0
    rcases List.mem_cons.mp h with h | h
    · rw [← h, one_self]; omega
    · have := lsN_mem h; omega
theorem counts_ok (h : HI H (fun _ => 0)) (z : SzS H) : CountsOK H := by
  have h1 := z.e; have h2 := z.last; have h3 := h.cells_len; have h4 := z.sz0.sz.vars
  refine ⟨by rw [held_len h]; omega, by omega, by omega, fun n hn => h.live n ?_, fun n c hc => ?_⟩
  · have := lsN_mem hn
    rw [held_cnt h] at this; omega
  · have := h.cnt n c hc
    unfold cntV
    rw [lsN_filter, held_cnt h]; omega
theorem filter_nr : ∀ {l : List (Int × C)}, (l.filter fun p => decide (p.2.sort ≠ .ref)).length = sumF (fun c => if c.sort = .ref then 0 else 1) l
  | [] => rfl
  | p :: r => by
    show _ = (if p.2.sort = .ref then 0 else 1) + sumF _ r
    by_cases q : p.2.sort = .ref
    · rw [List.filter_cons_of_neg (by simpa using q), if_pos q, filter_nr]; omega
    · rw [List.filter_cons_of_pos (by simpa using q), if_neg q, List.length_cons, filter_nr]; omega
theorem buf_nr (h : HI H x) : H.buffer.length ≤ H.nr := by
  have := sub_len (l := H.buffer) (m := (H.cells.filter fun p => decide (p.2.sort ≠ .ref)).map (·.1)) h.bnd fun a ha => by
    obtain ⟨c, hc, hb⟩ := (h.buf a).mp ha
    exact List.mem_map.mpr ⟨(a, c), List.mem_filter.mpr ⟨getK_mem hc, by simpa using h.bref a c hc hb⟩, rfl⟩
  rw [List.length_map, filter_nr] at this
  exact this
theorem buf_sorted (h : HI H x) : sortI H.buffer = (H.cells.map (·.1)).filter H.bufd := by
  refine sortI_eq ((List.perm_ext_iff_of_nodup (h.cnd.filter _) h.bnd).mpr fun a => ?_) ((h.asc.filter _).imp Int.le_of_lt)
  rw [List.mem_filter, h.buf a]
  unfold HS.bufd
  constructor
  · rintro ⟨h1, h2⟩
    cases hc : getK a H.cells with
    | none => rw [hc] at h2; cases h2
    | some c => rw [hc] at h2; exact ⟨c, rfl, h2⟩
  · rintro ⟨c, hc, hb⟩
    exact ⟨getK_some_mem hc, by rw [hc]; exact hb⟩
theorem same_ok (h : HI H (fun _ => 0)) (z : SzS H) (hn : H.nr ≤ 42) : SameOK H (toW H [] []) := by
  refine ⟨counts_ok h z, rfl, rfl, rfl, ?_, fun n c hc => ⟨wc c, by rw [toW_get, hc]; rfl, rfl, rfl, rfl, ?_⟩, buf_sorted h, ?_⟩
  · show _ = (H.cells.map fun p => (p.1, wc p.2)).map (·.1)
    rw [List.map_map]; rfl
  · have := z.sz0.sz.slots hc; omega
  · have := buf_nr h; omega

theorem HI0 : HI H0 (fun _ => 0) := by
  refine ⟨.nil, fun n c h => ?_, Int.le_refl _, .nil, fun n c h => ?_, fun n c k v h => ?_, fun n c h => ?_, fun n h => ?_, fun n c h => ?_, .nil, fun n => ?_, fun n c h => ?_, fun m h1 h2 => ?_⟩
  · cases h
  · cases h
  · cases h
  · cases h
  · exact absurd h (Nat.lt_irrefl _)
  · cases h
  · exact ⟨fun h => (by cases h), fun ⟨c, h, _⟩ => (by cases h)⟩
  · cases h
  · cases h2
theorem Lim0 (pk : PlanOK P) : Lim P 18 H0 [] := by
  have u := u_le (H := H0) pk (n := 12)
  refine ⟨?_, ?_, ?_⟩
  · unfold Phi; show 12 * uS P H0 12 + 3 * 0 + 0 + 0 + 12 * 18 + 0 ≤ 504; omega
  · unfold bud; show (0 : Int) + 2 * ((uS P H0 12 + 0 + 18 : Nat) : Int) ≤ 84; omega
  · unfold bud; show 0 + (uS P H0 12 + 0 + 18) ≤ 42; omega
theorem Lim.tell {r : Nat} {d : D} (q : Lim P (r + 1) H []) : Lim P r H [.deed d] := by
  have h1 := q.phi; have h2 := q.last; have h3 := q.nr
  obtain ⟨w1, w2⟩ := wT_le (t := .deed d)
  unfold Phi at h1; unfold bud at h2 h3
  have e1 : sumT wT [.deed d] = wT (.deed d) + 0 := rfl
  have e2 : sumT gT [.deed d] = gT (.deed d) + 0 := rfl
  have e3 : sumT wT [] = 0 := rfl
  have e4 : sumT gT [] = 0 := rfl
  refine ⟨?_, ?_, ?_⟩
  · unfold Phi; omega
  · unfold bud; omega
  · unfold bud; omega

theorem plain : Plain := fun P pk => by
  refine ⟨fun n H W => W = toW H [] [] ∧ HI H (fun _ => 0) ∧ Lim P n H [], ⟨rfl, HI0, Lim0 pk⟩, ?_, ?_⟩
  · rintro n H W ⟨rfl, h, q⟩
    have := q.nr
    exact ⟨same_ok h q.small.1 (by omega), Nat.zero_le _⟩
  · rintro n H W d ⟨rfl, h, q⟩ gd
    obtain ⟨m, H', r1, r2, r3, r4⟩ := run_ok (r := n) (ts := [.deed d]) pk _ (Nat.le_refl _) (h.congr fun _ => rfl) q.tell fun t ht => by
      rw [List.mem_singleton] at ht; subst ht
      exact ⟨0, gd, .inl rfl⟩
    exact ⟨m, m, H', _, r1, r2, rfl, r3, r4⟩
end
end
/-! J1 -/
section
set_option maxRecDepth 100000
set_option autoImplicit false
theorem whC_ok : WhOK whC := fun _ _ _ _ h => whC_of h
theorem rest_eq : lawRest = lawRest2 := rfl
theorem scope_eq : lawScope = lawScope2 := rfl
theorem holds_of (S : Plain) : PySem.Challenge.rw_pf0208_01.Holds := reduce fun xs hz => by
  obtain ⟨⟨o, ae⟩, st', e, q⟩ := law_ok S whC_ok hz
  refine ⟨ae, st', ?_⟩
  rw [rest_eq, scope_eq]
  have q : o = .ret (.bool true) := q
  subst q
  exact e
end
end Mine
set_option maxRecDepth 100000 in
set_option maxHeartbeats 8000000 in
theorem PySem.Challenge.cw_pf0208_01_holds : PySem.Challenge.rw_pf0208_01.Holds :=
  Mine.holds_of Mine.plain
