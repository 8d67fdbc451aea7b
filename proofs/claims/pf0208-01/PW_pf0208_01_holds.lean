import PyProof.Rows.All
import Wide.All
import OpenK.AllK
import Wide.FinOn
import PySem.Challenge.RW_pf0208_01
/-! The counted heap against the law's own heap without counts.
First an interpreter for the part of the language that the text uses, over plain tables, as what it asks for so that a wish holds behind it, proved sound once
(AI, AS1 to AS29); then each function of the text as an equation on plain data (P1 to P23); then the plain law, that the two machines agree (Q1 to Q11); last the join. -/
set_option Elab.async false
set_option genSizeOf false
set_option genInjectivity false
set_option backward.match.sparseCases false
open PySem PySem.W PyProof.Rows
namespace Mine
open PySem PySem.W PyProof.Rows
local macro_rules | `(tactic| o_facts $h) => `(tactic| first | (replace $h:ident := Option.some.inj $h:ident; subst $h:ident) | ((fail_if_success (cases $h:ident; done)); cases $h:ident) | (injection $h:ident; done) | cases $h:ident)
/-! AI -/
section
set_option autoImplicit false
set_option maxRecDepth 100000

inductive AVal where
  | none | bool (b : Bool) | int (i : Int) | str (s : Str) | tup (l : List AVal) | obj (id : Nat) | inst (c : Str) (id : Nat)
  deriving Inhabited

inductive AData where
  | list (l : List AVal)
  | idict (l : List (Int × AVal))
  | sdict (l : List (Str × AVal))
  deriving Inhabited

structure AObj where
  ver : Nat
  data : AData
  deriving Inhabited

structure ASt where
  next : Nat
  get : Nat → AObj

/- a computation, as what it asks for so that k holds behind it -/
abbrev M (α : Type) := ASt → (α → ASt → Prop) → Prop

section
variable {α β : Type}
@[reducible] noncomputable def ret (a : α) : M α := fun st k => k a st
/- what is asked for behind a step -/
@[reducible] noncomputable def thn (f : α → M β) (k : β → ASt → Prop) : α → ASt → Prop := fun a st => f a st k
@[reducible] noncomputable def bnd (m : M α) (f : α → M β) : M β := fun st k => m st (thn f k)
/- steps that do not look at what came before -/
noncomputable def cst (m : M β) (_ : α) : M β := m
noncomputable def fail : M α := fun _ _ => False
noncomputable def grd (c : Bool) (m : M α) : M α := match c with
  | true => m
  | false => fail
noncomputable def sel (c : Bool) (a b : M α) : M α := match c with
  | true => a
  | false => b
@[irreducible] noncomputable def req (c : Prop) (m : M α) : M α := fun st k => c ∧ m st k
noncomputable def opt (x : Option α) : M α := match x with
  | some a => ret a
  | none => fail
@[irreducible] noncomputable def the (x : Option α) (f : α → M β) : M β := fun st k => ∃ a, x = some a ∧ f a st k
/- a step that a walk stops at -/
structure wp (m : M α) (st : ASt) (k : α → ASt → Prop) : Prop where
  out : m st k
noncomputable def pr (m : M α) : M α := fun st k => wp m st k
structure BrP (c : Bool) (p q : Prop) : Prop where
  t : c = true → p
  f : c = false → q
noncomputable def br (c : Bool) (a b : M α) : M α := fun st k => BrP c (a st k) (b st k)
noncomputable def brK (a b : M α) (c : Bool) : M α := br c a b
end

noncomputable def ASt.put (st : ASt) (id : Nat) (d : AData) : ASt := { st with get := fun i => if i = id then ⟨(st.get id).ver + 1, d⟩ else st.get i }
noncomputable def ASt.new (st : ASt) (d : AData) : ASt := { next := st.next + 1, get := fun i => if i = st.next then ⟨0, d⟩ else st.get i }
@[irreducible] noncomputable def rdL (id : Nat) : M (List AVal) := fun st k => ∃ l, (id < st.next ∧ (st.get id).data = .list l) ∧ k l st
@[irreducible] noncomputable def rdI (id : Nat) : M (List (Int × AVal)) := fun st k => ∃ l, (id < st.next ∧ (st.get id).data = .idict l) ∧ k l st
@[irreducible] noncomputable def rdS (id : Nat) : M (List (Str × AVal)) := fun st k => ∃ l, (id < st.next ∧ (st.get id).data = .sdict l) ∧ k l st
@[irreducible] noncomputable def putD (id : Nat) (d : AData) : M Unit := fun st k => id < st.next ∧ k () (st.put id d)
noncomputable def newD (d : AData) : M Nat := fun st k => k st.next (st.new d)
noncomputable def newO (d : AData) : M AVal := bnd (newD d) fun id => ret (.obj id)

structure AEnv where
  sc : Scope
  vars : List (Str × AVal)

noncomputable def bindable : Option NameKind → Bool
  | some .local | some .cell => true
  | _ => false
noncomputable def readable : Option NameKind → Bool
  | some .local | some .cell | some .free => true
  | _ => false
noncomputable def setv (x : Str) (v : AVal) : List (Str × AVal) → List (Str × AVal)
  | [] => [(x, v)]
  | (y, w) :: r => if y == x then (y, v) :: r else (y, w) :: setv x v r
noncomputable def AEnv.get (e : AEnv) (x : Str) : M AVal := grd (readable (e.sc.names.lookup x)) (opt (e.vars.lookup x))
noncomputable def AEnv.upd (e : AEnv) (x : Str) (v : AVal) : AEnv := ⟨e.sc, setv x v e.vars⟩
noncomputable def AEnv.set (e : AEnv) (x : Str) (v : AVal) : M AEnv := grd (bindable (e.sc.names.lookup x)) (ret (e.upd x v))
/- names may be forgotten -/
inductive Weak {α : Type} (f : AEnv → M α) (env : AEnv) (st : ASt) (k : α → ASt → Prop) : Prop
  | mk (env' : AEnv) (hs : env'.sc = env.sc) (hv : ∀ x v, env'.vars.lookup x = some v → env.vars.lookup x = some v) (h : f env' st k) : Weak f env st k
noncomputable def weak {α : Type} (f : AEnv → M α) (env : AEnv) : M α := fun st k => Weak f env st k

noncomputable def getK {κ α : Type} [DecidableEq κ] (k : κ) : List (κ × α) → Option α
  | [] => none
  | (j, v) :: r => if j = k then some v else getK k r
noncomputable def putK {κ α : Type} [DecidableEq κ] (k : κ) (v : α) : List (κ × α) → List (κ × α)
  | [] => [(k, v)]
  | (j, w) :: r => if j = k then (j, v) :: r else (j, w) :: putK k v r
noncomputable def delK {κ α : Type} [DecidableEq κ] (k : κ) (l : List (κ × α)) : List (κ × α) := l.filter fun p => decide (p.1 ≠ k)

/- data that == looks at -/
noncomputable def dataOf (st : ASt) : Nat → AVal → Option PyData
  | _, .none => some .none
  | _, .bool b => some (.bool b)
  | _, .int i => some (.int i)
  | _, .str s => some (.str s)
  | n + 1, .tup l => (l.mapM (dataOf st n)).map .tuple
  | n + 1, .obj id => if id < st.next then match (st.get id).data with
    | .list l => (l.mapM (dataOf st n)).map .list
    | _ => none
    else none
  | _, _ => none
noncomputable def aeq (a b : AVal) : M Bool := fun st k => ∃ x y, dataOf st 8 a = some x ∧ dataOf st 8 b = some y ∧ (x.canLay0 && y.canLay0) = true ∧ k (PyData.eqv x y) st
noncomputable def isIn (x : AVal) (l : List AVal) : M Bool := fun st k => ∃ xs d, dataOf st 8 (.tup l) = some (.tuple xs) ∧ dataOf st 8 x = some d ∧ (PyData.canLayAll0 xs && d.canLay0) = true ∧ k (xs.any fun y => PyData.eqv y d) st

noncomputable def asObj : AVal → M Nat
  | .obj id => ret id
  | _ => fail
noncomputable def asIntO : AVal → Option Int
  | .int i => some i
  | _ => none
noncomputable def asInt (v : AVal) : M Int := opt (asIntO v)
noncomputable def lenN (id : Nat) : M Nat := bnd (rdL id) fun l => req (l.length ≤ 1000000) (ret l.length)
noncomputable def fullL (id : Nat) : M Bool := bnd (rdL id) fun l => req (l.length ≤ 1000000) (ret (!l.isEmpty))
noncomputable def truth : AVal → M Bool
  | .bool b => ret b
  | .obj id => pr (fullL id)
  | _ => fail

noncomputable def isNone : AVal → M Bool
  | .none => ret true
  | .inst .. => ret false
  | .int _ => ret false
  | _ => fail
noncomputable def noneE : AVal → Bool
  | .none => true
  | _ => false
noncomputable def inD (id : Nat) (k : Int) : M Bool := bnd (rdI id) fun l => ret (getK k l).isSome
noncomputable def inV (a b : AVal) : M Bool := match b with
  | .tup l => pr (isIn a l)
  | .obj id => bnd (asInt a) fun k => pr (inD id k)
  | _ => fail
noncomputable def notInV (a b : AVal) : M Bool := bnd (asObj b) fun id => bnd (asInt a) fun k => bnd (pr (inD id k)) fun c => ret (!c)
noncomputable def cmp (op : CmpOp) (a b : AVal) : M Bool := match op with
  | .Eq => pr (aeq a b)
  | .NotEq => bnd (pr (aeq a b)) fun r => ret (!r)
  | .Is => grd (noneE b) (isNone a)
  | .IsNot => grd (noneE b) (bnd (isNone a) fun r => ret (!r))
  | .Lt => bnd (asInt a) fun i => bnd (asInt b) fun j => ret (decide (i < j))
  | .Gt => bnd (asInt a) fun i => bnd (asInt b) fun j => ret (decide (i > j))
  | .In => inV a b
  | .NotIn => notInV a b
  | _ => fail

noncomputable def addL (i j : Nat) : M AVal := bnd (rdL i) fun l => bnd (rdL j) fun m => req (l.length + m.length ≤ 1000000) (newO (.list (l ++ m)))
noncomputable def addV (a b : AVal) : M AVal := match a with
  | .int i => bnd (asInt b) fun j => ret (.int (i + j))
  | .obj i => bnd (asObj b) fun j => pr (addL i j)
  | _ => fail
noncomputable def bin (op : Operator) (a b : AVal) : M AVal := match op with
  | .Add => addV a b
  | .Sub => bnd (asInt a) fun i => bnd (asInt b) fun j => ret (.int (i - j))
  | .Mult => bnd (asInt a) fun i => bnd (asInt b) fun j => pr (req (Builtin.Int.intBits i ≤ 64) (ret (.int (i * j))))
  | .FloorDiv => bnd (asInt a) fun i => bnd (asInt b) fun j => pr (req (j ≠ 0 ∧ Builtin.divisionGoesByPylong i j = false) (ret (.int (Int.fdiv i j))))
  | .Mod => bnd (asInt a) fun i => bnd (asInt b) fun j => pr (req (j ≠ 0) (ret (.int (Int.fmod i j))))
  | .Pow => bnd (asInt a) fun i => bnd (asInt b) fun j => pr (req (i = 5 ∧ 0 ≤ j ∧ j ≤ 100) (ret (.int (i ^ j.toNat))))
  | _ => fail
noncomputable def aug (op : Operator) (a b : AVal) : M AVal := bnd (asInt a) fun i => bnd (asInt b) fun j => match op with
  | .Add => ret (.int (i + j))
  | .Sub => ret (.int (i - j))
  | _ => fail
noncomputable def unary (op : UnaryOp) (a : AVal) : M AVal := match op with
  | .USub => bnd (asInt a) fun i => ret (.int (-i))
  | .Not => bnd (truth a) fun b => ret (.bool (!b))
  | _ => fail

noncomputable def constA : Const → Option AVal
  | .none => some .none
  | .bool b => some (.bool b)
  | .int i => some (.int i)
  | .str s => some (.str s)
  | _ => none

/- the attributes that instances bear -/
noncomputable def attrsOf (c : Str) : List Str :=
  if c == ("Cell" : Str) then ["sort", "number", "count", "slots", "colour", "is_buffered", "has_destructor", "is_destructed", "is_freed", "weak"]
  else if c == ("Counted" : Str) then ["cells", "vars", "log", "last", "buffer", "full", "freed", "plan", "tables"]
  else []

noncomputable def attrGet (o : AVal) (x : Str) : M AVal := match o with
  | .inst c id => grd ((attrsOf c).contains x) (bnd (rdS id) fun l => the (getK x l) ret)
  | _ => fail
noncomputable def attrSet (o : AVal) (x : Str) (v : AVal) : M Unit := match o with
  | .inst c id => grd ((attrsOf c).contains x) (bnd (rdS id) fun l => req (l.length ≤ 100) (putD id (.sdict (putK x v l))))
  | _ => fail

noncomputable def itemL (id : Nat) (k : Int) : M AVal := bnd (rdL id) fun l => req (0 ≤ k ∧ k < 1000) (the l[k.toNat]? ret)
noncomputable def itemI (id : Nat) (k : Int) : M AVal := bnd (rdI id) fun l => the (getK k l) ret
noncomputable def itemGet (o i : AVal) : M AVal := match o with
  | .tup l => bnd (asInt i) fun k => req (0 ≤ k ∧ k < 1000) (the l[k.toNat]? ret)
  | .obj id => match i with
    | .int k => fun st kk => itemL id k st kk ∨ itemI id k st kk
    | .str x => bnd (rdS id) fun l => the (getK x l) ret
    | _ => fail
  | _ => fail
noncomputable def setL (id : Nat) (k : Int) (v : AVal) : M Unit := bnd (rdL id) fun l => req (0 ≤ k ∧ k < l.length ∧ l.length ≤ 1000) (putD id (.list (l.set k.toNat v)))
noncomputable def setI (id : Nat) (k : Int) (v : AVal) : M Unit := bnd (rdI id) fun l => req (l.length ≤ 1000000) (putD id (.idict (putK k v l)))
noncomputable def itemSet (o i v : AVal) : M Unit := bnd (asObj o) fun id => match i with
  | .int k => fun st kk => setL id k v st kk ∨ setI id k v st kk
  | .str x => bnd (rdS id) fun l => req (l.length ≤ 100) (putD id (.sdict (putK x v l)))
  | _ => fail
noncomputable def itemDel (o i : AVal) : M Unit := bnd (asObj o) fun id => bnd (asInt i) fun k => bnd (rdI id) fun l => req ((getK k l).isSome ∧ l.length ≤ 1000000) (putD id (.idict (delK k l)))

/- what stands in a for's head, or in list(..) -/
inductive Src where
  | keys (id : Nat) | values (id : Nat) | items (id : Nat) | lst (id : Nat) | rev (id : Nat) | range (a b : Int) | enum (id : Nat)

noncomputable def srcItems : Src → M (List AVal)
  | .keys id => bnd (rdI id) fun l => ret (l.map fun p => .int p.1)
  | .values id => bnd (rdI id) fun l => ret (l.map fun p => p.2)
  | .items id => bnd (rdI id) fun l => ret (l.map fun p => .tup [.int p.1, p.2])
  | .lst id => rdL id
  | .rev id => bnd (rdL id) fun l => ret l.reverse
  | .range a b => req ((0 ≤ a ∧ a ≤ 1000) ∧ -1000 ≤ b ∧ b ≤ 1000) (ret ((List.range (b - a).toNat).map fun (k : Nat) => .int (a + (k : Int))))
  | .enum id => bnd (rdL id) fun l => ret (l.zipIdx.map fun p => .tup [.int (p.2 : Int), p.1])
noncomputable def srcItemsZ (src : Src) : M (List AVal) := bnd (srcItems src) fun l => req (l.length ≤ 1000000) (ret l)

/- the parts of an expression, and its kind -/
noncomputable def isK (k : Nat) (e : Expr) : Bool := Nat.beq e.ctorIdx k
noncomputable def nameOfE : Expr → Option Str
  | .Name x _ => some x
  | _ => none
noncomputable def callOf : Expr → Option (Expr × List Expr × List Keyword × Pos)
  | .Call f a k p => some (f, a, k, p)
  | _ => none
noncomputable def attrOf : Expr → Option (Expr × Str × Pos)
  | .Attribute o a p => some (o, a, p)
  | _ => none
noncomputable def subOf : Expr → Option (Expr × Expr)
  | .Subscript o i _ => some (o, i)
  | _ => none
noncomputable def sliceE : Expr → Option (Option Expr × Option Expr × Option Expr)
  | .Slice a b c _ => some (a, b, c)
  | _ => none
noncomputable def constOf : Expr → Option Const
  | .Constant c _ _ => some c
  | _ => none
noncomputable def isNameE (e : Expr) : Bool := (nameOfE e).isSome
noncomputable def tupE : Expr → Option (List Expr)
  | .Tuple ts _ _ => some ts
  | _ => none
noncomputable def isTupE (t : Expr) : Bool := match tupE t with
  | some ts => ts.all isNameE && decide (ts.length < 8)
  | none => false
noncomputable def tgtOk : Src → Expr → Bool
  | .lst _, t => isNameE t || isTupE t
  | .enum _, t => isTupE t
  | .items _, _ => false
  | _, t => isNameE t
noncomputable def Src.id? : Src → Option Nat
  | .keys id | .values id | .items id | .lst id | .rev id | .enum id => some id
  | .range .. => none
noncomputable def listable : Src → Bool
  | .keys _ | .values _ | .items _ | .lst _ => true
  | _ => false
/- the container that must stay as it is while it is walked -/
noncomputable def Src.watch (src : Src) (st : ASt) : Nat := match src with
  | .keys id | .values id | .items id | .lst id | .rev id | .enum id => (st.get id).ver
  | .range .. => 0

noncomputable def isIntA : AVal → Bool
  | .int _ => true
  | _ => false
noncomputable def eqIntA (k : Int) : AVal → Bool
  | .int j => j == k
  | _ => false
noncomputable def putN (id : Nat) (d : AData) (v : AVal) : M AVal := bnd (putD id d) fun _ => ret v
noncomputable def mAppend (id : Nat) (l : List AVal) (v : AVal) : M AVal := req (l.length ≤ 1000000) (putN id (.list (l ++ [v])) .none)
noncomputable def mExtend (id : Nat) (l : List AVal) (v : AVal) : M AVal := bnd (asObj v) fun j => req (j ≠ id) (bnd (rdL j) fun m => req (l.length + m.length ≤ 1000000) (putN id (.list (l ++ m)) .none))
noncomputable def mRemove (id : Nat) (l : List AVal) (v : AVal) : M AVal := bnd (asInt v) fun k => req ((l.all isIntA && l.any (eqIntA k) && decide (l.length ≤ 1000000)) = true) (putN id (.list (l.eraseP (eqIntA k))) .none)
noncomputable def mPop (id : Nat) (l : List AVal) : M AVal := the l.getLast? fun v => req (l.length ≤ 1000000) (putN id (.list l.dropLast) v)
noncomputable def mGet (l : List (Int × AVal)) (k : Int) (rest : List AVal) : M AVal := match rest with
  | [] => ret ((getK k l).getD .none)
  | d :: r => match r with
    | [] => ret ((getK k l).getD d)
    | _ :: _ => fail
noncomputable def mPopK (id : Nat) (l : List (Int × AVal)) (k : Int) (rest : List AVal) : M AVal := grd rest.isEmpty (the (getK k l) fun v => req (l.length ≤ 1000000) (putN id (.idict (delK k l)) v))
noncomputable def meth0 (id : Nat) (name : Str) (l : List AVal) : M AVal := grd (name == ("pop" : Str)) (mPop id l)
noncomputable def meth1 (id : Nat) (name : Str) (l : List AVal) (v : AVal) : M AVal := sel (name == ("append" : Str)) (mAppend id l v) (sel (name == ("extend" : Str)) (mExtend id l v) (grd (name == ("remove" : Str)) (mRemove id l v)))
noncomputable def methL (id : Nat) (name : Str) (args : List AVal) : M AVal := bnd (rdL id) fun l => match args with
  | [] => meth0 id name l
  | v :: r => match r with
    | [] => meth1 id name l v
    | _ :: _ => fail
noncomputable def methI (id : Nat) (name : Str) (args : List AVal) : M AVal := bnd (rdI id) fun l => match args with
  | [] => fail
  | a :: rest => bnd (asInt a) fun k => sel (name == ("get" : Str)) (mGet l k rest) (grd (name == ("pop" : Str)) (mPopK id l k rest))
/- a list's method, or a dict's -/
noncomputable def listMeth (m : Str) (n : Nat) : Bool := !(m == ("get" : Str)) && (!(m == ("pop" : Str)) || n == 0)
noncomputable def isMethL (m : Str) : Bool := m == ("append" : Str) || m == ("extend" : Str) || m == ("remove" : Str) || m == ("pop" : Str)
noncomputable def isMethI (m : Str) : Bool := m == ("get" : Str) || m == ("pop" : Str)
noncomputable def isL (id : Nat) : M Unit := bnd (rdL id) fun _ => ret ()
noncomputable def isI (id : Nat) : M Unit := bnd (rdI id) fun _ => ret ()

noncomputable def badName (x : Str) : Bool := x == ("__debug__" : Str) || x == ("__classdict__" : Str)
noncomputable def bare (f : Expr) : List Expr → List Keyword → Bool
  | [], [] => match nameOfE f with
    | some id => id != ("super" : Str)
    | none => true
  | _, _ => true
noncomputable def notSuper (e : Expr) : Bool := match callOf e with
  | some (f, a, k, _) => bare f a k
  | none => true
noncomputable def notStar (e : Expr) : Bool := !isK 22 e
noncomputable def notSet (e : Expr) : Bool := !isK 7 e
noncomputable def notSlice (e : Expr) : Bool := !isK 26 e
noncomputable def notSD (e : Expr) : Bool := !(isK 9 e || isK 10 e)
noncomputable def notComp (e : Expr) : Bool := !(isK 8 e || (isK 9 e || isK 10 e))
noncomputable def plainT (e : Expr) : Bool := !(isK 22 e || isK 24 e)
noncomputable def tupOk : List Expr → List AVal → Bool
  | [], l => l.isEmpty
  | t :: ts, l => match l with
    | [] => false
    | _ :: vs => notStar t && tupOk ts vs
noncomputable def isGlob (env : AEnv) (f : Str) : Bool := env.sc.names.lookup f == some .globalImplicit && !(f == ("__debug__" : Str))
noncomputable def noDup : List Str → Bool
  | [] => true
  | x :: r => !r.contains x && noDup r
/- a display stored into names: no two alike, not constants alone -/
noncomputable def pairOk (t e : Expr) : Bool := match tupE t, tupE e with
  | some ts, some vs => (ts.all fun t => (nameOfE t).isNone) || (noDup (ts.filterMap nameOfE) && !vs.all (constantsAlone 8))
  | _, _ => true

inductive Out where
  | next (env : AEnv) | ret (v : AVal)
noncomputable def retOf : Out → AVal
  | .next _ => .none
  | .ret v => v

/- the functions one level below -/
structure Rec where
  ev : Expr → AEnv → M AVal
  ex : Stmt → AEnv → M Out
  call : Str → List AVal → M AVal

section
variable (r : Rec)
noncomputable def consK (v : AVal) (vs : List AVal) : M (List AVal) := ret (v :: vs)
noncomputable def evsK (m : M (List AVal)) (v : AVal) : M (List AVal) := bnd m (consK v)
noncomputable def evs (env : AEnv) : List Expr → M (List AVal)
  | [] => ret []
  | e :: rest => bnd (r.ev e env) (evsK (evs env rest))

noncomputable def thenO (f : AEnv → M Out) (o : Out) : M Out := match o with
  | .next env => f env
  | .ret v => ret (.ret v)
noncomputable def exs : List Stmt → AEnv → M Out
  | [], env => ret (.next env)
  | s :: rest, env => bnd (r.ex s env) (thenO (exs rest))

/- bind a target that is a name, an attribute or a place -/
noncomputable def bindS2 (env : AEnv) (v ov iv : AVal) : M AEnv := bnd (pr (itemSet ov iv v)) (cst (ret env))
noncomputable def bindS1 (m : M AVal) (env : AEnv) (v ov : AVal) : M AEnv := bnd m (bindS2 env v ov)
noncomputable def bindS (y : Option (Expr × Expr)) (env : AEnv) (v : AVal) : M AEnv := match y with
  | some (o, i) => bnd (r.ev o env) (bindS1 (r.ev i env) env v)
  | none => fail
noncomputable def bindA1 (env : AEnv) (a : Str) (v ov : AVal) : M AEnv := bnd (pr (attrSet ov a v)) (cst (ret env))
noncomputable def bindA (t : Expr) (y : Option (Expr × Str × Pos)) (env : AEnv) (v : AVal) : M AEnv := match y with
  | some (o, a, _) => bnd (r.ev o env) (bindA1 env a v)
  | none => bindS r (subOf t) env v
noncomputable def bindT (t : Expr) (env : AEnv) (v : AVal) : M AEnv := match nameOfE t with
  | some x => env.set x v
  | none => bindA r t (attrOf t) env v
noncomputable def flipK (f : AEnv → List AVal → M AEnv) (vs : List AVal) (env : AEnv) : M AEnv := f env vs
noncomputable def bindTs : List Expr → AEnv → List AVal → M AEnv
  | [], env, vs => grd vs.isEmpty (ret env)
  | t :: ts, env, vs => match vs with
    | [] => fail
    | v :: vs => bnd (bindT r t env v) (flipK (bindTs ts) vs)
noncomputable def asTup : AVal → M (List AVal)
  | .tup l => ret l
  | _ => fail
noncomputable def assignT (t : Expr) (env : AEnv) (v : AVal) : M AEnv := match tupE t with
  | some ts => bnd (asTup v) fun vs => grd (tupOk ts vs) (bindTs r ts env vs)
  | none => bindT r t env v

noncomputable def lstOrKeys (id : Nat) : M Src := fun st k => bnd (isL id) (fun _ => ret (.lst id)) st k ∨ bnd (isI id) (fun _ => ret (.keys id)) st k
noncomputable def plainK (v : AVal) : M Src := bnd (asObj v) fun id => pr (lstOrKeys id)
noncomputable def srcPlain (env : AEnv) (e : Expr) : M Src := bnd (r.ev e env) plainK
noncomputable def listK (f : Nat → Src) (v : AVal) : M Src := bnd (asObj v) fun id => bnd (pr (isL id)) (cst (ret (f id)))
noncomputable def srcList (env : AEnv) (e : Expr) (f : Nat → Src) : M Src := bnd (r.ev e env) (listK f)
noncomputable def rangeK (v : AVal) : M Src := bnd (asInt v) fun b => ret (.range 0 b)
noncomputable def src1 (env : AEnv) (e : Expr) (f : Str) (a : Expr) : M Src :=
  sel (f == ("reversed" : Str)) (srcList r env a .rev) (sel (f == ("enumerate" : Str)) (srcList r env a .enum)
    (sel (f == ("range" : Str)) (bnd (r.ev a env) rangeK) (srcPlain r env e)))
noncomputable def src2J (v w : AVal) : M Src := bnd (asInt v) fun i => bnd (asInt w) fun j => ret (.range i j)
noncomputable def src2K (m : M AVal) (v : AVal) : M Src := bnd m (src2J v)
noncomputable def src2 (env : AEnv) (f : Str) (a b : Expr) : M Src := grd (f == ("range" : Str)) (bnd (r.ev a env) (src2K (r.ev b env)))
noncomputable def srcFn (env : AEnv) (e : Expr) (f : Str) (args : List Expr) : M Src := match args with
  | [] => srcPlain r env e
  | a :: l => match l with
    | [] => src1 r env e f a
    | b :: l => match l with
      | [] => src2 r env f a b
      | _ :: _ => fail
noncomputable def viewOf (m : Str) (id : Nat) : M Src := sel (m == ("values" : Str)) (ret (.values id)) (grd (m == ("items" : Str)) (ret (.items id)))
noncomputable def viewK (m : Str) (v : AVal) : M Src := bnd (asObj v) fun id => bnd (pr (isI id)) (cst (viewOf m id))
noncomputable def srcView (env : AEnv) (o : Expr) (m : Str) : M Src := bnd (r.ev o env) (viewK m)
noncomputable def srcName (env : AEnv) (e f : Expr) (a : List Expr) (k : List Keyword) : M Src := match nameOfE f with
  | some x => sel k.isEmpty (grd (isGlob env x && a.all notStar) (srcFn r env e x a)) (srcPlain r env e)
  | none => srcPlain r env e
noncomputable def srcCall (env : AEnv) (e f : Expr) (a : List Expr) (k : List Keyword) (pos : Pos) : M Src := match attrOf f with
  | some (o, m, apos) => sel (a.isEmpty && k.isEmpty) (grd (notSuper o && apos.endLine == pos.line) (srcView r env o m)) (srcPlain r env e)
  | none => srcName r env e f a k
noncomputable def srcOf (env : AEnv) (e : Expr) : M Src := match callOf e with
  | some (f, a, k, pos) => srcCall r env e f a k pos
  | none => srcPlain r env e

noncomputable def checkV (src : Src) (ver : Nat) : M Unit := fun st k => src.watch st = ver ∧ k () st
noncomputable def watchV (src : Src) : M Nat := fun st k => k (src.watch st) st

noncomputable def forK (f g : AEnv → M Out) (env : AEnv) : M Out := bnd (f env) (thenO (weak g))
noncomputable def forLoop (src : Src) (ver : Nat) (target : Expr) (body : List Stmt) : List AVal → AEnv → M Out
  | [], env => bnd (checkV src ver) (cst (ret (.next env)))
  | v :: vs, env => bnd (checkV src ver) (cst (bnd (assignT r target env v) (forK (exs r body) (forLoop src ver target body vs))))

noncomputable def iteK {α : Type} (a b : M α) (v : AVal) : M α := bnd (truth v) (brK a b)
noncomputable def tests (env : AEnv) : List Expr → M Bool
  | [] => ret true
  | c :: rest => bnd (r.ev c env) (iteK (tests env rest) (ret false))

noncomputable def compJ (elt : Expr) (f : AEnv → M (List AVal)) (env : AEnv) : M (List AVal) := bnd (r.ev elt env) (evsK (weak f env))
noncomputable def compK (ifs : List Expr) (elt : Expr) (f : AEnv → M (List AVal)) (env : AEnv) : M (List AVal) := bnd (tests r env ifs) (brK (compJ r elt f env) (weak f env))
noncomputable def compLoop (src : Src) (ver : Nat) (target elt : Expr) (ifs : List Expr) : List AVal → AEnv → M (List AVal)
  | [], _ => bnd (checkV src ver) (cst (ret []))
  | v :: vs, env => bnd (checkV src ver) (cst (bnd (assignT r target env v) (compK r ifs elt (compLoop src ver target elt ifs vs))))

/- the names that a comprehension sees: its own, and those of the frame -/
noncomputable def compEnvA (sc : Scope) (env : AEnv) : AEnv :=
  { sc := sc, vars := env.vars.filter fun p => sc.names.lookup p.1 == some .free }

noncomputable def compName (sc esc : Scope) (p : Str × NameKind) : Bool := match p.2 with
  | .local => sc.names.lookup p.1 == some .local
  | .cell => false
  | .free => (esc.names.lookup p.1 == some .cell || esc.names.lookup p.1 == some .free) && sc.names.lookup p.1 == some .free
  | _ => true
noncomputable def isFn (sc : Scope) : Bool := match sc.kind with
  | .function => true
  | _ => false
noncomputable def compOk (sc esc : Scope) : Bool := isFn sc && sc.names.all (compName sc esc)

noncomputable def newLK (ys : List AVal) : M AVal := pr (newO (.list ys))
noncomputable def compL (elt : Expr) (g : Comprehension) (env : AEnv) (src : Src) (items : List AVal) (ver : Nat) : M AVal := bnd (pr (compLoop r src ver g.target elt g.ifs items env)) newLK
noncomputable def compI (elt : Expr) (g : Comprehension) (env : AEnv) (src : Src) (items : List AVal) : M AVal := bnd (watchV src) (compL r elt g env src items)
noncomputable def compS (elt : Expr) (g : Comprehension) (env : AEnv) (src : Src) : M AVal := grd (tgtOk src g.target) (bnd (pr (srcItemsZ src)) (compI r elt g env src))
noncomputable def compA (env : AEnv) (elt : Expr) (g : Comprehension) (sc : Scope) : M AVal := grd (notSet g.iter && g.is_async == 0 && compOk sc env.sc) (bnd (srcOf r env g.iter) (compS r elt g (compEnvA sc env)))

noncomputable def dictK3 (kv vv : AVal) (rest : List (AVal × AVal)) : M (List (AVal × AVal)) := ret ((kv, vv) :: rest)
noncomputable def dictK2 (m : M (List (AVal × AVal))) (kv vv : AVal) : M (List (AVal × AVal)) := bnd m (dictK3 kv vv)
noncomputable def dictK1 (mv : M AVal) (m : M (List (AVal × AVal))) (kv : AVal) : M (List (AVal × AVal)) := bnd mv (dictK2 m kv)
noncomputable def dictA (env : AEnv) : List (Option Expr) → List Expr → M (List (AVal × AVal))
  | [], vs => grd vs.isEmpty (ret [])
  | k :: ks, vs => match k with
    | none => fail
    | some k => match vs with
      | [] => fail
      | v :: vs => bnd (r.ev k env) (dictK1 (r.ev v env) (dictA env ks vs))
noncomputable def asStrO : AVal → Option Str
  | .str i => some i
  | _ => none
noncomputable def asKeys {κ : Type} (f : AVal → Option κ) : List (AVal × AVal) → Option (List (κ × AVal))
  | [] => some []
  | (a, v) :: r => (f a).bind fun k => (asKeys f r).map ((k, v) :: ·)
noncomputable def mkI (kvs : List (AVal × AVal)) : M AVal := the (asKeys asIntO kvs) fun l => req (noDup (l.map fun p => Str.ofString (toString p.1)) = true) (newO (.idict l))
noncomputable def mkS (kvs : List (AVal × AVal)) : M AVal := the (asKeys asStrO kvs) fun l => req (noDup (l.map (·.1)) = true) (newO (.sdict l))
noncomputable def isStrE (e : Expr) : Bool := match constOf e with
  | some c => Nat.beq c.ctorIdx (Const.str default).ctorIdx
  | none => false
noncomputable def strKeys : List (Option Expr) → Bool
  | [] => false
  | k :: _ => match k with
    | some e => isStrE e
    | none => false
noncomputable def dictOk (ks : List (Option Expr)) (vs : List Expr) : Bool := ks.all (·.isSome) && decide (ks.length = vs.length) && decide (ks.length ≤ 15)

noncomputable def insI (a : Int) : List Int → List Int
  | [] => [a]
  | b :: r => if a ≤ b then a :: b :: r else b :: insI a r
noncomputable def sortI : List Int → List Int
  | [] => []
  | a :: r => insI a (sortI r)

noncomputable def lenL (id : Nat) : M AVal := bnd (lenN id) fun n => ret (.int n)
noncomputable def sumL (id : Nat) : M AVal := bnd (rdL id) fun l => the (l.mapM asIntO) fun ns => ret (.int ns.sum)
noncomputable def sortL (id : Nat) : M AVal := bnd (rdL id) fun l => the (l.mapM asIntO) fun ns => req (l.length < 64) (newO (.list ((sortI ns).map AVal.int)))
noncomputable def builtinA (f : Str) (v : AVal) : M AVal := bnd (asObj v) fun id =>
  sel (f == ("len" : Str)) (pr (lenL id)) (sel (f == ("sum" : Str)) (pr (sumL id)) (grd (f == ("sorted" : Str)) (pr (sortL id))))
noncomputable def builtin1 (f : Str) : Bool := f == ("len" : Str) || f == ("sum" : Str) || f == ("sorted" : Str)

noncomputable def boolOf (op : BoolOp) (t : Bool) (v : AVal) (m : M AVal) : M AVal := match op with
  | .And => br t m (ret v)
  | .Or => br t (ret v) m
noncomputable def boolJ (op : BoolOp) (m : M AVal) (v : AVal) (t : Bool) : M AVal := boolOf op t v m
noncomputable def boolK (op : BoolOp) (m : M AVal) (v : AVal) : M AVal := bnd (truth v) (boolJ op m v)
noncomputable def boolA (env : AEnv) (op : BoolOp) : List Expr → M AVal
  | [] => fail
  | e :: rest => match rest with
    | [] => r.ev e env
    | _ :: _ => bnd (r.ev e env) (boolK op (boolA env op rest))

noncomputable def takeL (id : Nat) (n : Int) : M AVal := bnd (rdL id) fun l => req (0 ≤ n ∧ n ≤ 1000 ∧ l.length ≤ 1000000) (newO (.list (l.take n.toNat)))
noncomputable def backL (id : Nat) (n : Int) : M AVal := bnd (rdL id) fun l => req (n = -1 ∧ l.length ≤ 1000000) (newO (.list l.reverse))
noncomputable def toJ (ov uv : AVal) : M AVal := bnd (asObj ov) fun id => bnd (asInt uv) fun n => pr (takeL id n)
noncomputable def backJ (ov uv : AVal) : M AVal := bnd (asObj ov) fun id => bnd (asInt uv) fun n => pr (backL id n)
noncomputable def sliceK (f : AVal → AVal → M AVal) (m : M AVal) (ov : AVal) : M AVal := bnd m (f ov)
noncomputable def sliceC (o : Expr) (env : AEnv) (b c : Option Expr) : M AVal := match b with
  | some u => grd c.isNone (bnd (r.ev o env) (sliceK toJ (r.ev u env)))
  | none => match c with
    | some u => bnd (r.ev o env) (sliceK backJ (r.ev u env))
    | none => fail
noncomputable def sliceF (o i : Expr) (env : AEnv) : M AVal := match sliceE i with
  | some (a, b, c) => grd a.isNone (sliceC r o env b c)
  | none => fail
noncomputable def itemJ (ov iv : AVal) : M AVal := pr (itemGet ov iv)
noncomputable def subF (o i : Expr) (env : AEnv) : M AVal := sel (notSlice i) (bnd (r.ev o env) (sliceK itemJ (r.ev i env))) (sliceF r o i env)
noncomputable def boolV (c : Bool) : M AVal := ret (.bool c)
noncomputable def cmpJ (op : CmpOp) (a b : AVal) : M AVal := bnd (cmp op a b) boolV
noncomputable def cmpF (l : Expr) (ops : List CmpOp) (xs : List Expr) (env : AEnv) : M AVal := match ops with
  | [] => fail
  | op :: ops => match xs with
    | [] => fail
    | x :: xs => grd (ops.isEmpty && xs.isEmpty && !behindInMarks op x) (bnd (r.ev l env) (sliceK (cmpJ op) (r.ev x env)))
noncomputable def compF (env : AEnv) (elt : Expr) (gs : List Comprehension) (sc : Scope) : M AVal := match gs with
  | [] => fail
  | g :: gs => grd gs.isEmpty (compA r env elt g sc)
noncomputable def callK (f : List AVal → M AVal) (vs : List AVal) : M AVal := pr (f vs)
noncomputable def methLJ (m : Str) (me : M (List AVal)) (id : Nat) : M AVal := bnd (pr (isL id)) (cst (bnd me (callK (methL id m))))
noncomputable def methIJ (m : Str) (me : M (List AVal)) (id : Nat) : M AVal := bnd (pr (isI id)) (cst (bnd me (callK (methI id m))))
noncomputable def methK (f : Nat → M AVal) (ov : AVal) : M AVal := bnd (asObj ov) f
noncomputable def methE (o : Expr) (m : Str) (args : List Expr) (env : AEnv) : M AVal :=
  sel (listMeth m args.length) (grd (isMethL m) (bnd (r.ev o env) (methK (methLJ m (evs r env args))))) (grd (isMethI m) (bnd (r.ev o env) (methK (methIJ m (evs r env args)))))
noncomputable def listS (src : Src) : M AVal := grd (listable src) (bnd (pr (srcItemsZ src)) newLK)
noncomputable def listE (args : List Expr) (env : AEnv) : M AVal := match args with
  | [] => fail
  | e :: es => grd es.isEmpty (bnd (srcOf r env e) listS)
noncomputable def bltE (f : Str) (args : List Expr) (env : AEnv) : M AVal := match args with
  | [] => fail
  | e :: es => grd es.isEmpty (bnd (r.ev e env) (builtinA f))
/- the functions and classes of the text -/
noncomputable def userNames : List Str := [("gain" : Str), ("written" : Str), ("cell_of" : Str), ("value_of" : Str), ("_law_value" : Str), ("new_cell" : Str), ("replaced" : Str), ("has_elements" : Str), ("_law_is_ref" : Str), ("_law_inner" : Str), ("_law_new" : Str), ("_law_write" : Str), ("is_ref" : Str), ("taken_out" : Str), ("container" : Str), ("_law_holders" : Str), ("inner" : Str), ("ref_in" : Str), ("losing" : Str), ("do_deed" : Str), ("_law_deed" : Str), ("_law_reference" : Str), ("_law_slots" : Str), ("_law_done" : Str), ("_law_is_same" : Str), ("held_by" : Str), ("in_copy" : Str), ("copied" : Str), ("set_int" : Str), ("new_array" : Str), ("new_object" : Str), ("assign" : Str), ("put" : Str), ("take" : Str), ("make_ref" : Str), ("put_ref" : Str), ("unset" : Str), ("unset_at" : Str), ("change" : Str), ("suspect" : Str), ("cleared" : Str), ("free_cell" : Str), ("wants_destructor" : Str), ("begin_destructor" : Str), ("lose" : Str), ("settle" : Str), ("all_held" : Str), ("counts_right" : Str), ("_law_told" : Str), ("_law_plan" : Str), ("_law_world" : Str), ("_law_element" : Str), ("_law_change" : Str), ("_law_let_go" : Str), ("Cell" : Str), ("Counted" : Str)]
noncomputable def nameE (f : Str) (args : List Expr) (env : AEnv) : M AVal :=
  sel (f == ("list" : Str)) (listE r args env) (sel (builtin1 f) (bltE r f args env) (grd (userNames.contains f) (bnd (evs r env args) (callK (r.call f)))))
noncomputable def callA (y : Option (Expr × Str × Pos)) (args : List Expr) (pos : Pos) (env : AEnv) : M AVal := match y with
  | some (o, m, apos) => grd (notSuper o && apos.endLine == pos.line) (methE r o m args env)
  | none => fail
noncomputable def callN (fn : Expr) (args : List Expr) (pos : Pos) (env : AEnv) : M AVal := match nameOfE fn with
  | some f => grd (isGlob env f) (nameE r f args env)
  | none => callA r (attrOf fn) args pos env
noncomputable def callE (fn : Expr) (args : List Expr) (kws : List Keyword) (pos : Pos) (env : AEnv) : M AVal := grd (kws.isEmpty && args.all notStar && decide (args.length < 8)) (callN r fn args pos env)
noncomputable def tupK (vs : List AVal) : M AVal := ret (.tup vs)
noncomputable def dictV (ks : List (Option Expr)) (kvs : List (AVal × AVal)) : M AVal := sel (strKeys ks) (pr (mkS kvs)) (pr (mkI kvs))
noncomputable def attrK (a : Str) (ov : AVal) : M AVal := pr (attrGet ov a)
noncomputable def evF (e : Expr) (env : AEnv) : M AVal := match e with
  | .Constant c _ _ => opt (constA c)
  | .Name x _ => grd (!badName x) (env.get x)
  | .Tuple es _ _ => grd (es.all notStar && decide (es.length ≤ 1000000)) (bnd (evs r env es) tupK)
  | .List es _ => grd (es.all notStar && decide (es.length ≤ 1000000)) (bnd (evs r env es) newLK)
  | .Dict ks vs _ => grd (dictOk ks vs) (bnd (dictA r env ks vs) (dictV ks))
  | .Attribute o a _ => grd (notSuper o) (bnd (r.ev o env) (attrK a))
  | .Subscript o i _ => subF r o i env
  | .BinOp l op x _ => bnd (r.ev l env) (sliceK (bin op) (r.ev x env))
  | .UnaryOp op x _ => bnd (r.ev x env) (unary op)
  | .BoolOp op es _ => boolA r env op es
  | .Compare l ops xs _ => cmpF r l ops xs env
  | .IfExp t b o _ => bnd (r.ev t env) (iteK (r.ev b env) (r.ev o env))
  | .ListComp elt gs sc _ => compF r env elt gs sc
  | .Call fn args kws pos => callE r fn args kws pos env
  | _ => fail

noncomputable def nextK (env : AEnv) : M Out := ret (.next env)
noncomputable def augI4 (env : AEnv) (ov iv new : AVal) : M Out := bnd (pr (itemSet ov iv new)) (cst (ret (.next env)))
noncomputable def augI3 (op : Operator) (env : AEnv) (ov iv old v : AVal) : M Out := bnd (aug op old v) (augI4 env ov iv)
noncomputable def augI2 (op : Operator) (m : M AVal) (env : AEnv) (ov iv old : AVal) : M Out := bnd m (augI3 op env ov iv old)
noncomputable def augI1 (op : Operator) (m : M AVal) (env : AEnv) (ov iv : AVal) : M Out := bnd (pr (itemGet ov iv)) (augI2 op m env ov iv)
noncomputable def augI0 (op : Operator) (mi m : M AVal) (env : AEnv) (ov : AVal) : M Out := bnd mi (augI1 op m env ov)
noncomputable def augI (y : Option (Expr × Expr)) (op : Operator) (e : Expr) (env : AEnv) : M Out := match y with
  | some (o, i) => grd (notSlice i) (bnd (r.ev o env) (augI0 op (r.ev i env) (r.ev e env) env))
  | none => fail
noncomputable def augA4 (a : Str) (env : AEnv) (ov new : AVal) : M Out := bnd (pr (attrSet ov a new)) (cst (ret (.next env)))
noncomputable def augA3 (op : Operator) (a : Str) (env : AEnv) (ov old v : AVal) : M Out := bnd (aug op old v) (augA4 a env ov)
noncomputable def augA2 (op : Operator) (a : Str) (m : M AVal) (env : AEnv) (ov old : AVal) : M Out := bnd m (augA3 op a env ov old)
noncomputable def augA1 (op : Operator) (a : Str) (m : M AVal) (env : AEnv) (ov : AVal) : M Out := bnd (pr (attrGet ov a)) (augA2 op a m env ov)
noncomputable def augS (t : Expr) (op : Operator) (e : Expr) (env : AEnv) : M Out := match attrOf t with
  | some (o, a, _) => bnd (r.ev o env) (augA1 op a (r.ev e env) env)
  | none => augI r (subOf t) op e env
noncomputable def delI2 (env : AEnv) (ov iv : AVal) : M Out := bnd (pr (itemDel ov iv)) (cst (ret (.next env)))
noncomputable def delI1 (m : M AVal) (env : AEnv) (ov : AVal) : M Out := bnd m (delI2 env ov)
noncomputable def delI (y : Option (Expr × Expr)) (ts : List Expr) (env : AEnv) : M Out := match y with
  | some (o, i) => grd ts.isEmpty (bnd (r.ev o env) (delI1 (r.ev i env) env))
  | none => fail
noncomputable def delS (ts : List Expr) (env : AEnv) : M Out := match ts with
  | [] => fail
  | t :: ts => delI r (subOf t) ts env
noncomputable def asgK (t : Expr) (env : AEnv) (v : AVal) : M Out := bnd (assignT r t env v) nextK
noncomputable def asgS (ts : List Expr) (e : Expr) (env : AEnv) : M Out := match ts with
  | [] => fail
  | t :: ts => grd (ts.isEmpty && plainT t && pairOk t e && notSD e) (bnd (r.ev e env) (asgK r t env))
noncomputable def whileK (f g : AEnv → M Out) (env : AEnv) : M Out := bnd (f env) (thenO (weak g))
noncomputable def whileN (t : Expr) (b : List Stmt) : Nat → AEnv → M Out
  | 0, _ => fail
  | n + 1, env => bnd (r.ev t env) (iteK (whileK (exs r b) (whileN t b n) env) (ret (.next env)))
noncomputable def whileM (t : Expr) (b : List Stmt) (env : AEnv) : M Out := fun st k => ∃ n, whileN r t b n env st k
noncomputable def forS3 (t : Expr) (b : List Stmt) (env : AEnv) (src : Src) (items : List AVal) (ver : Nat) : M Out := pr (forLoop r src ver t b items env)
noncomputable def forS2 (t : Expr) (b : List Stmt) (env : AEnv) (src : Src) (items : List AVal) : M Out := bnd (watchV src) (forS3 r t b env src items)
noncomputable def forS1 (t : Expr) (b : List Stmt) (env : AEnv) (src : Src) : M Out := grd (tgtOk src t) (bnd (pr (srcItems src)) (forS2 r t b env src))
noncomputable def forS (t e : Expr) (b : List Stmt) (env : AEnv) : M Out := bnd (srcOf r env e) (forS1 r t b env)
noncomputable def retV (v : AVal) : M Out := ret (.ret v)
noncomputable def exF (s : Stmt) (env : AEnv) : M Out := match s with
  | .Expr e _ => grd (notComp e) (bnd (r.ev e env) (cst (ret (.next env))))
  | .Pass _ => ret (.next env)
  | .Return e _ => match e with
    | some e => bnd (r.ev e env) retV
    | none => ret (.ret .none)
  | .Assign ts e _ => asgS r ts e env
  | .AugAssign t op e _ => augS r t op e env
  | .Delete ts _ => delS r ts env
  | .If t b o _ => bnd (r.ev t env) (iteK (exs r b env) (exs r o env))
  | .While t b l _ => grd l.isEmpty (pr (whileM r t b env))
  | .For t e b l _ => grd (l.isEmpty && notSet e) (forS r t e b env)
  | _ => fail

noncomputable def plainParams (a : Arguments) : Bool := a.posonlyargs.isEmpty && a.vararg.isNone && a.kwonlyargs.isEmpty && a.kwarg.isNone && a.defaults.isEmpty
noncomputable def fnOfTab (f : Str) : Option DefRec := (recsOf PySem.Challenge.pw_pf0208_01).find? fun d => d.name == f

noncomputable def notFree : NameKind → Bool
  | .free => false
  | _ => true
noncomputable def bodyName (sc : Scope) (p : Str × NameKind) : Bool := notFree p.2 && sc.names.lookup p.1 == some p.2
noncomputable def bodyOk (ps : List Str) (sc : Scope) : Bool := isFn sc && !sc.isCoroutine && !sc.isGenerator && noDup ps && ps.all (fun x => bindable (sc.names.lookup x)) && sc.names.all (bodyName sc)

noncomputable def outK (o : Out) : M AVal := ret (retOf o)
noncomputable def runBody (params : Arguments) (body : List Stmt) (scope : Scope) (args : List AVal) : M AVal :=
  grd (decide (params.args.length = args.length) && (plainParams params && bodyOk (params.args.map (·.arg)) scope))
    (bnd (exs r body { sc := scope, vars := (params.args.map (·.arg)).zip args }) outK)

/- the __init__ of a class of the text -/
noncomputable def fdef : Stmt → Option DefRec
  | .FunctionDef name a b _ _ _ sc _ _ pos => some ⟨name, a, b, sc, pos⟩
  | _ => none
noncomputable def cdef : Stmt → Option (Str × List Stmt)
  | .ClassDef n _ _ b _ _ _ _ _ _ _ => some (n, b)
  | _ => none
noncomputable def initOf (c : Str) : Option (Arguments × List Stmt × Scope) :=
  (PySem.Challenge.pw_pf0208_01.main.body.filterMap cdef).findSome? fun y => (y.2.head?.bind fdef).bind fun d => cond (y.1 == c && d.name == ("__init__" : Str)) (some (d.params, d.body, d.scope)) none

noncomputable def isCls (f : Str) : Bool := f == ("Cell" : Str) || f == ("Counted" : Str)
noncomputable def instK (f : Str) (id : Nat) (v : AVal) : M AVal := grd (noneE v) (ret (.inst f id))
noncomputable def initF (f : Str) (args : List AVal) : M AVal := the (initOf f) fun y => bnd (newD (.sdict [])) fun id => bnd (runBody r y.1 y.2.1 y.2.2 (.inst f id :: args)) (instK f id)
noncomputable def callF (f : Str) (args : List AVal) : M AVal := sel (isCls f) (initF r f args) (the (fnOfTab f) fun d => runBody r d.params d.body d.scope args)
end

noncomputable def R : Nat → Rec
  | 0 => { ev := fun _ _ => fail, ex := fun _ _ => fail, call := fun _ _ => fail }
  | n + 1 => { ev := evF (R n), ex := exF (R n), call := callF (R n) }

/-! taking facts apart -/
theorem bind_some {α β : Type} {o : Option α} {f : α → Option β} {y : β} (h : o.bind f = some y) : ∃ a, o = some a ∧ f a = some y := by
  cases o with
  | none => injection h
  | some a => exact ⟨a, rfl, h⟩
theorem bind_K {α β : Type} {o : Option α} {f : α → Option β} {y : β} {G : Prop} (h : o.bind f = some y) (k : ∀ a, o = some a → f a = some y → G) : G := (bind_some h).elim fun a h => k a h.1 h.2
theorem e0a2 {p q : Prop} {G : Prop} (h : p ∧ q) (k : p → q → G) : G := k h.1 h.2
theorem e0a3 {p q r : Prop} {G : Prop} (h : p ∧ q ∧ r) (k : p → q → r → G) : G := k h.1 h.2.1 h.2.2
theorem e0a4 {p q r s : Prop} {G : Prop} (h : p ∧ q ∧ r ∧ s) (k : p → q → r → s → G) : G := k h.1 h.2.1 h.2.2.1 h.2.2.2
theorem e1a1 {α : Type} {p : α → Prop} {G : Prop} (h : ∃ a, p a) (k : ∀ a, p a → G) : G := h.elim fun a h => k a h
theorem e1a2 {α : Type} {p q : α → Prop} {G : Prop} (h : ∃ a, p a ∧ q a) (k : ∀ a, p a → q a → G) : G := h.elim fun a h => k a h.1 h.2
theorem e1a3 {α : Type} {p q r : α → Prop} {G : Prop} (h : ∃ a, p a ∧ q a ∧ r a) (k : ∀ a, p a → q a → r a → G) : G := h.elim fun a h => k a h.1 h.2.1 h.2.2
theorem e1a4 {α : Type} {p q r s : α → Prop} {G : Prop} (h : ∃ a, p a ∧ q a ∧ r a ∧ s a) (k : ∀ a, p a → q a → r a → s a → G) : G := h.elim fun a h => k a h.1 h.2.1 h.2.2.1 h.2.2.2
theorem e1a5 {α : Type} {p q r s t : α → Prop} {G : Prop} (h : ∃ a, p a ∧ q a ∧ r a ∧ s a ∧ t a) (k : ∀ a, p a → q a → r a → s a → t a → G) : G := h.elim fun a h => k a h.1 h.2.1 h.2.2.1 h.2.2.2.1 h.2.2.2.2
theorem e2a1 {α β : Type} {p : α → β → Prop} {G : Prop} (h : ∃ a b, p a b) (k : ∀ a b, p a b → G) : G := h.elim fun a h => h.elim fun b h => k a b h
theorem e2a2 {α β : Type} {p q : α → β → Prop} {G : Prop} (h : ∃ a b, p a b ∧ q a b) (k : ∀ a b, p a b → q a b → G) : G := h.elim fun a h => h.elim fun b h => k a b h.1 h.2
theorem e2a3 {α β : Type} {p q r : α → β → Prop} {G : Prop} (h : ∃ a b, p a b ∧ q a b ∧ r a b) (k : ∀ a b, p a b → q a b → r a b → G) : G := h.elim fun a h => h.elim fun b h => k a b h.1 h.2.1 h.2.2
theorem e2a4 {α β : Type} {p q r s : α → β → Prop} {G : Prop} (h : ∃ a b, p a b ∧ q a b ∧ r a b ∧ s a b) (k : ∀ a b, p a b → q a b → r a b → s a b → G) : G := h.elim fun a h => h.elim fun b h => k a b h.1 h.2.1 h.2.2.1 h.2.2.2
theorem e2a6 {α β : Type} {p q r s t u : α → β → Prop} {G : Prop} (h : ∃ a b, p a b ∧ q a b ∧ r a b ∧ s a b ∧ t a b ∧ u a b) (k : ∀ a b, p a b → q a b → r a b → s a b → t a b → u a b → G) : G := h.elim fun a h => h.elim fun b h => k a b h.1 h.2.1 h.2.2.1 h.2.2.2.1 h.2.2.2.2.1 h.2.2.2.2.2
theorem e3a1 {α β γ : Type} {p : α → β → γ → Prop} {G : Prop} (h : ∃ a b c, p a b c) (k : ∀ a b c, p a b c → G) : G := h.elim fun a h => h.elim fun b h => h.elim fun c h => k a b c h
theorem e3a2 {α β γ : Type} {p q : α → β → γ → Prop} {G : Prop} (h : ∃ a b c, p a b c ∧ q a b c) (k : ∀ a b c, p a b c → q a b c → G) : G := h.elim fun a h => h.elim fun b h => h.elim fun c h => k a b c h.1 h.2
theorem e3a3 {α β γ : Type} {p q r : α → β → γ → Prop} {G : Prop} (h : ∃ a b c, p a b c ∧ q a b c ∧ r a b c) (k : ∀ a b c, p a b c → q a b c → r a b c → G) : G := h.elim fun a h => h.elim fun b h => h.elim fun c h => k a b c h.1 h.2.1 h.2.2
theorem e3a5 {α β γ : Type} {p q r s t : α → β → γ → Prop} {G : Prop} (h : ∃ a b c, p a b c ∧ q a b c ∧ r a b c ∧ s a b c ∧ t a b c) (k : ∀ a b c, p a b c → q a b c → r a b c → s a b c → t a b c → G) : G := h.elim fun a h => h.elim fun b h => h.elim fun c h => k a b c h.1 h.2.1 h.2.2.1 h.2.2.2.1 h.2.2.2.2
theorem e3a6 {α β γ : Type} {p q r s t u : α → β → γ → Prop} {G : Prop} (h : ∃ a b c, p a b c ∧ q a b c ∧ r a b c ∧ s a b c ∧ t a b c ∧ u a b c) (k : ∀ a b c, p a b c → q a b c → r a b c → s a b c → t a b c → u a b c → G) : G := h.elim fun a h => h.elim fun b h => h.elim fun c h => k a b c h.1 h.2.1 h.2.2.1 h.2.2.2.1 h.2.2.2.2.1 h.2.2.2.2.2
theorem e4a1 {α β γ δ : Type} {p : α → β → γ → δ → Prop} {G : Prop} (h : ∃ a b c d, p a b c d) (k : ∀ a b c d, p a b c d → G) : G := h.elim fun a h => h.elim fun b h => h.elim fun c h => h.elim fun d h => k a b c d h
theorem e4a3 {α β γ δ : Type} {p q r : α → β → γ → δ → Prop} {G : Prop} (h : ∃ a b c d, p a b c d ∧ q a b c d ∧ r a b c d) (k : ∀ a b c d, p a b c d → q a b c d → r a b c d → G) : G := h.elim fun a h => h.elim fun b h => h.elim fun c h => h.elim fun d h => k a b c d h.1 h.2.1 h.2.2
theorem e4a5 {α β γ δ : Type} {p q r s t : α → β → γ → δ → Prop} {G : Prop} (h : ∃ a b c d, p a b c d ∧ q a b c d ∧ r a b c d ∧ s a b c d ∧ t a b c d) (k : ∀ a b c d, p a b c d → q a b c d → r a b c d → s a b c d → t a b c d → G) : G := h.elim fun a h => h.elim fun b h => h.elim fun c h => h.elim fun d h => k a b c d h.1 h.2.1 h.2.2.1 h.2.2.2.1 h.2.2.2.2
theorem e4a6 {α β γ δ : Type} {p q r s t u : α → β → γ → δ → Prop} {G : Prop} (h : ∃ a b c d, p a b c d ∧ q a b c d ∧ r a b c d ∧ s a b c d ∧ t a b c d ∧ u a b c d) (k : ∀ a b c d, p a b c d → q a b c d → r a b c d → s a b c d → t a b c d → u a b c d → G) : G := h.elim fun a h => h.elim fun b h => h.elim fun c h => h.elim fun d h => k a b c d h.1 h.2.1 h.2.2.1 h.2.2.2.1 h.2.2.2.2.1 h.2.2.2.2.2
theorem e5a4 {α β γ δ ε : Type} {p q r s : α → β → γ → δ → ε → Prop} {G : Prop} (h : ∃ a b c d e, p a b c d e ∧ q a b c d e ∧ r a b c d e ∧ s a b c d e) (k : ∀ a b c d e, p a b c d e → q a b c d e → r a b c d e → s a b c d e → G) : G := h.elim fun a h => h.elim fun b h => h.elim fun c h => h.elim fun d h => h.elim fun e h => k a b c d e h.1 h.2.1 h.2.2.1 h.2.2.2
--ELIMS END
end
/-! AS1 -/
section
set_option autoImplicit false
set_option maxRecDepth 100000
open PySem PySem.W PyProof.Rows PySem.Calls

abbrev PW : Program := PySem.Challenge.pw_pf0208_01

structure Cx where
  w : World
  h0 : Heap
  K : Frag
  cls : Str → Option Addr
  mg : Str → Option Value
  mb : Str → Option Value

mutual
inductive VRel (X : Cx) (h : Heap) (loc : Nat → Addr) (N : Nat) : Value → AVal → Prop
  | none : VRel X h loc N .none .none
  | bool (b : Bool) : VRel X h loc N (.bool b) (.bool b)
  | int (i : Int) (t : Tok) : VRel X h loc N (.int i t) (.int i)
  | str (x : Str) (t : Tok) : VRel X h loc N (.str x t) (.str x)
  | tup {a : Addr} {o : Obj} {vs : List Value} {n : Nat} {l : List AVal} : h.get? a = some o → o.cls = .type "tuple" → o.data = .seq vs.toArray n → VRels X h loc N vs l → VRel X h loc N (.ref a) (.tup l)
  | obj {id : Nat} : id < N → VRel X h loc N (.ref (loc id)) (.obj id)
  | inst {c : Str} {C a : Addr} {id : Nat} : id < N → X.cls c = some C → h.get? a = some (instObj C (loc id)) → VRel X h loc N (.ref a) (.inst c id)
inductive VRels (X : Cx) (h : Heap) (loc : Nat → Addr) (N : Nat) : List Value → List AVal → Prop
  | nil : VRels X h loc N [] []
  | cons {v : Value} {a : AVal} {vs : List Value} {l : List AVal} : VRel X h loc N v a → VRels X h loc N vs l → VRels X h loc N (v :: vs) (a :: l)
end

/-! by the shape of a value: no equations are left -/
@[elab_as_elim] theorem VRel.K {X : Cx} {h : Heap} {loc : Nat → Addr} {N : Nat} {m : Value → AVal → Prop} {v : Value} {a : AVal} (r : VRel X h loc N v a) (k1 : m .none .none) (k2 : ∀ b, m (.bool b) (.bool b)) (k3 : ∀ i t, m (.int i t) (.int i)) (k4 : ∀ x t, m (.str x t) (.str x))
    (k5 : ∀ {a o vs n l}, h.get? a = some o → o.cls = .type "tuple" → o.data = .seq vs.toArray n → VRels X h loc N vs l → m (.ref a) (.tup l)) (k6 : ∀ {id}, id < N → m (.ref (loc id)) (.obj id)) (k7 : ∀ {c C a id}, id < N → X.cls c = some C → h.get? a = some (instObj C (loc id)) → m (.ref a) (.inst c id)) : m v a :=
  VRel.casesOn (motive_1 := fun v a _ => m v a) r k1 k2 k3 k4 (fun a b c d => k5 a b c d) (fun a => k6 a) fun a b c => k7 a b c
@[elab_as_elim] theorem VRels.K {X : Cx} {h : Heap} {loc : Nat → Addr} {N : Nat} {m : List Value → List AVal → Prop} {v : List Value} {a : List AVal} (r : VRels X h loc N v a) (k1 : m [] []) (k2 : ∀ {v a vs l}, VRel X h loc N v a → VRels X h loc N vs l → m (v :: vs) (a :: l)) : m v a :=
  VRels.casesOn (motive_2 := fun v a _ => m v a) r k1 fun a b => k2 a b

noncomputable def isTup : Value → Bool
  | .type t => t == "tuple"
  | _ => false
noncomputable def isInst : Value → Bool
  | .ref _ => true
  | _ => false
noncomputable def immD (c : Value) (i : Bool) : Data → Bool
  | .seq _ _ => isTup c
  | .plain => isInst c && i
  | _ => false
noncomputable def Imm (o : Obj) : Bool := immD o.cls o.dict.isSome o.data

theorem Imm.tup {o : Obj} {vs : Array Value} {n : Nat} (hc : o.cls = .type "tuple") (hd : o.data = .seq vs n) : Imm o = true := by
  unfold Imm
  rw [hc, hd]
  rfl
theorem VRel.mono {X : Cx} {h h' : Heap} {loc loc' : Nat → Addr} {N N' : Nat} (hk : ∀ a o, h.get? a = some o → Imm o = true → h'.get? a = some o) (hl : ∀ i, i < N → loc' i = loc i) (hN : N ≤ N')
    {v : Value} {a : AVal} (r : VRel X h loc N v a) : VRel X h' loc' N' v a :=
  VRel.rec (motive_1 := fun v a _ => VRel X h' loc' N' v a) (motive_2 := fun vs l _ => VRels X h' loc' N' vs l) .none .bool .int .str (fun e hc hd _ ih => .tup (hk _ _ e (Imm.tup hc hd)) hc hd ih)
    (fun {id} hi => hl id hi ▸ .obj (Nat.lt_of_lt_of_le hi hN)) (fun {_ _ _ id} hi hc e => .inst (Nat.lt_of_lt_of_le hi hN) hc (hl id hi ▸ hk _ _ e rfl)) .nil (fun _ _ h1 h2 => .cons h1 h2) r
theorem VRels.mono {X : Cx} {h h' : Heap} {loc loc' : Nat → Addr} {N N' : Nat} (hk : ∀ a o, h.get? a = some o → Imm o = true → h'.get? a = some o) (hl : ∀ i, i < N → loc' i = loc i) (hN : N ≤ N')
    {vs : List Value} {l : List AVal} (r : VRels X h loc N vs l) : VRels X h' loc' N' vs l :=
  VRels.rec (motive_1 := fun v a _ => True) (motive_2 := fun vs l _ => VRels X h' loc' N' vs l) trivial (fun _ => trivial) (fun _ _ => trivial) (fun _ _ => trivial) (fun _ _ _ _ _ => trivial) (fun _ => trivial) (fun _ _ _ => trivial) .nil (fun a _ _ h2 => .cons (a.mono hk hl hN) h2) r

inductive SRels (X : Cx) (h : Heap) (loc : Nat → Addr) (N : Nat) : List DictEntry → List (Str × AVal) → Prop
  | nil : SRels X h loc N [] []
  | cons {x : Str} {t : Tok} {v : Value} {a : AVal} {es : List DictEntry} {l : List (Str × AVal)} : VRel X h loc N v a → SRels X h loc N es l →
      SRels X h loc N (⟨PyData.keyHash X.w.params x, .str x t, v⟩ :: es) ((x, a) :: l)
theorem SRels.mono {X : Cx} {h h' : Heap} {loc loc' : Nat → Addr} {N N' : Nat} (hk : ∀ a o, h.get? a = some o → Imm o = true → h'.get? a = some o) (hl : ∀ i, i < N → loc' i = loc i) (hN : N ≤ N')
    {es : List DictEntry} {l : List (Str × AVal)} (r : SRels X h loc N es l) : SRels X h' loc' N' es l := by
  induction r with
  | nil => exact .nil
  | cons a _ ih => exact .cons (a.mono hk hl hN) ih

inductive IRels {κ : Type} (X : Cx) (h : Heap) (loc : Nat → Addr) (N : Nat) : List (κ × Value) → List (κ × AVal) → Prop
  | nil : IRels X h loc N [] []
  | cons {k : κ} {v : Value} {a : AVal} {kvs : List (κ × Value)} {l : List (κ × AVal)} : VRel X h loc N v a → IRels X h loc N kvs l → IRels X h loc N ((k, v) :: kvs) ((k, a) :: l)
theorem IRels.mono {κ : Type} {X : Cx} {h h' : Heap} {loc loc' : Nat → Addr} {N N' : Nat} (hk : ∀ a o, h.get? a = some o → Imm o = true → h'.get? a = some o) (hl : ∀ i, i < N → loc' i = loc i) (hN : N ≤ N')
    {es : List (κ × Value)} {l : List (κ × AVal)} (r : IRels X h loc N es l) : IRels X h' loc' N' es l := by
  induction r with
  | nil => exact .nil
  | cons a _ ih => exact .cons (a.mono hk hl hN) ih

noncomputable def ORel (X : Cx) (h : Heap) (loc : Nat → Addr) (N : Nat) (a : Addr) : AData → Prop
  | .list l => ∃ vs n, h.get? a = some ⟨.type "list", none, .seq (List.toArray vs) n, #[]⟩ ∧ VRels X h loc N vs l
  | .idict l => ∃ kvs : List (Int × Value), (h.DictOf (intKind PW X.w) a kvs ∧ a ≠ sysModules) ∧ IRels X h loc N kvs l
  | .sdict l => (l.map (·.1)).Nodup ∧ ∃ es n, h.get? a = some (dictOf es n) ∧ SRels X h loc N es l

theorem ORel.live {X : Cx} {h : Heap} {loc : Nat → Addr} {N : Nat} {a : Addr} {d : AData} (r : ORel X h loc N a d) : ∃ o, h.get? a = some o ∧ Imm o = false := by
  cases d with
  | list l => refine e2a2 (r) fun vs n e _ => ?_; exact ⟨_, e, rfl⟩
  | idict l =>
    obtain ⟨kvs, ⟨⟨o, es, ep, e, hx, hd, _⟩, _⟩, _⟩ := r
    refine ⟨o, e, ?_⟩
    obtain ⟨c, d, dt, sl⟩ := o
    refine e0a3 (hx) fun h1 h2 h3 => ?_
    dsimp only at h1 h2 h3 hd
    subst h1 hd
    rfl
  | sdict l => obtain ⟨_, es, n, e, _⟩ := r; exact ⟨_, e, rfl⟩

/- the same object there, the words of the relation carried over -/
theorem ORel.mono {X : Cx} {h h' : Heap} {loc loc' : Nat → Addr} {N N' : Nat} {a : Addr} {d : AData} (r : ORel X h loc N a d) (ha : ∀ o, h.get? a = some o → h'.get? a = some o)
    (hk : ∀ a o, h.get? a = some o → Imm o = true → h'.get? a = some o) (hl : ∀ i, i < N → loc' i = loc i) (hN : N ≤ N') : ORel X h' loc' N' a d := by
  cases d with
  | list l => refine e2a2 (r) fun vs n e rr => ?_; exact ⟨vs, n, ha _ e, rr.mono hk hl hN⟩
  | idict l =>
    obtain ⟨kvs, ⟨⟨o, es, ep, e, q⟩, ns⟩, rr⟩ := r
    exact ⟨kvs, ⟨⟨o, es, ep, ha _ e, q⟩, ns⟩, rr.mono hk hl hN⟩
  | sdict l => obtain ⟨nd, es, n, e, rr⟩ := r; exact ⟨nd, es, n, ha _ e, rr.mono hk hl hN⟩

structure OK (X : Cx) (s : Shared) (loc : Nat → Addr) (st : ASt) : Prop where
  base : ∀ b o, X.h0.get? b = some o → s.heap.get? b = some o
  new : ∀ i, i < st.next → X.h0.get? (loc i) = none
  inj : ∀ i j, i < st.next → j < st.next → loc i = loc j → i = j
  rel : ∀ i, i < st.next → ORel X s.heap loc st.next (loc i) (st.get i).data

structure Ext (W : Addr → Prop) (s : Shared) (loc : Nat → Addr) (st : ASt) (s' : Shared) (loc' : Nat → Addr) (st' : ASt) : Prop where
  le : st.next ≤ st'.next
  at_ : ∀ i, i < st.next → loc' i = loc i
  fresh : ∀ i, st.next ≤ i → i < st'.next → s.heap.get? (loc' i) = none
  keep : ∀ b o, s.heap.get? b = some o → (∀ i, i < st.next → loc i ≠ b) → ¬ W b → s'.heap.get? b = some o
  live : ∀ b o, s.heap.get? b = some o → ∃ o', s'.heap.get? b = some o'
  imm : ∀ b o, s.heap.get? b = some o → Imm o = true → s'.heap.get? b = some o
  verLe : ∀ i, i < st.next → (st.get i).ver ≤ (st'.get i).ver
  ver : ∀ i, i < st.next → (st.get i).ver = (st'.get i).ver → (st.get i).data = (st'.get i).data ∧ ∀ o, s.heap.get? (loc i) = some o → s'.heap.get? (loc i) = some o
  gens : s'.gens = s.gens
  os : s'.os = s.os

abbrev NoW : Addr → Prop := fun _ => False

theorem Ext.refl (W : Addr → Prop) (s : Shared) (loc : Nat → Addr) (st : ASt) : Ext W s loc st s loc st :=
  ⟨Nat.le_refl _, fun _ _ => rfl, fun _ h1 h2 => absurd (Nat.lt_of_le_of_lt h1 h2) (Nat.lt_irrefl _), fun _ _ e _ _ => e, fun _ o e => ⟨o, e⟩, fun _ _ e _ => e, fun _ _ => Nat.le_refl _, fun _ _ _ => ⟨rfl, fun _ e => e⟩, rfl, rfl⟩
theorem Ext.mono {W W' : Addr → Prop} {s s' : Shared} {loc loc' : Nat → Addr} {st st' : ASt} (x : Ext W s loc st s' loc' st') (h : ∀ b, W b → W' b) : Ext W' s loc st s' loc' st' :=
  ⟨x.le, x.at_, x.fresh, fun b o e hn hw => x.keep b o e hn fun q => hw (h b q), x.live, x.imm, x.verLe, x.ver, x.gens, x.os⟩
theorem Ext.trans {W : Addr → Prop} {s s' s'' : Shared} {loc loc' loc'' : Nat → Addr} {st st' st'' : ASt} (x : Ext W s loc st s' loc' st') (y : Ext W s' loc' st' s'' loc'' st'') : Ext W s loc st s'' loc'' st'' where
  le := Nat.le_trans x.le y.le
  at_ := fun i hi => (y.at_ i (Nat.lt_of_lt_of_le hi x.le)).trans (x.at_ i hi)
  fresh := fun i h1 h2 => by
    rcases Nat.lt_or_ge i st'.next with h | h
    · rw [y.at_ i h]; exact x.fresh i h1 h
    · have e := y.fresh i h h2
      cases q : s.heap.get? (loc'' i) with
      | none => rfl
      | some o => refine e1a1 (x.live _ _ q) fun o' q' => ?_; rw [e] at q'; cases q'
  keep := fun b o e hn hw => by
    refine y.keep b o (x.keep b o e hn hw) (fun i hi q => ?_) hw
    rcases Nat.lt_or_ge i st.next with h | h
    · exact hn i h ((x.at_ i h).symm.trans q)
    · have := x.fresh i h hi; rw [q, e] at this; cases this
  live := fun b o e => let ⟨_, e'⟩ := x.live b o e; y.live b _ e'
  imm := fun b o e hi => y.imm b o (x.imm b o e hi) hi
  verLe := fun i hi => Nat.le_trans (x.verLe i hi) (y.verLe i (Nat.lt_of_lt_of_le hi x.le))
  ver := fun i hi hv => by
    have h1 := x.verLe i hi
    have h2 := y.verLe i (Nat.lt_of_lt_of_le hi x.le)
    refine e0a2 (x.ver i hi (by lia -abstractProof)) fun a1 a2 => ?_
    refine e0a2 (y.ver i (Nat.lt_of_lt_of_le hi x.le) (by lia -abstractProof)) fun b1 b2 => ?_
    exact ⟨a1.trans b1, fun o e => by have := b2 o (by rw [x.at_ i hi]; exact a2 o e); rwa [x.at_ i hi] at this⟩
  gens := y.gens.trans x.gens
  os := y.os.trans x.os

theorem VRel.ext {X : Cx} {W : Addr → Prop} {s s' : Shared} {loc loc' : Nat → Addr} {st st' : ASt} {v : Value} {a : AVal} (r : VRel X s.heap loc st.next v a) (x : Ext W s loc st s' loc' st') : VRel X s'.heap loc' st'.next v a :=
  r.mono x.imm x.at_ x.le
theorem VRels.ext {X : Cx} {W : Addr → Prop} {s s' : Shared} {loc loc' : Nat → Addr} {st st' : ASt} {v : List Value} {a : List AVal} (r : VRels X s.heap loc st.next v a) (x : Ext W s loc st s' loc' st') : VRels X s'.heap loc' st'.next v a :=
  r.mono x.imm x.at_ x.le

structure EnvOK (X : Cx) (env : Env) (ae : AEnv) (h : Heap) (loc : Nat → Addr) (N : Nat) : Prop where
  kind : env.scope.kind = .function
  glob : env.globals = mainGlobals
  blt : env.builtins = builtinsNs
  kindOf : ∀ x k, ae.sc.names.lookup x = some k → env.kindOf x = some k ∨ (k = .free ∧ env.kindOf x = some .cell)
  ns : ∃ m, h.Ns env.locals m ∧ ∀ x a, ae.vars.lookup x = some a → env.kindOf x = some .local → ∃ v, m x = some v ∧ VRel X h loc N v a
  cell : ∀ x, (env.kindOf x = some .cell ∨ env.kindOf x = some .free) → ∃ c, env.cells.lookup x = some c ∧ ∃ o v, h.get? c = some o ∧ o.data = .cell v ∧ ∀ a, ae.vars.lookup x = some a → ∃ u, v = some u ∧ VRel X h loc N u a
  inj : ∀ x y c, env.cells.lookup x = some c → env.cells.lookup y = some c → x = y
  apart : ∀ i, i < N → loc i ≠ env.locals
  newL : X.h0.get? env.locals = none
  newC : ∀ x c, env.cells.lookup x = some c → X.h0.get? c = none
  celled : ∀ x c, env.cells.lookup x = some c → env.kindOf x = some .cell ∨ env.kindOf x = some .free

/- what a statement of a frame may write besides the abstract heap -/
noncomputable def Wr (env : Env) (b : Addr) : Prop := b = env.locals ∨ ∃ x, env.cells.lookup x = some b

theorem Imm.notCell {o : Obj} {v : Option Value} (h : o.data = .cell v) : Imm o = false := by
  unfold Imm
  rw [h]
  rfl
theorem Imm.notDict {o : Obj} {es : Array DictEntry} {n : Nat} (h : o.data = .dict es n) : Imm o = false := by
  unfold Imm
  rw [h]
  rfl
theorem notCell_of_ORel {X : Cx} {h : Heap} {loc : Nat → Addr} {N : Nat} {a : Addr} {d : AData} (r : ORel X h loc N a d) {o : Obj} (e : h.get? a = some o) {v : Option Value} (hd : o.data = .cell v) : False := by
  cases d with
  | list l => refine e2a2 (r) fun vs n e' _ => ?_; rw [e] at e'; o_facts e'; o_facts hd
  | idict l =>
    obtain ⟨kvs, ⟨⟨o', es, ep, e', hx, hd', _⟩, _⟩, _⟩ := r
    rw [e] at e'; o_facts e'; rw [hd] at hd'; o_facts hd'
  | sdict l => obtain ⟨_, es, n, e', _⟩ := r; rw [e] at e'; o_facts e'; o_facts hd

theorem EnvOK.ext {X : Cx} {env : Env} {ae : AEnv} {s s' : Shared} {loc loc' : Nat → Addr} {st st' : ASt} (G : OK X s loc st) (V : EnvOK X env ae s.heap loc st.next) (x : Ext NoW s loc st s' loc' st') :
    EnvOK X env ae s'.heap loc' st'.next where
  kind := V.kind
  glob := V.glob
  blt := V.blt
  kindOf := V.kindOf
  ns := by
    obtain ⟨m, ⟨o, es, ep, ho, r⟩, hm⟩ := V.ns
    refine ⟨m, ⟨o, es, ep, x.keep _ _ ho (fun i hi => V.apart i hi) id, r⟩, fun y a hy hk => ?_⟩
    refine e1a2 (hm y a hy hk) fun v h1 h2 => ?_
    exact ⟨v, h1, h2.ext x⟩
  cell := fun y hy => by
    obtain ⟨c, hc, o, v, ho, hd, hv⟩ := V.cell y hy
    refine ⟨c, hc, o, v, x.keep _ _ ho (fun i hi q => notCell_of_ORel (G.rel i hi) (by rw [q]; exact ho) hd) id, hd, fun a ha => ?_⟩
    refine e1a2 (hv a ha) fun u h1 h2 => ?_
    exact ⟨u, h1, h2.ext x⟩
  inj := V.inj
  apart := fun i hi q => by
    rcases Nat.lt_or_ge i st.next with h | h
    · exact V.apart i h ((x.at_ i h).symm.trans q)
    · obtain ⟨m, ⟨o, es, ep, ho, r⟩, hm⟩ := V.ns
      have := x.fresh i h hi
      rw [q, ho] at this; cases this
  newL := V.newL
  newC := V.newC
  celled := V.celled

structure Room (A : Around) (n : Nat) : Prop where
  handled : A.handled = none
  depth : A.depth + 2 * n < recursionLimit
  units : A.units + 20 * n + 100 < cLine
theorem Room.mono {A : Around} {n m : Nat} (r : Room A n) (h : m ≤ n) : Room A m := ⟨r.handled, by have := r.depth; lia -abstractProof, by have := r.units; lia -abstractProof⟩
theorem Room.in1 {A : Around} {n m : Nat} (r : Room A n) (h : m + 1 ≤ n) : Room A.in1 m := ⟨r.handled, by have := r.depth; show A.depth + 2 * m < _; lia -abstractProof, by have := r.units; show A.units + 1 + _ + _ < _; lia -abstractProof⟩
theorem Room.deeper {A : Around} {n m : Nat} {env : Env} (r : Room A n) (h : m + 1 ≤ n) : Room (A.deeper env) m := ⟨r.handled, by have := r.depth; show A.depth + 1 + 2 * m < _; lia -abstractProof, by have := r.units; show A.units + 3 + _ + _ < _; lia -abstractProof⟩

/- what is wanted behind a computation that is done when P holds -/
noncomputable def Then (X : Cx) (s : Shared) (loc : Nat → Addr) (st : ASt) (P : AVal → ASt → Prop) (Q : Value → Shared → Prop) : Prop :=
  ∀ a st' v s' loc', P a st' → OK X s' loc' st' → Ext NoW s loc st s' loc' st' → VRel X s'.heap loc' st'.next v a → Q v s'
noncomputable def ThenB (X : Cx) (s : Shared) (loc : Nat → Addr) (st : ASt) (P : Bool → ASt → Prop) (Q : Bool → Shared → Prop) : Prop :=
  ∀ b st' s' loc', P b st' → OK X s' loc' st' → Ext NoW s loc st s' loc' st' → Q b s'
/- a's truth is b -/
noncomputable def Tr (a : AVal) (b : Bool) (st : ASt) : Prop := ∀ K : Bool → ASt → Prop, truth a st K → K b st
noncomputable def ThenT (X : Cx) (s : Shared) (loc : Nat → Addr) (st : ASt) (P : AVal → Bool → ASt → Prop) (Q : Bool → Shared → Prop) : Prop :=
  ∀ a b st' s' loc', P a b st' → Tr a b st' → OK X s' loc' st' → Ext NoW s loc st s' loc' st' → Q b s'
noncomputable def ThenU (X : Cx) (s : Shared) (loc : Nat → Addr) (st : ASt) (P : Unit → ASt → Prop) (Q : Unit → Shared → Prop) : Prop :=
  ∀ st' s' loc', P () st' → OK X s' loc' st' → Ext NoW s loc st s' loc' st' → Q () s'
end
/-! AS2 -/
section
set_option autoImplicit false
set_option maxRecDepth 100000
open PySem PySem.W PyProof.Rows PySem.Calls

section
variable {X : Cx} {s : Shared} {loc : Nat → Addr} {st : ASt}

/- new objects, nothing else turned -/
theorem OK.keeps {h' : Heap} {t : Tok} (G : OK X s loc st) (hk : ∀ b o, s.heap.get? b = some o → h'.get? b = some o) :
    OK X { s with heap := h', toks := t } loc st ∧ Ext NoW s loc st { s with heap := h', toks := t } loc st :=
  ⟨⟨fun b o e => hk b o (G.base b o e), G.new, G.inj, fun i hi => (G.rel i hi).mono (fun o e => hk _ o e) (fun a o e _ => hk a o e) (fun _ _ => rfl) (Nat.le_refl _)⟩,
    ⟨Nat.le_refl _, fun _ _ => rfl, fun _ h1 h2 => absurd (Nat.lt_of_le_of_lt h1 h2) (Nat.lt_irrefl _), fun b o e _ _ => hk b o e, fun b o e => ⟨o, hk b o e⟩, fun b o e _ => hk b o e, fun _ _ => Nat.le_refl _, fun _ _ _ => ⟨rfl, fun o e => hk _ o e⟩, rfl, rfl⟩⟩
theorem OK.tok {t : Tok} (G : OK X s loc st) : OK X { s with toks := t } loc st ∧ Ext NoW s loc st { s with toks := t } loc st :=
  G.keeps (h' := s.heap) fun _ _ e => e

theorem OK.fresh (G : OK X s loc st) : X.h0.get? s.heap.objs.size = none := by
  cases q : X.h0.get? s.heap.objs.size with
  | none => rfl
  | some o => exact absurd (Heap.lt_size (G.base _ _ q)) (Nat.lt_irrefl _)
theorem size_none (h : Heap) : h.get? h.objs.size = none := by
  cases q : h.get? h.objs.size with
  | none => rfl
  | some o => exact absurd (Heap.lt_size q) (Nat.lt_irrefl _)

noncomputable def locN (loc : Nat → Addr) (n : Nat) (a : Addr) : Nat → Addr := fun i => if i = n then a else loc i

theorem OK.off (G : OK X s loc st) {a : Addr} (ha : s.heap.get? a = none) : X.h0.get? a = none ∧ ∀ i, i < st.next → loc i ≠ a :=
  ⟨by
    cases q : X.h0.get? a with
    | none => rfl
    | some o => rw [G.base _ _ q] at ha; o_facts ha, fun i hi q => (G.rel i hi).live.elim fun o h => by have h := h.1; rw [q, ha] at h; o_facts h⟩
/- an object taken into the picture -/
theorem OK.adopt {D : Addr} {d : AData} (G : OK X s loc st) (h3 : ∀ i, i < st.next → loc i ≠ D) (hD : X.h0.get? D = none) (hr : ORel X s.heap loc st.next D d) : OK X s (locN loc st.next D) (st.new d) ∧ VRel X s.heap (locN loc st.next D) (st.new d).next (.ref D) (.obj st.next) ∧
    (∀ i, i < (st.new d).next → locN loc st.next D i = D ∨ (i < st.next ∧ locN loc st.next D i = loc i)) ∧
    ∀ (W : Addr → Prop) (sB : Shared) (locB : Nat → Addr) (stB : ASt), Ext W sB locB stB s loc st → sB.heap.get? D = none → Ext W sB locB stB s (locN loc st.next D) (st.new d) := by
  have old : ∀ i, i < st.next → locN loc st.next D i = loc i := fun i hi => if_neg (Nat.ne_of_lt hi)
  have new : locN loc st.next D st.next = D := if_pos rfl
  have og : ∀ i, i < st.next → (st.new d).get i = st.get i := fun i hi => if_neg (Nat.ne_of_lt hi)
  have ng : (st.new d).get st.next = ⟨0, d⟩ := if_pos rfl
  have le : st.next ≤ (st.new d).next := Nat.le_succ _
  have two : ∀ {C : Nat → Prop}, (∀ i, i < st.next → C i) → C st.next → ∀ i, i < (st.new d).next → C i := fun h1 h2 i hi => (Nat.lt_succ_iff_lt_or_eq.mp hi).elim (h1 i) fun q => q ▸ h2
  have inj : ∀ i, i < (st.new d).next → ∀ j, j < (st.new d).next → locN loc st.next D i = locN loc st.next D j → i = j := by
    refine two (fun i h => two (fun j h' e => ?_) fun e => ?_) (two (fun j h' e => ?_) fun _ => rfl)
    · rw [old i h, old j h'] at e; exact G.inj i j h h' e
    · rw [old i h, new] at e; exact absurd e (h3 i h)
    · rw [old j h', new] at e; exact absurd e.symm (h3 j h')
  refine ⟨⟨G.base, two (fun i h => (old i h).symm ▸ G.new i h) (new.symm ▸ hD), fun i j hi hj => inj i hi j hj, two (fun i h => ?_) ?_⟩, ?_, two (fun i h => .inr ⟨h, old i h⟩) (.inl new), fun W sB locB stB x hB => ⟨Nat.le_trans x.le le, fun i hi => (old i (Nat.lt_of_lt_of_le hi x.le)).trans (x.at_ i hi),
    fun i h1 h2 => two (C := fun i => stB.next ≤ i → sB.heap.get? (locN loc st.next D i) = none) (fun i h h1 => (old i h).symm ▸ x.fresh i h1 h) (fun _ => new.symm ▸ hB) i h2 h1, x.keep, x.live, x.imm,
    fun i hi => (og i (Nat.lt_of_lt_of_le hi x.le)).symm ▸ x.verLe i hi, fun i hi => (og i (Nat.lt_of_lt_of_le hi x.le)).symm ▸ x.ver i hi, x.gens, x.os⟩⟩
  · rw [old i h, og i h]; exact (G.rel i h).mono (fun o e => e) (fun a o e _ => e) old le
  · rw [new, ng]; exact hr.mono (fun o e => e) (fun a o e _ => e) old le
  · have := VRel.obj (X := X) (h := s.heap) (loc := locN loc st.next D) (N := (st.new d).next) (id := st.next) (Nat.lt_succ_self _)
    rwa [new] at this
/- a new object at an address that was free -/
theorem new_done {h' : Heap} {t : Tok} {B : Addr} {d : AData} {P : AVal → ASt → Prop} {Q : Value → Shared → Prop} (h : newO d st P) (G : OK X s loc st) (hB : s.heap.get? B = none) (hk : ∀ b o, s.heap.get? b = some o → h'.get? b = some o) (hr : ORel X h' loc st.next B d) (T : Then X s loc st P Q) : Q (.ref B) { s with heap := h', toks := t } :=
  have p := G.keeps (t := t) hk
  have o := G.off hB
  have q := p.1.adopt o.2 o.1 hr
  T _ _ _ _ _ h q.1 (q.2.2.2 _ _ _ _ p.2 hB) q.2.1

/- the abstract object id turned -/
theorem OK.put {h' : Heap} {t : Tok} {id : Nat} {d : AData} (G : OK X s loc st) (hid : id < st.next) (hk : ∀ b o, b ≠ loc id → s.heap.get? b = some o → h'.get? b = some o)
    (hr : ORel X h' loc st.next (loc id) d) :
    OK X { s with heap := h', toks := t } loc (st.put id d) ∧ Ext NoW s loc st { s with heap := h', toks := t } loc (st.put id d) := by
  have h0 := G.new id hid
  refine e1a2 ((G.rel id hid).live) fun ox hox hoi => ?_
  have imm : ∀ b o, s.heap.get? b = some o → Imm o = true → h'.get? b = some o := fun b o e hi => hk b o (fun q => by rw [q, hox] at e; o_facts e; rw [hoi] at hi; o_facts hi) e
  have og : ∀ i, i ≠ id → (st.put id d).get i = st.get i := fun i hi => by show (if i = id then _ else _) = _; rw [if_neg hi]
  have ng : (st.put id d).get id = ⟨(st.get id).ver + 1, d⟩ := by show (if id = id then _ else _) = _; rw [if_pos rfl]
  refine ⟨⟨fun b o e => hk b o (fun q => by rw [q, h0] at e; o_facts e) (G.base b o e), G.new, G.inj, fun i hi => ?_⟩, ⟨Nat.le_refl _, fun _ _ => rfl, fun _ h1 h2 => absurd (Nat.lt_of_le_of_lt h1 h2) (Nat.lt_irrefl _), fun b o e hn _ => hk b o (fun q => hn id hid q.symm) e,
    fun b o e => ?_, imm, fun i hi => ?_, fun i hi hv => ?_, rfl, rfl⟩⟩
  · by_cases q : i = id
    · subst q; rw [ng]; exact hr
    · rw [og i q]
      exact (G.rel i hi).mono (fun o e => hk _ o (fun z => q (G.inj i id hi hid z)) e) imm (fun _ _ => rfl) (Nat.le_refl _)
  · by_cases q : b = loc id
    · refine e1a2 (hr.live) fun o' e' _ => ?_; exact ⟨o', q ▸ e'⟩
    · exact ⟨o, hk b o q e⟩
  · by_cases q : i = id
    · subst q; rw [ng]; exact Nat.le_succ _
    · rw [og i q]; exact Nat.le_refl _
  · by_cases q : i = id
    · subst q; rw [ng] at hv; exact absurd hv (Nat.ne_of_lt (Nat.lt_succ_self _))
    · rw [og i q]; exact ⟨rfl, fun o e => hk _ o (fun z => q (G.inj i id hi hid z)) e⟩

/- an object that is none of the abstract ones turned: a frame's names, a cell -/
theorem OK.but {h' : Heap} {t : Tok} {c : Addr} {oc : Obj} (G : OK X s loc st) (hn : ∀ i, i < st.next → loc i ≠ c) (h0 : X.h0.get? c = none) (hc : s.heap.get? c = some oc) (him : Imm oc = false)
    (hl : ∃ o', h'.get? c = some o') (hk : ∀ b o, b ≠ c → s.heap.get? b = some o → h'.get? b = some o) :
    OK X { s with heap := h', toks := t } loc st ∧ Ext (fun b => b = c) s loc st { s with heap := h', toks := t } loc st := by
  have imm : ∀ b o, s.heap.get? b = some o → Imm o = true → h'.get? b = some o := fun b o e hi => hk b o (fun q => by rw [q, hc] at e; o_facts e; rw [him] at hi; o_facts hi) e
  refine ⟨⟨fun b o e => hk b o (fun q => by rw [q, h0] at e; o_facts e) (G.base b o e), G.new, G.inj, fun i hi => (G.rel i hi).mono (fun o e => hk _ o (hn i hi) e) imm (fun _ _ => rfl) (Nat.le_refl _)⟩,
    ⟨Nat.le_refl _, fun _ _ => rfl, fun _ h1 h2 => absurd (Nat.lt_of_le_of_lt h1 h2) (Nat.lt_irrefl _), fun b o e _ hw => hk b o hw e, fun b o e => ?_, imm, fun _ _ => Nat.le_refl _, fun i hi _ => ⟨rfl, fun o e => hk _ o (hn i hi) e⟩, rfl, rfl⟩⟩
  by_cases q : b = c
  · refine e1a1 (hl) fun o' e' => ?_; exact ⟨o', q ▸ e'⟩
  · exact ⟨o, hk b o q e⟩
end

section
variable {X : Cx} {A : Around} {E : Value → Shared → Prop} {s : Shared} {loc : Nat → Addr} {st : ASt} {env : Env} {ae : AEnv} {a : AVal} {P : AVal → ASt → Prop} {Q : Value → Shared → Prop}

theorem Then.here {v : Value} (T : Then X s loc st P Q) (h : P a st) (G : OK X s loc st) (r : VRel X s.heap loc st.next v a) : Q v s := T a st v s loc h G (.refl _ _ _ _) r
theorem Then.tok {v : Value} {t : Tok} (T : Then X s loc st P Q) (h : P a st) (G : OK X s loc st) (r : VRel X s.heap loc st.next v a) : Q v { s with toks := t } :=
  T a st v _ loc h G.tok.1 G.tok.2 r

/-! a wish taken apart: what is wanted stays a name -/
section
variable {α β : Type} {C : Prop} {P : α → ASt → Prop}
theorem grd_K {c : Bool} {m : M α} (h : grd c m st P) (k : c = true → m st P → C) : C := by
  cases c with
  | true => exact k rfl h
  | false => exact h.elim
theorem sel_K {c : Bool} {m m' : M α} (h : sel c m m' st P) (k : c = true → m st P → C) (k' : c = false → m' st P → C) : C := by
  cases c with
  | true => exact k rfl h
  | false => exact k' rfl h
theorem opt_K {x : Option α} (h : opt x st P) (k : ∀ a, x = some a → P a st → C) : C := by
  cases x with
  | some a => exact k a rfl h
  | none => exact h.elim
theorem req_K {c : Prop} {m : M α} (h : req c m st P) (k : c → m st P → C) : C := by
  unfold req at h; exact k h.1 h.2
theorem the_K {x : Option β} {f : β → M α} (h : the x f st P) (k : ∀ a, x = some a → f a st P → C) : C := by
  unfold the at h; exact h.elim fun a h => k a h.1 h.2
theorem putD_K {id : Nat} {d : AData} {P : Unit → ASt → Prop} (h : putD id d st P) : P () (st.put id d) := by
  unfold putD at h; exact h.2
end
/- a goal that is not looked at for a while -/
theorem opq {G : Prop} (h : ∀ g : Prop, (G → g) → g) : G := h G id

/- constants -/
theorem const_snd {c : Const} {kd : Nat} {pos : Pos} (h : opt (constA c) st P) (G : OK X s loc st) (T : Then X s loc st P Q) :
    wpAny (model PW X.w) A (eval (.Constant c kd pos) env) Q E s := by
  cases c with
  | none => exact wpAny_Constant_none (T.here h G .none)
  | bool b => exact wpAny_Constant_bool (T.here h G (.bool b))
  | int i => exact wpAny_Constant_int (T.tok h G (.int i _))
  | str x => exact wpAny_Constant_str (T.tok h G (.str x _))
  | _ => exact h.elim

theorem name_snd {x : Str} {pos : Pos} (h : ae.get x st P) (hb : badName x = false) (G : OK X s loc st) (V : EnvOK X env ae s.heap loc st.next) (T : Then X s loc st P Q) :
    wpAny (model PW X.w) A (eval (.Name x pos) env) Q E s := by
  refine e0a2 (Bool.or_eq_false_iff.mp hb) fun hd hcd => ?_
  refine grd_K h fun hk h => opt_K h fun a hv h => ?_
  have local_ : env.kindOf x = some .local → wpAny (model PW X.w) A (eval (.Name x pos) env) Q E s := fun hl => by
    refine e1a2 (V.ns) fun m hm hr => ?_
    refine e1a2 (hr x a hv hl) fun v h1 h2 => ?_
    exact wpAny_Name (wpAny_loadName_local V.kind hl hm h1 (T.here h G h2)) hd
  have cell_ : env.kindOf x = some .cell → wpAny (model PW X.w) A (eval (.Name x pos) env) Q E s := fun hl => by
    obtain ⟨c, hc, o, v, ho, hod, hr⟩ := V.cell x (.inl hl)
    refine e1a2 (hr a hv) fun u h1 h2 => ?_
    exact wpAny_Name (wpAny_loadName_cell V.kind hl hc ⟨o, ho, by rw [hod, h1]⟩ (T.here h G h2)) hd
  have free_ : env.kindOf x = some .free → wpAny (model PW X.w) A (eval (.Name x pos) env) Q E s := fun hl => by
    obtain ⟨c, hc, o, v, ho, hod, hr⟩ := V.cell x (.inr hl)
    refine e1a2 (hr a hv) fun u h1 h2 => ?_
    exact wpAny_Name (wpAny_loadName_free V.kind hl hc ⟨o, ho, by rw [hod, h1]⟩ (T.here h G h2) hcd) hd
  clear h hv T
  cases e : ae.sc.names.lookup x with
  | none => rw [e] at hk; cases hk
  | some k =>
    rw [e] at hk
    cases k with
    | «local» => exact (V.kindOf x _ e).elim local_ fun q => by cases q.1
    | cell => exact (V.kindOf x _ e).elim cell_ fun q => by cases q.1
    | free => exact (V.kindOf x _ e).elim free_ fun q => cell_ q.2
    | _ => cases hk
end
end
/-! AS3 -/
section
set_option autoImplicit false
set_option maxRecDepth 100000
open PySem PySem.W PyProof.Rows PySem.Calls

section
variable {X : Cx} {h : Heap} {loc : Nat → Addr} {N : Nat}

variable {κ : Type} [DecidableEq κ]
theorem getK_cons {α : Type} {j k : κ} {v : α} {l : List (κ × α)} : Mine.getK k ((j, v) :: l) = if j = k then some v else Mine.getK k l := rfl
theorem IRels.getK {k : κ} {a : AVal} {kvs : List (κ × Value)} {l : List (κ × AVal)} (r : IRels X h loc N kvs l) (e : Mine.getK k l = some a) : ∃ v, valueAt kvs k = some v ∧ VRel X h loc N v a := by
  induction r with
  | nil => o_facts e
  | @cons j v b kvs l rv _ ih =>
    rw [getK_cons] at e
    by_cases q : j = k
    · subst q
      rw [if_pos rfl] at e
      o_facts e
      exact ⟨v, by simp [valueAt], rv⟩
    · rw [if_neg q] at e
      refine e1a2 (ih e) fun u h1 h2 => ?_
      exact ⟨u, by simpa [valueAt, q] using h1, h2⟩
theorem IRels.none {k : κ} {kvs : List (κ × Value)} {l : List (κ × AVal)} (r : IRels X h loc N kvs l) (e : Mine.getK k l = none) : valueAt kvs k = none := by
  induction r with
  | nil => rfl
  | @cons j v b kvs l rv _ ih =>
    rw [getK_cons] at e
    by_cases q : j = k
    · subst q; simp at e
    · rw [if_neg q] at e
      simpa [valueAt, q] using ih e
theorem IRels.isSome {k : κ} {kvs : List (κ × Value)} {l : List (κ × AVal)} (r : IRels X h loc N kvs l) : (valueAt kvs k).isSome = (Mine.getK k l).isSome := by
  cases e : Mine.getK k l with
  | none => rw [r.none e]; rfl
  | some a => refine e1a2 (r.getK e) fun v h1 _ => ?_; rw [h1]; rfl
theorem IRels.length {kvs : List (κ × Value)} {l : List (κ × AVal)} (r : IRels X h loc N kvs l) : kvs.length = l.length := by
  induction r with
  | nil => rfl
  | cons _ _ ih => simp [ih]
theorem IRels.keys {kvs : List (κ × Value)} {l : List (κ × AVal)} (r : IRels X h loc N kvs l) : kvs.map (·.1) = l.map (·.1) := by
  induction r with
  | nil => rfl
  | cons _ _ ih => simp [ih]
theorem stored_cons_ne {j k : κ} {u v : Value} {kvs : List (κ × Value)} (q : j ≠ k) : stored ((j, u) :: kvs) k v = (j, u) :: stored kvs k v := by
  unfold stored
  by_cases hh : (kvs.any fun kv => decide (kv.1 = k)) = true
  · simp [q, hh]
  · simp [q, hh]
theorem stored_cons_eq {k : κ} {u v : Value} {kvs : List (κ × Value)} (hn : k ∉ kvs.map (·.1)) : stored ((k, u) :: kvs) k v = (k, v) :: kvs := by
  unfold stored
  simp only [List.any_cons, decide_true, Bool.true_or, if_true, List.map_cons]
  rw [map_store_of_not_mem kvs k v hn]
theorem IRels.put {k : κ} {v : Value} {a : AVal} {kvs : List (κ × Value)} {l : List (κ × AVal)} (r : IRels X h loc N kvs l) (hn : (kvs.map (·.1)).Nodup) (hv : VRel X h loc N v a) : IRels X h loc N (stored kvs k v) (putK k a l) := by
  induction r with
  | nil => exact .cons hv .nil
  | @cons j u b kvs l rv r ih =>
    rw [List.map_cons, List.nodup_cons] at hn
    unfold putK
    by_cases q : j = k
    · subst q
      rw [if_pos rfl, stored_cons_eq hn.1]
      exact .cons hv r
    · rw [if_neg q, stored_cons_ne q]
      exact .cons rv (ih hn.2)
theorem IRels.del {k : κ} {kvs : List (κ × Value)} {l : List (κ × AVal)} (r : IRels X h loc N kvs l) : IRels X h loc N (without kvs k) (delK k l) := by
  induction r with
  | nil => exact .nil
  | @cons j u b kvs l rv r ih =>
    unfold without delK at *
    by_cases q : j = k
    · subst q; simpa using ih
    · simp only [List.filter_cons, ne_eq, q, not_false_eq_true, decide_true, if_true]
      exact .cons rv ih
theorem putK_keys {α : Type} {k : κ} {v : α} : ∀ {l : List (κ × α)}, (putK k v l).map (·.1) = if k ∈ l.map (·.1) then l.map (·.1) else l.map (·.1) ++ [k]
  | [] => rfl
  | (j, w) :: r => by
    unfold putK
    by_cases q : j = k
    · subst q; simp
    · rw [if_neg q, List.map_cons, putK_keys]
      have q' : k ≠ j := Ne.symm q
      by_cases hm : k ∈ r.map (·.1)
      · simp only [List.map_cons, List.mem_cons, hm, or_true, if_true]
      · simp only [List.map_cons, List.mem_cons, q', hm, or_self, if_false, List.cons_append]
theorem putK_nodup {α : Type} {k : κ} {v : α} {l : List (κ × α)} (hn : (l.map (·.1)).Nodup) : ((putK k v l).map (·.1)).Nodup := by
  rw [putK_keys]
  by_cases hm : k ∈ l.map (·.1)
  · rw [if_pos hm]; exact hn
  · rw [if_neg hm]
    exact List.nodup_append.mpr ⟨hn, by simp, fun a ha b hb => by
      rw [List.mem_singleton] at hb; subst hb
      exact fun q => hm (q ▸ ha)⟩

theorem VRels.get {vs : List Value} {l : List AVal} (r : VRels X h loc N vs l) : ∀ {i : Nat} {a : AVal}, l[i]? = some a → ∃ v, vs[i]? = some v ∧ VRel X h loc N v a := by
  induction l generalizing vs with
  | nil => intro i a e; simp at e
  | cons b l ih =>
    intro i a e
    cases r with
    | cons rv r =>
      cases i with
      | zero => simp only [List.getElem?_cons_zero, Option.some.injEq] at e; subst e; exact ⟨_, rfl, rv⟩
      | succ i => simp only [List.getElem?_cons_succ] at e ⊢; exact ih r e
theorem VRels.length {vs : List Value} {l : List AVal} (r : VRels X h loc N vs l) : vs.length = l.length := by
  induction l generalizing vs with
  | nil => cases r; rfl
  | cons b l ih => cases r with | cons rv r => simp [ih r]
theorem VRels.append {vs ws : List Value} {l m : List AVal} (r : VRels X h loc N vs l) (q : VRels X h loc N ws m) : VRels X h loc N (vs ++ ws) (l ++ m) := by
  induction l generalizing vs with
  | nil => cases r; exact q
  | cons b l ih => cases r with | cons rv r => exact .cons rv (ih r)
theorem VRels.set {vs : List Value} {l : List AVal} {v : Value} {a : AVal} (r : VRels X h loc N vs l) (hv : VRel X h loc N v a) (i : Nat) : VRels X h loc N (vs.set i v) (l.set i a) := by
  induction l generalizing vs i with
  | nil => cases r; exact .nil
  | cons b l ih =>
    cases r with
    | cons rv r =>
      cases i with
      | zero => exact .cons hv r
      | succ i => exact .cons rv (ih r i)
theorem VRels.take {vs : List Value} {l : List AVal} (r : VRels X h loc N vs l) (i : Nat) : VRels X h loc N (vs.take i) (l.take i) := by
  induction l generalizing vs i with
  | nil => cases r; simp; exact .nil
  | cons b l ih =>
    cases r with
    | cons rv r =>
      cases i with
      | zero => exact .nil
      | succ i => exact .cons rv (ih r i)
theorem VRels.dropLast {vs : List Value} {l : List AVal} (r : VRels X h loc N vs l) : VRels X h loc N vs.dropLast l.dropLast := by
  rw [List.dropLast_eq_take, List.dropLast_eq_take, r.length]; exact r.take _
theorem VRels.reverse {vs : List Value} {l : List AVal} (r : VRels X h loc N vs l) : VRels X h loc N vs.reverse l.reverse := by
  induction l generalizing vs with
  | nil => cases r; exact .nil
  | cons b l ih => cases r with | cons rv r => rw [List.reverse_cons, List.reverse_cons]; exact (ih r).append (.cons rv .nil)

theorem SRels.getL {x : Str} {a : AVal} {es : List DictEntry} {l : List (Str × AVal)} (r : SRels X h loc N es l) (e : Mine.getK x l = some a) : ∃ v, getL x es = some (some v) ∧ VRel X h loc N v a := by
  induction r with
  | nil => o_facts e
  | @cons y t v b es l rv _ ih =>
    rw [getK_cons] at e
    by_cases q : y = x
    · subst q
      rw [if_pos rfl] at e
      o_facts e
      exact ⟨v, by simp [PySem.W.getL, Value.isStr], rv⟩
    · rw [if_neg q] at e
      refine e1a2 (ih e) fun u h1 h2 => ?_
      refine ⟨u, ?_, h2⟩
      unfold PySem.W.getL at h1 ⊢
      have q2 : (y == x) = false := by simp [q]
      have q3 : (Value.str y t).isStr x = false := q2
      rw [List.find?_cons]
      simp only [q3]
      split at h1
      · rename_i e' he; rw [he]; exact h1
      · exfalso; split at h1 <;> o_facts h1
theorem SRels.noRef {es : List DictEntry} {l : List (Str × AVal)} (r : SRels X h loc N es l) : es.any (·.refKey) = false := by
  induction r with
  | nil => rfl
  | cons _ _ ih => rw [List.any_cons, ih]; rfl
theorem SRels.getSome {x : Str} {es : List DictEntry} {l : List (Str × AVal)} (r : SRels X h loc N es l) : (PySem.W.getL x es).isSome = true := by
  unfold PySem.W.getL
  split
  · rfl
  · rw [r.noRef]; rfl
theorem SRels.put {x : Str} {t : Tok} {v : Value} {a : AVal} {es : List DictEntry} {l : List (Str × AVal)} (r : SRels X h loc N es l) (hv : VRel X h loc N v a) :
    SRels X h loc N (putL x (PyData.keyHash X.w.params x) (.str x t) v es) (putK x a l) := by
  induction r with
  | nil => exact .cons hv .nil
  | @cons y u w b es l rv r ih =>
    unfold putL putK
    by_cases q : y = x
    · subst q
      simp only [Value.isStr, beq_self_eq_true, if_true]
      exact .cons hv r
    · have q2 : (y == x) = false := by simp [q]
      simp only [Value.isStr, q2, Bool.false_eq_true, if_false, q]
      exact .cons rv ih
theorem VRel.handed {v : Value} {a : AVal} (r : VRel X h loc N v a) : handedIn v = true := r.K rfl (fun _ => rfl) (fun _ _ => rfl) (fun _ _ => rfl) (fun _ _ _ _ => rfl) (fun _ => rfl) (fun _ _ _ => rfl)
theorem VRel.notElse {v : Value} {a : AVal} (r : VRel X h loc N v a) : ∀ i, v ≠ .builtin i := by intro i e; subst e; cases r
end
end
/-! AS4 -/
section
set_option autoImplicit false
set_option maxRecDepth 100000
open PySem PySem.W PyProof.Rows PySem.Calls

noncomputable def builtinsTab : List (Str × Value) := [("len", .builtin "len"), ("sum", .builtin "sum"), ("sorted", .builtin "sorted"), ("list", .type "list"), ("range", .type "range"), ("enumerate", .type "enumerate"), ("reversed", .type "reversed")]

structure StaticOK (X : Cx) : Prop where
  nolimit : X.h0.NoLimit
  g : X.h0.Ns mainGlobals X.mg
  b : X.h0.Ns builtinsNs X.mb
  bl : ∀ f v, (f, v) ∈ builtinsTab → X.mg f = none ∧ X.mb f = some v
  kin : X.K.In X.h0
  fn : ∀ f, userNames.contains f = true → ∃ fv, X.mg f = some fv ∧ keepIn X.K fv = true
  cls : ∀ c C, X.cls c = some C → ∀ x, x ∈ attrsOf c → plainGet X.K C x = true ∧ hasDictIn X.K C = true ∧ (∃ attr, findIn X.K (.ref C) x = some attr ∧ noGet X.K attr = true) ∧
    takerIn X.K C x = some none ∧ findIn X.K (.ref C) "__setattr__" = some (some (.builtin "object.__setattr__")) ∧ plainOver X.K C = true

section
variable {X : Cx} {A : Around} {E : Value → Shared → Prop} {s : Shared} {loc : Nat → Addr} {st st' : ASt}

theorem OK.notSys (G : OK X s loc st) {id : Nat} {l : List (Int × AVal)} (h : id < st.next) (hd : (st.get id).data = .idict l) : (loc id == sysModules) = false := by
  have R := G.rel id h
  rw [hd] at R
  obtain ⟨_, ⟨_, ns⟩, _⟩ := R
  simpa using ns
/- what comes new is no table of modules -/
theorem OK.size_ne (G : OK X s loc st) (Z : StaticOK X) : s.heap.objs.size ≠ sysModules := by
  refine e3a2 (Z.g) fun o _ _ ho _ => ?_
  have h1 := Heap.lt_size (G.base _ _ ho)
  have h2 : sysModules < mainGlobals := by decide
  exact Nat.ne_of_gt (Nat.lt_trans h2 h1)
theorem OK.kin (G : OK X s loc st) (Z : StaticOK X) : X.K.In s.heap := fun a o e => G.base _ _ (Z.kin a o e)

/-! what == looks at -/
theorem reads_all_of {n : Nat} (ih : ∀ {v : Value} {a : AVal} {d : PyData}, VRel X s.heap loc st.next v a → dataOf st n a = some d → ∃ as, Reads s.heap v d as) : ∀ {vs : List Value} {l : List AVal} {ds : List PyData}, VRels X s.heap loc st.next vs l → l.mapM (dataOf st n) = some ds → ∃ as, ReadsAll s.heap vs ds as
  | [], _, ds, hr, e => by
    o_facts hr
    simp only [List.mapM_nil, Option.pure_def, Option.some.injEq] at e
    subst e
    exact ⟨_, .nil⟩
  | v :: vs, a :: l, ds, hr, e => by
    cases hr with
    | cons rv r =>
      simp only [List.mapM_cons, Option.pure_def, Option.bind_eq_bind, Option.bind_eq_some_iff] at e
      obtain ⟨d, h1, ds', h2, h3⟩ := e
      o_facts h3
      refine e1a1 (ih rv h1) fun as ra => ?_
      refine e1a1 (reads_all_of ih r h2) fun bs rb => ?_
      exact ⟨_, .cons ra rb⟩
  | v :: vs, [], ds, hr, e => by o_facts hr
theorem reads_of (G : OK X s loc st) (n : Nat) {v : Value} {a : AVal} {d : PyData} (r : VRel X s.heap loc st.next v a) (e : dataOf st n a = some d) : ∃ as, Reads s.heap v d as := by
  induction n generalizing v a d with
  | zero =>
    cases r with
    | none => o_facts e; exact ⟨_, .none⟩
    | bool b => o_facts e; exact ⟨_, .bool b⟩
    | int i t => o_facts e; exact ⟨_, .int i t⟩
    | str x t => o_facts e; exact ⟨_, .str x t⟩
    | _ => o_facts e
  | succ n ih =>
    cases r with
    | none => o_facts e; exact ⟨_, .none⟩
    | bool b => o_facts e; exact ⟨_, .bool b⟩
    | int i t => o_facts e; exact ⟨_, .int i t⟩
    | str x t => o_facts e; exact ⟨_, .str x t⟩
    | tup he hc hd hr =>
      refine e1a2 (Option.map_eq_some_iff.mp e) fun xs hx e2_ => ?_; subst e2_
      refine e1a1 (reads_all_of ih hr hx) fun as ra => ?_
      exact ⟨as, .tuple he hc hd ra⟩
    | @obj id hid =>
      have R := G.rel id hid
      have e : (if id < st.next then match (st.get id).data with | .list l => (l.mapM (dataOf st n)).map PyData.list | _ => none else none) = some d := e
      rw [if_pos hid] at e
      generalize (st.get id).data = dt at e R
      cases dt with
      | list l =>
        refine e2a2 (R) fun vs k hh hr => ?_
        refine e1a2 (Option.map_eq_some_iff.mp e) fun xs hx e2_ => ?_; subst e2_
        refine e1a1 (reads_all_of ih hr hx) fun as ra => ?_
        exact ⟨_, .list hh rfl rfl ra⟩
      | _ => o_facts e
    | inst _ _ _ => o_facts e
end

theorem depthAll_le {n : Nat} : ∀ {ds : List PyData}, (∀ d ∈ ds, d.depth ≤ n) → PyData.depthAll ds ≤ n
  | [], _ => Nat.zero_le _
  | d :: ds, h => by
    rw [PyData.depthAll]
    exact Nat.max_le.mpr ⟨h d (by simp), depthAll_le fun x hx => h x (by simp [hx])⟩
theorem mapM_mem {α β : Type} {f : α → Option β} : ∀ {l : List α} {ds : List β}, l.mapM f = some ds → ∀ d ∈ ds, ∃ a ∈ l, f a = some d
  | [], ds, e, d, hd => by
    simp only [List.mapM_nil, Option.pure_def, Option.some.injEq] at e
    subst e; o_facts hd
  | a :: l, ds, e, d, hd => by
    simp only [List.mapM_cons, Option.pure_def, Option.bind_eq_bind, Option.bind_eq_some_iff] at e
    obtain ⟨x, h1, ds', h2, h3⟩ := e
    o_facts h3
    rcases List.mem_cons.mp hd with rfl | hd
    · exact ⟨a, by simp, h1⟩
    · refine e1a2 (mapM_mem h2 d hd) fun b hb hf => ?_
      exact ⟨b, by simp [hb], hf⟩
theorem depth_dataOf (st : ASt) : ∀ (n : Nat) {a : AVal} {d : PyData}, dataOf st n a = some d → d.depth ≤ n
  | n, .none, d, e => by cases n <;> (o_facts e; exact Nat.zero_le _)
  | n, .bool b, d, e => by cases n <;> (o_facts e; exact Nat.zero_le _)
  | n, .int i, d, e => by cases n <;> (o_facts e; exact Nat.zero_le _)
  | n, .str x, d, e => by cases n <;> (o_facts e; exact Nat.zero_le _)
  | 0, .tup _, _, e => by o_facts e
  | 0, .obj _, _, e => by o_facts e
  | n, .inst .., _, e => by cases n <;> o_facts e
  | n + 1, .tup l, d, e => by
    refine e1a2 (Option.map_eq_some_iff.mp e) fun xs hx e2_ => ?_; subst e2_
    rw [PyData.depth]
    exact Nat.succ_le_succ (depthAll_le fun d hd => by refine e1a2 (mapM_mem hx d hd) fun a _ ha => ?_; exact depth_dataOf st n ha)
  | n + 1, .obj id, d, e => by
    have e : (if id < st.next then match (st.get id).data with | .list l => (l.mapM (dataOf st n)).map PyData.list | _ => none else none) = some d := e
    split at e
    · generalize (st.get id).data = dt at e
      cases dt with
      | list l =>
        refine e1a2 (Option.map_eq_some_iff.mp e) fun xs hx e2_ => ?_; subst e2_
        rw [PyData.depth]
        exact Nat.succ_le_succ (depthAll_le fun d hd => by refine e1a2 (mapM_mem hx d hd) fun a _ ha => ?_; exact depth_dataOf st n ha)
      | _ => o_facts e
    · o_facts e

section
variable {X : Cx} {A : Around} {E : Value → Shared → Prop} {s : Shared} {loc : Nat → Addr} {st : ASt} {va vb : Value} {a b : AVal} {P : Bool → ASt → Prop}

theorem OK.listAt {id : Nat} {l : List AVal} (G : OK X s loc st) (hid : id < st.next) (hd : (st.get id).data = .list l) : ∃ vs m, s.heap.get? (loc id) = some ⟨.type "list", none, .seq (List.toArray vs) m, #[]⟩ ∧ VRels X s.heap loc st.next vs l := by
  have R := G.rel id hid; rw [hd] at R; exact R
section
variable {C : Prop} {D : Value → Prop} {h : Heap} {N : Nat} {α : Type} {v : Value}
@[elab_as_elim] theorem objK {P : Nat → ASt → Prop} (ha : asObj a st P) (r : VRel X h loc N v a) (k : ∀ id, id < N → P id st → D (.ref (loc id))) : D v := by
  revert ha
  exact r.K False.elim (fun _ => False.elim) (fun _ _ => False.elim) (fun _ _ => False.elim) (fun _ _ _ _ => False.elim) (fun hi => k _ hi) (fun _ _ _ => False.elim)
@[elab_as_elim] theorem intK {P : Int → ASt → Prop} (ha : asInt a st P) (r : VRel X h loc N v a) (k : ∀ i t, P i st → D (.int i t)) : D v := by
  revert ha
  exact r.K False.elim (fun _ => False.elim) k (fun _ _ => False.elim) (fun _ _ _ _ => False.elim) (fun _ => False.elim) (fun _ _ _ => False.elim)
theorem OK.rdLK' {id : Nat} {P : List AVal → ASt → Prop} (G : OK X s loc st) (h : rdL id st P) (k : ∀ l vs m, s.heap.get? (loc id) = some ⟨.type "list", none, .seq (List.toArray vs) m, #[]⟩ → VRels X s.heap loc st.next vs l → P l st → (∀ K, rdL id st K → K l st) → C) : C := by
  unfold rdL at h
  obtain ⟨l, ⟨hid, hd⟩, h⟩ := h
  refine e2a2 (G.listAt hid hd) fun vs m hh hr => ?_
  refine k l vs m hh hr h fun K h => ?_
  unfold rdL at h
  obtain ⟨l', ⟨_, hd'⟩, h⟩ := h
  rw [hd] at hd'
  cases hd'
  exact h
theorem OK.rdLK {id : Nat} {P : List AVal → ASt → Prop} (G : OK X s loc st) (h : rdL id st P) (k : ∀ l vs m, s.heap.get? (loc id) = some ⟨.type "list", none, .seq (List.toArray vs) m, #[]⟩ → VRels X s.heap loc st.next vs l → P l st → C) : C :=
  G.rdLK' h fun l vs m hh hr h _ => k l vs m hh hr h
theorem OK.rdIK {id : Nat} {P : List (Int × AVal) → ASt → Prop} (G : OK X s loc st) (h : rdI id st P) (k : ∀ l kvs, s.heap.DictOf (intKind PW X.w) (loc id) kvs → loc id ≠ sysModules → IRels X s.heap loc st.next kvs l → P l st → C) : C := by
  unfold rdI at h
  obtain ⟨l, ⟨hid, hd⟩, h⟩ := h
  have R := G.rel id hid
  rw [hd] at R
  obtain ⟨kvs, ⟨hk, hn⟩, hr⟩ := R
  exact k l kvs hk hn hr h
theorem OK.rdSK {id : Nat} {P : List (Str × AVal) → ASt → Prop} (G : OK X s loc st) (h : rdS id st P) (k : ∀ l es m, (l.map (·.1)).Nodup → s.heap.get? (loc id) = some (dictOf es m) → SRels X s.heap loc st.next es l → P l st → C) : C := by
  unfold rdS at h
  obtain ⟨l, ⟨hid, hd⟩, h⟩ := h
  have R := G.rel id hid
  rw [hd] at R
  obtain ⟨nd, es, m, hh, hr⟩ := R
  exact k l es m nd hh hr h
theorem notSysB {a : Addr} (h : a ≠ sysModules) : (a == sysModules) = false := by simpa using h
end

theorem aeq_snd (h : aeq a b st P) (G : OK X s loc st) (ra : VRel X s.heap loc st.next va a) (rb : VRel X s.heap loc st.next vb b) :
    ∃ da db as bs, Reads s.heap va da as ∧ Reads s.heap vb db bs ∧ da.canLay0 = true ∧ db.canLay0 = true ∧ da.depth ≤ 8 ∧ P (PyData.eqv da db) st := by
  refine e2a4 (h) fun da db hda hdb hc h => ?_
  refine e0a2 (Bool.and_eq_true_iff.mp hc) fun c1 c2 => ?_
  refine e1a1 (reads_of G 8 ra hda) fun as r1 => ?_
  refine e1a1 (reads_of G 8 rb hdb) fun bs r2 => ?_
  exact ⟨da, db, as, bs, r1, r2, c1, c2, depth_dataOf st 8 hda, h⟩

theorem truth_snd {Q : Bool → Shared → Prop} (h : truth a st P) (G : OK X s loc st) (ra : VRel X s.heap loc st.next va a) (T : ∀ b s', P b st → Tr a b st → OK X s' loc st → Ext NoW s loc st s' loc st → Q b s') :
    wpAny (model PW X.w) A (truthy va) Q E s := by
  revert h T
  refine ra.K (fun h => h.elim) (fun b h T => wpAny_truthy_bool (T b s h (fun _ h => h) G (.refl ..))) (fun _ _ h => h.elim) (fun _ _ h => h.elim) (fun _ _ _ _ h => h.elim) (fun hid h T => ?_) (fun _ _ _ h => h.elim)
  · refine opq fun g hg => G.rdLK' h.out fun l vs k hh hr h same => hg (req_K h fun hle h => ?_)
    have e := hr.length
    refine wpAny_truthy_list (items := vs.toArray) ⟨_, hh, rfl, k, rfl⟩ (by simp only [List.size_toArray]; lia -abstractProof) ?_
    have e : (!vs.toArray.isEmpty) = (!l.isEmpty) := by
      cases vs <;> cases l <;> first | rfl | simp at e
    rw [e]
    exact T _ _ h (fun K h => req_K (same _ h.out) fun _ h => h) G.tok.1 G.tok.2
end
end
/-! AS5 -/
section
set_option autoImplicit false
set_option maxRecDepth 100000
open PySem PySem.W PyProof.Rows PySem.Calls

theorem isTup_of {h : Heap} {a : Addr} {vs : List Value} {n : Nat} (e : h.get? a = some ⟨.type "tuple", none, .seq vs.toArray n, #[]⟩) : IsTup h a vs.toArray := ⟨_, e, rfl, n, rfl⟩
theorem isList_of {h : Heap} {a : Addr} {vs : List Value} {n : Nat} (e : h.get? a = some ⟨.type "list", none, .seq vs.toArray n, #[]⟩) : h.IsList a vs.toArray := ⟨_, e, rfl, n, rfl⟩
theorem million : 1000000 ≤ sizeLine := by rw [sizeLine_eq]; decide

section
variable {X : Cx} {A : Around} {E : Value → Shared → Prop} {s : Shared} {loc : Nat → Addr} {st : ASt} {vo vi vv : Value} {o i a b : AVal} {n : Nat}

theorem SRels.mapOf {h : Heap} {N : Nat} {id : Addr} {es : List DictEntry} {k : Nat} {l : List (Str × AVal)} (r : SRels X h loc N es l) (e : h.get? id = some (dictOf es k)) :
    h.MapOf (strKind PW X.w) id (fun x => (PySem.W.getL x es).join) := by
  refine ⟨_, es.toArray, k, e, ⟨rfl, rfl, rfl⟩, rfl, fun en he => ?_, fun x => ?_⟩
  · have : ∀ en ∈ es, ∃ x t, en.key = .str x t ∧ en.hash = PyData.keyHash X.w.params x := by
      clear e he
      induction r with
      | nil => intro en h; o_facts h
      | cons _ _ ih =>
        intro en h
        rcases List.mem_cons.mp h with rfl | h
        · exact ⟨_, _, rfl, rfl⟩
        · exact ih en h
    refine e2a2 (this en (by simpa using he)) fun x t h1 h2 => ?_
    exact ⟨x, by rw [h1]; exact strKind_is PW X.w x t, h2⟩
  · have q : (fun d : DictEntry => (strKind PW X.w).is x d.key) = fun d => d.key.isStr x := funext fun d => (isStr_of x d.key).symm
    unfold findBy PySem.W.getL
    rw [List.find?_toArray, q]
    show _ = (match es.find? (fun d : DictEntry => d.key.isStr x) with | some e => some (some e.val) | none => if (es.any (·.refKey)) = true then none else some none).join
    rw [r.noRef]
    cases h' : es.find? (fun d => d.key.isStr x) with
    | none => rfl
    | some e' => rfl

theorem SRels.pairs {h : Heap} {N : Nat} {es : List DictEntry} {l : List (Str × AVal)} (r : SRels X h loc N es l) : ∃ kvs, Pairs (strKind PW X.w) es kvs ∧ IRels X h loc N kvs l := by
  induction r with
  | nil => exact ⟨[], .nil, .nil⟩
  | @cons x t v b es l rv _ ih =>
    refine e1a2 (ih) fun kvs h1 h2 => ?_
    exact ⟨(x, v) :: kvs, .cons (strKind_is PW X.w x t) rfl h1, .cons rv h2⟩
theorem SRels.keysOf {h : Heap} {N : Nat} {es : List DictEntry} {l : List (Str × AVal)} (r : SRels X h loc N es l) : KeysOf (strKind PW X.w) es.toArray := by
  intro en he
  have : ∀ en ∈ es, ∃ x t, en.key = .str x t ∧ en.hash = PyData.keyHash X.w.params x := by
    clear he
    induction r with
    | nil => intro en h; o_facts h
    | cons _ _ ih =>
      intro en h
      rcases List.mem_cons.mp h with rfl | h
      · exact ⟨_, _, rfl, rfl⟩
      · exact ih en h
  refine e2a2 (this en (by simpa using he)) fun x t h1 h2 => ?_
  exact ⟨x, by rw [h1]; exact strKind_is PW X.w x t, h2⟩
theorem SRels.dictOf {h : Heap} {N : Nat} {id : Addr} {es : List DictEntry} {k : Nat} {l : List (Str × AVal)} (r : SRels X h loc N es l) (hn : (l.map (·.1)).Nodup) (e : h.get? id = some (dictOf es k)) :
    ∃ kvs, h.DictOf (strKind PW X.w) id kvs ∧ IRels X h loc N kvs l := by
  refine e1a2 (r.pairs) fun kvs h1 h2 => ?_
  exact ⟨kvs, ⟨_, es.toArray, k, e, ⟨rfl, rfl, rfl⟩, rfl, r.keysOf, by simpa using h1, by rw [h2.keys]; exact hn⟩, h2⟩
theorem SRels.of_pairs {h : Heap} {N : Nat} {l : List (Str × AVal)} {kvs : List (Str × Value)} : ∀ {es : List DictEntry}, Pairs (strKind PW X.w) es kvs → (∀ e ∈ es, ∃ k, (strKind PW X.w).is k e.key = true ∧ e.hash = (strKind PW X.w).hash k) → IRels X h loc N kvs l → SRels X h loc N es l := by
  intro es p
  induction p generalizing l with
  | nil => intro _ r; cases r; exact .nil
  | @cons e kv es kvs h1 h2 _ ih =>
    intro hk r
    cases r with
    | cons rv r =>
      obtain ⟨hs, ky, vl⟩ := e
      refine e1a1 (Value.isStrOf_shape h1) fun t e1_ => ?_; subst e1_
      refine e1a2 (hk _ (.head _)) fun k' h3 h4 => ?_
      have e3 := (strKind PW X.w).inj _ _ _ h3 h1
      dsimp only at h2 h4
      subst h2 h4 e3
      exact .cons rv (ih (fun e he => hk e (.tail _ he)) r)
theorem DictOf.sRels {h : Heap} {N : Nat} {id : Addr} {l : List (Str × AVal)} {kvs : List (Str × Value)} (x : h.DictOf (strKind PW X.w) id kvs) (r : IRels X h loc N kvs l) :
    (l.map (·.1)).Nodup ∧ ∃ es n, h.get? id = some (dictOf es n) ∧ SRels X h loc N es l := by
  refine e3a6 (x) fun o es ep ho hx hd hk hp hn => ?_
  refine ⟨by rw [← r.keys]; exact hn, es.toList, ep, ?_, SRels.of_pairs hp (fun e he => hk e (by simpa using he)) r⟩
  obtain ⟨c, d, dt, sl⟩ := o
  refine e0a3 (hx) fun e1 e2 e3 => ?_
  dsimp only at e1 e2 e3 hd
  subst e1 e2 e3 hd
  simpa using ho

/- a list's item stored -/
theorem setItem_exact {l : Addr} {vs : List Value} {m : Nat} {k : Int} {t : Tok} {v : Value} {Q : Unit → Shared → Prop} (he : s.heap.get? l = some ⟨.type "list", none, .seq vs.toArray m, #[]⟩)
    (h0 : 0 ≤ k) (hfit : k < 2 ^ 63) (hn : k < vs.length)
    (hQ : Q () { s with heap := s.heap.update l (Obj.mapSeq (·.setIfInBounds k.toNat v)) }) : wpAny (model PW X.w) A (setItem (.ref l) (.int k t) v) Q E s := by
  have hl : s.heap.IsList l vs.toArray := ⟨_, he, rfl, m, rfl⟩
  unfold setItem
  refine wpAny_holding ?_
  refine wpAny_bind (wpAny_sequenceKey hl.typeIs (by decide) ?_)
  refine wpAny_bind (wpAny_callSpecial?_slot (name := Str.ofString "__setitem__") hl.typeIs slot_list_setitem (wpAny_call_entry slot_list_setitem hl.typeIs entry_list_setitem ?_ (args_list_setitem _ _ _)))
  show wpAny _ _ (Builtin.List.listSubscript? (.int k t) >>= _) _ _ s
  refine wpAny_bind (wpAny_listSubscript_int (fitsIndex_of h0 hfit) ?_)
  clear hfit
  refine e1a1 (Int.eq_ofNat_of_zero_le h0) fun j e1_ => ?_; subst e1_
  have hj : j < vs.toArray.size := by simp only [List.size_toArray]; lia -abstractProof
  show wpAny _ _ ((seqItemAt l j >>= fun r => pure (r.map (j, ·))) >>= _) _ _ s
  refine wpAny_bind (wpAny_bind (wpAny_seqItemAt he rfl (wpAny_pure ?_)))
  rw [Array.getElem?_eq_getElem hj]
  show wpAny _ _ (setSeqItemAt l j v >>= _) _ _ s
  refine wpAny_bind (wpAny_setSeqItemAt he rfl ?_)
  first
    | exact wpAny_bind (wpAny_pure (wpAny_pure ⟨.none, rfl, wpAny_pure hQ⟩))
    | exact wpAny_pure ⟨.none, rfl, wpAny_pure hQ⟩

theorem itemL_snd {P : AVal → ASt → Prop} {Q : Value → Shared → Prop} {id : Nat} {k : Int} {t : Tok} (h : itemL id k st P) (G : OK X s loc st) (T : Then X s loc st P Q) : wpAny (model PW X.w) A (getItem (.ref (loc id)) (.int k t)) Q E s := by
  refine opq fun g hg => G.rdLK h fun l vs m hh hr h => req_K h fun hb h => the_K h fun v hx h => (hr.get hx).elim fun u hu => hg ?_
  exact wpAny_getItem_list (isList_of hh) hb.1 (by lia -abstractProof) (by simpa using hu.1) (T.here h G hu.2)
theorem itemI_snd {P : AVal → ASt → Prop} {Q : Value → Shared → Prop} {id : Nat} {k : Int} {t : Tok} (h : itemI id k st P) (G : OK X s loc st) (T : Then X s loc st P Q) : wpAny (model PW X.w) A (getItem (.ref (loc id)) (.int k t)) Q E s := by
  refine opq fun g hg => G.rdIK h fun l kvs hk _ hr h => the_K h fun v hx h => (hr.getK hx).elim fun u hu => hg ?_
  exact wpAny_getItem_of (intKind_is PW X.w k t) hk.mapOf hu.1 (T.tok h G hu.2)
theorem itemS_snd {P : AVal → ASt → Prop} {Q : Value → Shared → Prop} {id : Nat} {x : Str} {t : Tok} (h : rdS id st fun l st => the (getK x l) ret st P) (G : OK X s loc st) (T : Then X s loc st P Q) : wpAny (model PW X.w) A (getItem (.ref (loc id)) (.str x t)) Q E s := by
  refine opq fun g hg => G.rdSK h fun l es m _ hh hr h => the_K h fun v hx h => (hr.getL hx).elim fun u hu => hg ?_
  exact wpAny_getItem_of (strKind_is PW X.w x t) (hr.mapOf hh) (by show (PySem.W.getL x es).join = some u; rw [hu.1]; rfl) (T.tok h G hu.2)
theorem itemT_snd {P : AVal → ASt → Prop} {Q : Value → Shared → Prop} {l : List AVal} (h : asInt i st fun k st => req (0 ≤ k ∧ k < 1000) (the l[k.toNat]? ret) st P) (G : OK X s loc st) {ad : Addr} {ob : Obj} {vs : List Value} {m : Nat} (he : s.heap.get? ad = some ob) (htc : ob.cls = .type "tuple") (htd : ob.data = .seq vs.toArray m) (hr : VRels X s.heap loc st.next vs l)
    (ri : VRel X s.heap loc st.next vi i) (T : Then X s loc st P Q) : wpAny (model PW X.w) A (getItem (.ref ad) vi) Q E s := by
  refine intK h ri fun k t h => opq fun g hg => req_K h fun hb h => the_K h fun v hx h => (hr.get hx).elim fun u hu => hg ?_
  have hlt := (List.getElem?_eq_some_iff.mp hu.1).1
  refine PyProof.Rows.getItem_tuple ⟨_, he, htc, m, htd⟩ (by lia -abstractProof) (by lia -abstractProof) (j := k.toNat) ?_ (by simpa using hu.1) (T.here h G hu.2)
  have c : (decide (0 ≤ k) && decide (k < (vs.toArray.size : Int))) = true := by
    simp only [Bool.and_eq_true, decide_eq_true_eq, List.size_toArray]; lia -abstractProof
  unfold seqIndex?
  simp only [if_neg (show ¬ k < 0 by lia -abstractProof), c, if_true]
theorem itemGet_snd {P : AVal → ASt → Prop} {Q : Value → Shared → Prop} (h : itemGet o i st P) (G : OK X s loc st) (ro : VRel X s.heap loc st.next vo o) (ri : VRel X s.heap loc st.next vi i) (T : Then X s loc st P Q) :
    wpAny (model PW X.w) A (getItem vo vi) Q E s := by
  revert h
  exact ro.K False.elim (fun _ => False.elim) (fun _ _ => False.elim) (fun _ _ => False.elim) (fun he htc htd hr h => itemT_snd h G he htc htd hr ri T) (fun hid => ri.K False.elim (fun _ => False.elim) (fun k t h => h.elim (fun h => itemL_snd h G T) fun h => itemI_snd h G T) (fun x t h => itemS_snd h G T)
    (fun _ _ _ _ => False.elim) (fun _ => False.elim) (fun _ _ _ => False.elim)) (fun _ _ _ => False.elim)

theorem DictOf.nodup {h : Heap} {a : Addr} {kvs : List (Int × Value)} (x : h.DictOf (intKind PW X.w) a kvs) : (kvs.map (·.1)).Nodup := by
  refine e3a6 (x) fun _ _ _ _ _ _ _ _ hn => ?_; exact hn

/- what a store into the object id leaves -/
theorem put_done {id : Nat} {d : AData} {h' : Heap} {tk : Tok} {P : Unit → ASt → Prop} {Q : Unit → Shared → Prop} (G : OK X s loc st) (hid : id < st.next) (hs : Heap.SameBut (loc id) s.heap h') (hr : ORel X h' loc st.next (loc id) d) (h : P () (st.put id d)) (T : ThenU X s loc st P Q) : Q () { s with heap := h', toks := tk } :=
  have p := G.put (t := tk) hid (fun b o hb e => hs.extBut b o hb e) hr
  T _ _ loc h p.1 p.2
theorem put_imm {id : Nat} {h' : Heap} (G : OK X s loc st) (hid : id < st.next) (hs : Heap.SameBut (loc id) s.heap h') : ∀ b o, s.heap.get? b = some o → Imm o = true → h'.get? b = some o := fun b o e hi => by
  refine e1a2 ((G.rel _ hid).live) fun ox hox hoi => ?_
  exact hs.extBut b o (fun q => by rw [q, hox] at e; o_facts e; rw [hoi] at hi; o_facts hi) e

theorem setL_snd {P : Unit → ASt → Prop} {Q : Unit → Shared → Prop} {id : Nat} {k : Int} {t : Tok} (h : setL id k a st P) (G : OK X s loc st) (hid : id < st.next) (ra : VRel X s.heap loc st.next vv a) (T : ThenU X s loc st P Q) : wpAny (model PW X.w) A (setItem (.ref (loc id)) (.int k t) vv) Q E s := by
  refine opq fun g hg => G.rdLK h fun l vs m hh hr h => req_K h fun hb h => hg ?_
  have hlen := hr.length
  refine setItem_exact hh hb.1 (by lia -abstractProof) (by lia -abstractProof) ?_
  have hs := Heap.SameBut.update s.heap (loc id) (Obj.mapSeq (·.setIfInBounds k.toNat vv))
  have e1 := Heap.get?_update_self (Obj.mapSeq (·.setIfInBounds k.toNat vv)) hh rfl
  simp only [Obj.mapSeq, List.setIfInBounds_toArray] at e1
  have imm := put_imm G hid hs
  exact put_done G hid hs (d := .list (l.set k.toNat a)) ⟨vs.set k.toNat vv, _, e1, VRels.set (hr.mono imm (fun _ _ => rfl) (Nat.le_refl _)) (ra.mono imm (fun _ _ => rfl) (Nat.le_refl _)) _⟩ (putD_K h) T
theorem setI_snd {P : Unit → ASt → Prop} {Q : Unit → Shared → Prop} {id : Nat} {k : Int} {t : Tok} (h : setI id k a st P) (G : OK X s loc st) (hid : id < st.next) (ra : VRel X s.heap loc st.next vv a) (T : ThenU X s loc st P Q) : wpAny (model PW X.w) A (setItem (.ref (loc id)) (.int k t) vv) Q E s := by
  refine opq fun g hg => G.rdIK h fun l kvs hk hns hr h => req_K h fun hb h => hg ?_
  refine wpAny_setItem_pairs (intKind_is PW X.w k t) hk (fun h' hk' hs => ?_) (by rw [hr.length]; exact Nat.le_trans hb million)
  have imm := put_imm G hid hs
  exact put_done G hid hs (d := .idict (putK k a l)) ⟨_, ⟨hk', hns⟩, IRels.put (hr.mono imm (fun _ _ => rfl) (Nat.le_refl _)) (DictOf.nodup hk) (ra.mono imm (fun _ _ => rfl) (Nat.le_refl _))⟩ (putD_K h) T
theorem setS_snd {P : Unit → ASt → Prop} {Q : Unit → Shared → Prop} {id : Nat} {x : Str} {t : Tok} (h : rdS id st fun l st => req (l.length ≤ 100) (putD id (.sdict (putK x a l))) st P) (G : OK X s loc st) (hid : id < st.next) (ra : VRel X s.heap loc st.next vv a) (T : ThenU X s loc st P Q) : wpAny (model PW X.w) A (setItem (.ref (loc id)) (.str x t) vv) Q E s := by
  refine opq fun g hg => G.rdSK h fun l es m nd hh hr h => req_K h fun hb h => (SRels.dictOf hr nd hh).elim fun kvs hk => hg ?_
  refine wpAny_setItem_pairs (strKind_is PW X.w x t) hk.1 (fun h' hk' hs => ?_) (by rw [hk.2.length]; exact Nat.le_trans (by lia -abstractProof) million)
  have imm := put_imm G hid hs
  have q := IRels.put (k := x) (hk.2.mono imm (fun _ _ => rfl) (Nat.le_refl _)) (by rw [hk.2.keys]; exact nd) (ra.mono imm (fun _ _ => rfl) (Nat.le_refl _))
  exact put_done G hid hs (d := .sdict (putK x a l)) (DictOf.sRels hk' q) (putD_K h) T
theorem itemSet_snd {P : Unit → ASt → Prop} {Q : Unit → Shared → Prop} (h : itemSet o i a st P) (G : OK X s loc st) (ro : VRel X s.heap loc st.next vo o) (ri : VRel X s.heap loc st.next vi i) (ra : VRel X s.heap loc st.next vv a)
    (T : ThenU X s loc st P Q) : wpAny (model PW X.w) A (setItem vo vi vv) Q E s := by
  refine objK h ro fun id hid h => ?_
  revert h
  exact ri.K False.elim (fun _ => False.elim) (fun k t h => h.elim (fun h => setL_snd h G hid ra T) fun h => setI_snd h G hid ra T) (fun x t h => setS_snd h G hid ra T) (fun _ _ _ _ => False.elim) (fun _ => False.elim) (fun _ _ _ => False.elim)

theorem delItem_dict {d : Addr} {kvs : List (Int × Value)} {k : Int} {key : Value} {Q : Unit → Shared → Prop} (hkey : (intKind PW X.w).is k key = true) (hd : s.heap.DictOf (intKind PW X.w) d kvs) (hz : kvs.length ≤ sizeLine)
    (hv : (valueAt kvs k).isSome = true) (hQ : ∀ h', h'.DictOf (intKind PW X.w) d (without kvs k) → Heap.SameBut d s.heap h' → Q () { s with heap := h', toks := s.toks + 1 }) :
    wpAny (model PW X.w) A (delItem (.ref d) key) Q E s :=
  wpAny_delItem_slot hd.typeIs (by decide) PySem.F.slot_dict_delitem
    (call_meetsIn PySem.F.slot_dict_delitem hd.typeIs PySem.F.entry_dict_delitem (PySem.F.args_dict_delitem_2 _ _) (meets_dict_delitem_pairs (intKind PW X.w) d hkey) ⟨kvs, hd, hz, hv, fun h' a b => hQ h' a b⟩)

theorem itemDel_snd {P : Unit → ASt → Prop} {Q : Unit → Shared → Prop} (h : itemDel o i st P) (G : OK X s loc st) (ro : VRel X s.heap loc st.next vo o) (ri : VRel X s.heap loc st.next vi i)
    (T : ThenU X s loc st P Q) : wpAny (model PW X.w) A (delItem vo vi) Q E s := by
  refine objK h ro fun id hid h => intK h ri fun k t h => opq fun g hg => G.rdIK h fun l kvs hk hns hr h => req_K h fun hb h => hg ?_
  refine delItem_dict (intKind_is PW X.w k t) hk (by rw [hr.length]; exact Nat.le_trans hb.2 million) (by rw [hr.isSome]; exact hb.1) fun h' hk' hs => ?_
  exact put_done G hid hs (d := .idict (delK k l)) ⟨_, ⟨hk', hns⟩, IRels.del (hr.mono (put_imm G hid hs) (fun _ _ => rfl) (Nat.le_refl _))⟩ (putD_K h) T

theorem inst_at {Z : StaticOK X} {id : Nat} {C : Addr} {va : Addr} {es : List DictEntry} {m : Nat} (e : s.heap.get? va = some (instObj C (loc id))) (hh : s.heap.get? (loc id) = some (dictOf es m)) :
    InstAt s.heap va (instObj C (loc id)) C (some (dictOf es m)) := ⟨e, rfl, rfl, hh⟩

theorem attrGet_snd {P : AVal → ASt → Prop} {Q : Value → Shared → Prop} {x : Str} {expr : Bool} (Z : StaticOK X) (h : attrGet o x st P) (G : OK X s loc st) (ro : VRel X s.heap loc st.next vo o) (T : Then X s loc st P Q) :
    wpAny (model PW X.w) A (getAttr vo x expr) Q E s := by
  revert h
  refine ro.K False.elim (fun _ => False.elim) (fun _ _ => False.elim) (fun _ _ => False.elim) (fun _ _ _ _ => False.elim) (fun _ => False.elim) (fun {c C va id} hid hc he h => ?_)
  · refine opq fun g hg => grd_K h fun hb h => G.rdSK h fun l es m _ hh hr h => the_K h fun v hx h => (hr.getL hx).elim fun u hu => hg ?_
    have z := Z.cls c C hc x (by simpa using hb)
    exact z.2.2.1.elim fun attr z' => get_value (G.kin Z) (inst_at (Z := Z) he hh) (plainGet_of z.1).1 (findObj_own z.2.1 z'.1 z'.2 hu.1) hu.2.handed (T.tok h G hu.2)

theorem SRels.len {h : Heap} {N : Nat} {es : List DictEntry} {l : List (Str × AVal)} (r : SRels X h loc N es l) : es.length = l.length := by
  induction r with
  | nil => rfl
  | cons _ _ ih => simp [ih]
theorem putK_len {x : Str} {l : List (Str × AVal)} : (putK x a l).length ≤ l.length + 1 := by
  have := congrArg List.length (putK_keys (k := x) (v := a) (l := l))
  simp only [List.length_map] at this
  rw [this]
  split <;> simp
theorem attrSet_snd {P : Unit → ASt → Prop} {Q : Unit → Shared → Prop} {x : Str} (Z : StaticOK X) (h : attrSet o x a st P) (G : OK X s loc st) (ro : VRel X s.heap loc st.next vo o) (ra : VRel X s.heap loc st.next vv a)
    (T : ThenU X s loc st P Q) : wpAny (model PW X.w) A (setAttr vo x vv) Q E s := by
  revert h
  refine ro.K False.elim (fun _ => False.elim) (fun _ _ => False.elim) (fun _ _ => False.elim) (fun _ _ _ _ => False.elim) (fun _ => False.elim) (fun {c C va id} hid hc he h => ?_)
  · refine opq fun g hg => grd_K h fun hb h => G.rdSK h fun l es m nd hh hr h => req_K h fun hz h => hg ?_
    have z := Z.cls c C hc x (by simpa using hb)
    have X' := G.kin Z
    refine set_plain X' (inst_at (Z := Z) he hh) z.2.2.2.2.1 ?_
    refine osa_open (s := { s with toks := s.toks + 1 }) X' (inst_at (Z := Z) he hh) z.2.2.2.2.2 z.2.2.2.1 fun b => ?_
    refine e1a2 (any_some z.2.1) fun cd hcd hd' => ?_
    refine wpAny_bind (wpAny_pure (wpAny_bind (wpAny_bind (wpAny_loadPart he (wpAny_bind ((looks_clsIn X' hcd).at ?_))))))
    rw [hd']
    refine wpAny_pure (a := some (loc id)) (wpAny_bind (wpAny_pure (wpAny_bind ?_)))
    unfold nsSet
    refine wpAny_bind (wpAny_bind (wpAny_askSetting (wpAny_pure (wpAny_bind (wpAny_mkText (wpAny_bind (wpAny_loadPart hh ?_)))))))
    have c : (!es.toArray.any (·.key.isStr x) && es.toArray.any (·.refKey)) = false := by
      rw [← Array.any_toList, ← Array.any_toList, hr.noRef, Bool.and_false]
    show wpAny _ _ (if aRefKeyMayBeTheName x es.toArray = true then _ else _) _ _ _
    rw [aRefKeyMayBeTheName_at, c, if_neg (by decide)]
    refine wpAny_updatePart hh ?_
    have e1 := Heap.get?_update_self (Obj.putName x (PyData.keyHash X.w.params x) (.str x (s.toks + 1)) vv) hh (by rw [putName_dict]; rfl)
    rw [putName_dict] at e1
    have hs := Heap.SameBut.update s.heap (loc id) (Obj.putName x (PyData.keyHash X.w.params x) (.str x (s.toks + 1)) vv)
    have imm := put_imm G hid hs
    have hr' := SRels.put (t := s.toks + 1) (x := x) (hr.mono imm (fun _ _ => rfl) (Nat.le_refl _)) (ra.mono imm (fun _ _ => rfl) (Nat.le_refl _))
    have hput := putK_len (x := x) (a := a) (l := l)
    refine wpAny_bind (wpAny_lookBehind e1 (pastItsLine_dict (by rw [List.size_toArray, hr'.len, sizeLine_eq]; lia -abstractProof)) ?_)
    exact wpAny_pure (put_done (s := s) (tk := s.toks + 1 + 1) G hid hs (d := .sdict (putK x a l)) ⟨putK_nodup nd, _, _, e1, hr'⟩ (putD_K h) T)
end
end
/-! AS6 -/
section
set_option autoImplicit false
set_option maxRecDepth 100000
open PySem PySem.W PyProof.Rows PySem.Calls

section
variable {X : Cx} {A : Around} {E : Value → Shared → Prop} {s : Shared} {loc : Nat → Addr} {st : ASt} {va vb : Value} {a b : AVal} {n : Nat}

theorem isNone_snd {h : Heap} {N : Nat} {P : Bool → ASt → Prop} (ha : isNone a st P) (ra : VRel X h loc N va a) : P (va == .none) st := by
  revert ha
  exact ra.K id (fun _ => False.elim) (fun _ _ => id) (fun _ _ => False.elim) (fun _ _ _ _ => False.elim) (fun _ => False.elim) (fun _ _ _ => id)
theorem noneE_of {h : Heap} {N : Nat} (ha : noneE a = true) (ra : VRel X h loc N va a) : va = .none := by
  revert ha
  exact ra.K (fun _ => rfl) (fun _ h => nomatch h) (fun _ _ h => nomatch h) (fun _ _ h => nomatch h) (fun _ _ _ _ h => nomatch h) (fun _ h => nomatch h) (fun _ _ _ h => nomatch h)
theorem isIn_snd {l : List AVal} {P : Bool → ASt → Prop} {Q : Value → Shared → Prop} (h : isIn a l st P) (Rm : Room A n) (G : OK X s loc st) (ra : VRel X s.heap loc st.next va a) (rb : VRel X s.heap loc st.next vb (.tup l)) (T : Then X s loc st (fun v st => ∃ c, v = .bool c ∧ P c st) Q) : wpAny (model PW X.w) A (compareOp .In va vb) Q E s := by
  refine opq fun g hg => h.elim fun xs h => h.elim fun d h => (Bool.and_eq_true_iff.mp h.2.2.1).elim fun c1 c2 => (reads_of G 8 rb h.1).elim fun as r1 => (reads_of G 8 ra h.2.1).elim fun bs r2 => hg ?_
  refine SeqAt.in_tuple_reads r1 r2 c1 c2 ?_ (T.here ⟨_, rfl, h.2.2.2⟩ G (.bool _))
  have h8 := depth_dataOf _ 8 h.2.1
  have := Rm.units
  have := Nat.min_le_right (PyData.depthAll xs) d.depth
  lia -abstractProof
/- a comparison's answer, as a value -/
abbrev BoolP (P : Bool → ASt → Prop) : AVal → ASt → Prop := fun v st => ∃ c, v = .bool c ∧ P c st
theorem cmp_snd {Q : Value → Shared → Prop} {op : CmpOp} {P : Bool → ASt → Prop} (h : cmp op a b st P) (Rm : Room A n) (G : OK X s loc st) (ra : VRel X s.heap loc st.next va a) (rb : VRel X s.heap loc st.next vb b)
    (T : Then X s loc st (BoolP P) Q) : wpAny (model PW X.w) A (compareOp op va vb) Q E s := by
  have hu : ∀ {k : Nat}, k ≤ 8 → ∀ m, A.units + min k m < cLine := fun {k} hk m => by have := Rm.units; have := Nat.min_le_left k m; lia -abstractProof
  cases op with
  | Eq =>
    refine opq fun g hg => (aeq_snd h.out G ra rb).elim fun da h => h.elim fun db h => h.elim fun as h => h.elim fun bs h => hg ?_
    exact SeqAt.compareEq_reads h.1 h.2.1 h.2.2.1 h.2.2.2.1 (hu h.2.2.2.2.1 _) (T.here ⟨_, rfl, h.2.2.2.2.2⟩ G (.bool _))
  | NotEq =>
    refine opq fun g hg => (aeq_snd h.out G ra rb).elim fun da h => h.elim fun db h => h.elim fun as h => h.elim fun bs h => hg ?_
    exact SeqAt.compareNe_reads h.1 h.2.1 h.2.2.1 h.2.2.2.1 (hu h.2.2.2.2.1 _) (T.here ⟨_, rfl, h.2.2.2.2.2⟩ G (.bool _))
  | Is => exact grd_K h fun hb h => noneE_of hb rb ▸ is_none (T.here ⟨_, rfl, isNone_snd h ra⟩ G (.bool _))
  | IsNot => exact grd_K h fun hb h => noneE_of hb rb ▸ isNot_none (T.here ⟨_, rfl, isNone_snd (P := fun r st => P (!r) st) h ra⟩ G (.bool _))
  | Lt => exact intK h ra fun i t h => intK h rb fun j u h => PyProof.Rows.lt_int (T.here ⟨_, rfl, h⟩ G (.bool _))
  | Gt => exact intK h ra fun i t h => intK h rb fun j u h => PyProof.Rows.gt_int (T.here ⟨_, rfl, h⟩ G (.bool _))
  | In =>
    have h : inV a b st P := h
    cases b with
    | tup l => exact isIn_snd h.out Rm G ra rb T
    | obj id =>
      refine objK (st := st) (P := fun id st => asInt a st fun k st => wp (inD id k) st P) h rb fun id hid h => intK h ra fun k t h => opq fun g hg => G.rdIK h.out fun l kvs hk hns hr h => hg ?_
      exact wpAny_in_of (intKind_is PW X.w k t) (notSysB hns) hk.mapOf (by rw [hr.isSome]; exact T.tok ⟨_, rfl, h⟩ G (.bool _))
    | _ => exact h.elim
  | NotIn =>
    refine objK h rb fun id hid h => intK h ra fun k t h => opq fun g hg => G.rdIK h.out fun l kvs hk hns hr h => hg ?_
    exact wpAny_notIn_of (intKind_is PW X.w k t) (notSysB hns) hk.mapOf (by rw [hr.isSome]; exact T.tok ⟨_, rfl, h⟩ G (.bool _))
  | _ => exact h.elim

theorem newList_snd {P : AVal → ASt → Prop} {Q : Value → Shared → Prop} {vs : List Value} {l : List AVal} (h : newO (.list l) st P) (G : OK X s loc st) (r : VRels X s.heap loc st.next vs l) (T : Then X s loc st P Q) :
    Q (.ref s.heap.objs.size) { s with heap := s.heap.push { cls := .type "list", data := .seq vs.toArray } } :=
  have hk : ∀ b o, s.heap.get? b = some o → (s.heap.push { cls := .type "list", data := .seq vs.toArray }).get? b = some o := fun b o e => Heap.get?_push_of_some _ e
  new_done (t := s.toks) h G (size_none s.heap) hk ⟨vs, 0, Heap.get?_push_size _ rfl, r.mono (fun a o e _ => hk a o e) (fun _ _ => rfl) (Nat.le_refl _)⟩ T

theorem addL_snd {P : AVal → ASt → Prop} {Q : Value → Shared → Prop} {i j : Nat} (h : addL i j st P) (G : OK X s loc st) (T : Then X s loc st P Q) : wpAny (model PW X.w) A (binaryOp .Add (.ref (loc i)) (.ref (loc j))) Q E s := by
  refine opq fun g hg => G.rdLK h fun l vs m hh hr h => G.rdLK h fun l' vs' m' hh' hr' h => req_K h fun hc h => hg ?_
  refine PySem.P.add_list hh hh' ?_ (by have := hr.length; have := hr'.length; simp only [List.size_toArray]; exact Nat.le_trans (by lia -abstractProof) million)
  rw [show vs.toArray ++ vs'.toArray = (vs ++ vs').toArray by simp]
  exact newList_snd h G (hr.append hr') T
theorem bin_snd {Q : Value → Shared → Prop} {op : Operator} {P : AVal → ASt → Prop} (h : bin op a b st P) (G : OK X s loc st) (ra : VRel X s.heap loc st.next va a) (rb : VRel X s.heap loc st.next vb b)
    (T : Then X s loc st P Q) : wpAny (model PW X.w) A (binaryOp op va vb) Q E s := by
  cases op with
  | Add =>
    have h : addV a b st P := h
    revert h
    refine ra.K False.elim (fun _ => False.elim) (fun i t h => ?_) (fun _ _ => False.elim) (fun _ _ _ _ => False.elim) (fun _ h => ?_) (fun _ _ _ => False.elim)
    · exact intK (st := st) (P := fun j st => P (.int (i + j)) st) h rb fun j u h => PyProof.Rows.add_int (T.tok h G (.int _ _))
    · exact objK (st := st) (P := fun j st => wp (addL _ j) st P) h rb fun j _ h => addL_snd h.out G T
  | Sub => exact intK h ra fun i t h => intK h rb fun j u h => PyProof.Rows.sub_int (T.tok h G (.int _ _))
  | Mult => exact intK h ra fun i t h => intK h rb fun j u h => req_K h.out fun hc h => PyProof.Rows.mul_int (T.tok h G (.int _ _)) (IntMulOk.of_left hc)
  | FloorDiv => exact intK h ra fun i t h => intK h rb fun j u h => req_K h.out fun hc h => PyProof.Rows.floordiv_int hc.1 (T.tok h G (.int _ _)) (.inl hc.2)
  | Mod => exact intK h ra fun i t h => intK h rb fun j u h => req_K h.out fun hc h => PyProof.Rows.mod_int' hc (T.tok h G (.int _ _))
  | Pow =>
    refine intK h ra fun i t h => intK h rb fun j u h => req_K h.out fun hc h => ?_
    obtain rfl := hc.1
    refine PyProof.Rows.pow_int hc.2.1 ?_ (T.tok h G (.int _ _))
    have := hc.2.2
    rw [show Builtin.Int.intBits 5 = 3 from by decide +kernel]
    lia -abstractProof
  | _ => exact h.elim

theorem aug_snd {Q : Value → Shared → Prop} {op : Operator} {P : AVal → ASt → Prop} (h : aug op a b st P) (G : OK X s loc st) (ra : VRel X s.heap loc st.next va a) (rb : VRel X s.heap loc st.next vb b)
    (T : Then X s loc st P Q) : wpAny (model PW X.w) A (inplaceOp op va vb) Q E s := by
  refine intK h ra fun i t h => intK h rb fun j u h => ?_
  cases op with
  | Add => exact wpAny_iadd_int (T.tok h G (.int _ _))
  | Sub => exact isub_int (T.tok h G (.int _ _))
  | _ => exact h.elim

theorem unary_snd {Q : Value → Shared → Prop} {op : UnaryOp} {P : AVal → ASt → Prop} (h : unary op a st P) (G : OK X s loc st) (ra : VRel X s.heap loc st.next va a) (T : Then X s loc st P Q) :
    wpAny (model PW X.w) A (unaryOp op va) Q E s := by
  cases op with
  | USub => exact intK h ra fun i t h => PyProof.Rows.neg_int (T.tok h G (.int _ _))
  | Not => exact PyProof.Rows.not_of (truth_snd (P := fun b st => P (.bool (!b)) st) h G ra fun b s' h' _ G' X' => T _ _ _ s' _ h' G' X' (.bool _))
  | _ => exact h.elim
end
end
/-! AS7 -/
section
set_option autoImplicit false
set_option maxRecDepth 100000
open PySem PySem.W PyProof.Rows PySem.Calls

section
variable {X : Cx} {A : Around} {E : Value → Shared → Prop} {s : Shared} {loc : Nat → Addr} {st : ASt} {va vb : Value} {a b : AVal} {P : AVal → ASt → Prop} {Q : Value → Shared → Prop} {id m : Nat} {l : List AVal} {vs ws : List Value}

theorem putN_done {f : Array Value → Array Value} {l' : List AVal} (h : P a (st.put id (.list l'))) (G : OK X s loc st) (hid : id < st.next) (hh : s.heap.get? (loc id) = some ⟨.type "list", none, .seq vs.toArray m, #[]⟩)
    (hf : f vs.toArray = ws.toArray) (hr : VRels X s.heap loc st.next ws l') (rv : VRel X s.heap loc st.next va a) (T : Then X s loc st P Q) : Q va { s with heap := s.heap.update (loc id) (Obj.mapSeq f) } := by
  have hs := Heap.SameBut.update s.heap (loc id) (Obj.mapSeq f)
  have e1 := Heap.get?_update_self (Obj.mapSeq f) hh rfl
  simp only [Obj.mapSeq, hf] at e1
  have p := G.put (t := s.toks) hid (fun b o hb e => hs.extBut b o hb e) (d := .list l') ⟨ws, _, e1, hr.mono (put_imm G hid hs) (fun _ _ => rfl) (Nat.le_refl _)⟩
  exact T _ _ _ _ loc h p.1 p.2 (rv.ext p.2)
theorem VRels.fits (hr : VRels X s.heap loc st.next vs l) (h : l.length ≤ 1000000) : vs.toArray.size ≤ sizeLine := by rw [List.size_toArray, hr.length]; exact Nat.le_trans h million

theorem append_snd (h : mAppend id l a st P) (G : OK X s loc st) (hid : id < st.next) (hh : s.heap.get? (loc id) = some ⟨.type "list", none, .seq vs.toArray m, #[]⟩) (hr : VRels X s.heap loc st.next vs l) (ra : VRel X s.heap loc st.next va a)
    (T : Then X s loc st P Q) : wpAny (model PW X.w) A (call (.builtin "list.append") [.ref (loc id), va]) Q E s :=
  req_K h fun hb h => call_meetsIn PySem.F.slot_list_append (isList_of hh).typeIs PySem.F.entry_list_append (PySem.F.args_list_append_2 _ _) ((list_append (loc id) vs.toArray m va (hr.fits hb)).inModel PW X.w)
    ⟨hh, putN_done (f := fun x => x.push va) (putD_K h) G hid hh (List.push_toArray ..) (hr.append (.cons ra .nil)) .none T⟩
theorem extend_snd (h : mExtend id l a st P) (G : OK X s loc st) (hid : id < st.next) (hh : s.heap.get? (loc id) = some ⟨.type "list", none, .seq vs.toArray m, #[]⟩) (hr : VRels X s.heap loc st.next vs l) (ra : VRel X s.heap loc st.next va a)
    (T : Then X s loc st P Q) : wpAny (model PW X.w) A (call (.builtin "list.extend") [.ref (loc id), va]) Q E s := by
  refine objK (st := st) (P := fun j st => req (j ≠ id) (bnd (rdL j) fun m => req (l.length + m.length ≤ 1000000) (putN id (.list (l ++ m)) .none)) st P) h ra fun jd _ h => opq fun g hg => req_K h fun hne h => G.rdLK h fun k ws m' hh' hr' h => req_K h fun hb h => hg ?_
  have := hr.length
  have := hr'.length
  have hz := million
  refine call_meetsIn PySem.F.slot_list_extend (isList_of hh).typeIs PySem.F.entry_list_extend (PySem.F.args_list_extend_2 _ _)
    ((AutoSeq1.list_extend_list_list_0 (loc id) vs.toArray m (loc jd) ws.toArray m' ?_ ?_ ?_).inModel PW X.w) ⟨hh, hh', putN_done (f := fun x => x ++ ws.toArray) (putD_K h) G hid hh (List.append_toArray ..) (hr.append hr') .none T⟩
  · simp only [List.size_toArray, Builtin.List.listTooLong, Bool.and_eq_true, decide_eq_true_eq, not_and]; intro _; lia -abstractProof
  · rw [List.size_toArray]; lia -abstractProof
  · rw [List.size_toArray, List.size_toArray]; lia -abstractProof

theorem ints_of {h : Heap} {N : Nat} {vs : List Value} {l : List AVal} (r : VRels X h loc N vs l) (hi : l.all isIntA = true) : ∀ v ∈ vs, ∃ k t, v = .int k t := by
  induction l generalizing vs with
  | nil => cases r; intro v hv; o_facts hv
  | cons b l ih =>
    cases r with
    | cons rv r =>
      rw [List.all_cons, Bool.and_eq_true] at hi
      intro v hv
      rcases List.mem_cons.mp hv with rfl | hv
      · cases rv <;> first | exact ⟨_, _, rfl⟩ | cases hi.1
      · exact ih r hi.2 v hv
noncomputable def eqV (k : Int) : Value → Bool
  | .int j _ => j == k
  | _ => false
theorem eqV_eq {h : Heap} {N : Nat} {v : Value} {a : AVal} (r : VRel X h loc N v a) (k : Int) : eqV k v = eqIntA k a := r.K rfl (fun _ => rfl) (fun _ _ => rfl) (fun _ _ => rfl) (fun _ _ _ _ => rfl) (fun _ => rfl) (fun _ _ _ => rfl)
theorem erase_rel {h : Heap} {N : Nat} {vs : List Value} {l : List AVal} (r : VRels X h loc N vs l) (k : Int) : VRels X h loc N (vs.eraseP (eqV k)) (l.eraseP (eqIntA k)) := by
  induction l generalizing vs with
  | nil => cases r; exact .nil
  | cons b l ih =>
    cases r with
    | cons rv r =>
      rw [List.eraseP_cons, List.eraseP_cons, eqV_eq rv k]
      cases eqIntA k b with
      | true => exact r
      | false => exact .cons rv (ih r)
theorem first_of (k : Int) : ∀ {vs : List Value}, (vs.any (eqV k)) = true → ∃ j, ∃ hj : j < vs.length, eqV k vs[j] = true ∧ (∀ m (hm : m < vs.length), m < j → eqV k vs[m] = false) ∧ vs.eraseIdx j = vs.eraseP (eqV k)
  | [], h => by o_facts h
  | v :: vs, h => by
    cases q : eqV k v with
    | true => exact ⟨0, by simp, q, fun m _ hm => absurd hm (Nat.not_lt_zero _), by rw [List.eraseP_cons, q]; rfl⟩
    | false =>
      rw [List.any_cons, q, Bool.false_or] at h
      obtain ⟨j, hj, h1, h2, h3⟩ := first_of k h
      refine ⟨j + 1, by simpa using hj, by simpa using h1, fun m hm hlt => ?_, by rw [List.eraseP_cons, q, List.eraseIdx_cons_succ, h3]; rfl⟩
      cases m with
      | zero => exact q
      | succ m => exact h2 m (by simpa using hm) (by lia -abstractProof)
theorem any_rel {h : Heap} {N : Nat} {k : Int} : ∀ {vs : List Value} {l : List AVal}, VRels X h loc N vs l → vs.any (eqV k) = l.any (eqIntA k) := by
  intro vs l r
  induction l generalizing vs with
  | nil => cases r; rfl
  | cons b l ih => cases r with | cons rv r => rw [List.any_cons, List.any_cons, ih r, eqV_eq rv k]
theorem remove_snd (h : mRemove id l a st P) (G : OK X s loc st) (hid : id < st.next) (hh : s.heap.get? (loc id) = some ⟨.type "list", none, .seq vs.toArray m, #[]⟩) (hr : VRels X s.heap loc st.next vs l) (ra : VRel X s.heap loc st.next va a)
    (T : Then X s loc st P Q) : wpAny (model PW X.w) A (call (.builtin "list.remove") [.ref (loc id), va]) Q E s := by
  refine intK (st := st) (P := fun k st => req ((l.all isIntA && l.any (eqIntA k) && decide (l.length ≤ 1000000)) = true) (putN id (.list (l.eraseP (eqIntA k))) .none) st P) h ra fun k t h => opq fun g hg => req_K h fun hb h =>
    (Bool.and_eq_true_iff.mp hb).elim fun hb hb3 => (Bool.and_eq_true_iff.mp hb).elim fun hb1 hb2 => (first_of k ((any_rel hr).trans hb2)).elim fun j h1 => h1.elim fun hj h1 => hg ?_
  have hints := ints_of hr hb1
  refine call_meetsIn PySem.F.slot_list_remove (isList_of hh).typeIs PySem.F.entry_list_remove (PySem.F.args_list_remove_2 _ _)
    ((MeetsSeq.list_remove (loc id) vs.toArray m (.int k t) (eqV k) (fun y hy => ?_) j (by simpa using hj) (by simpa using h1.1) (fun m hm hlt => by simpa using h1.2.1 m (by simpa using hm) hlt) (hr.fits (of_decide_eq_true hb3))).inModel PW X.w)
    ⟨hh, putN_done (f := fun xs => xs.eraseIdxIfInBounds j) (putD_K h) G hid hh (by rw [← h1.2.2]; exact List.eraseIdxIfInBounds_toArray ..) (erase_rel hr k) .none T⟩
  exact (hints y (by simpa using hy)).elim fun i h => h.elim fun u e => e ▸ MeetsSeq.EqGives.int i k u t

theorem erase_last {α : Type} : ∀ {l : List α}, l.length - 1 < l.length → (l.eraseIdx (l.length - 1)) = l.dropLast
  | [_], _ => rfl
  | a :: b :: r, _ => by
    have := erase_last (l := b :: r) (by simp)
    simp only [List.length_cons, Nat.add_sub_cancel, List.eraseIdx_cons_succ, List.dropLast_cons₂] at this ⊢
    rw [this]
theorem popL_snd (h : mPop id l st P) (G : OK X s loc st) (hid : id < st.next) (hh : s.heap.get? (loc id) = some ⟨.type "list", none, .seq vs.toArray m, #[]⟩) (hr : VRels X s.heap loc st.next vs l)
    (T : Then X s loc st P Q) : wpAny (model PW X.w) A (call (.builtin "list.pop") [.ref (loc id)]) Q E s := by
  refine opq fun g hg => the_K h fun v hv h => req_K h fun hb h => (hr.get (List.getLast?_eq_getElem?.symm.trans hv)).elim fun w hw => hg ?_
  have h3 := hw.1
  rw [← hr.length] at h3
  exact call_meetsIn PySem.F.slot_list_pop (isList_of hh).typeIs PySem.F.entry_list_pop (PySem.F.args_list_pop_1 _) ((MeetsSeq.list_pop_last (loc id) vs.toArray m w (by simpa using h3) (hr.fits hb)).inModel PW X.w)
    ⟨hh, putN_done (f := fun xs => xs.eraseIdxIfInBounds (vs.toArray.size - 1)) (putD_K h) G hid hh
      (by simp only [List.size_toArray, List.eraseIdxIfInBounds_toArray]; rw [erase_last (List.getElem?_eq_some_iff.mp h3).1]) hr.dropLast hw.2 T⟩

theorem IRels.getD {κ : Type} [DecidableEq κ] {h : Heap} {N : Nat} {k : κ} {kvs : List (κ × Value)} {l : List (κ × AVal)} (r : IRels X h loc N kvs l) (rd : VRel X h loc N va a) : VRel X h loc N ((valueAt kvs k).getD va) ((Mine.getK k l).getD a) := by
  cases e : Mine.getK k l with
  | none => rw [r.none e]; exact rd
  | some b => exact (r.getK e).elim fun v hv => by rw [hv.1]; exact hv.2
variable {li : List (Int × AVal)} {kvs : List (Int × Value)} {k : Int} {t : Tok} {rest : List AVal}
theorem get_snd (h : mGet li k rest st P) (G : OK X s loc st) (hk : s.heap.DictOf (intKind PW X.w) (loc id) kvs) (hns : loc id ≠ sysModules) (hr : IRels X s.heap loc st.next kvs li)
    (rr : VRels X s.heap loc st.next vs rest) (T : Then X s loc st P Q) : wpAny (model PW X.w) A (call (.builtin "dict.get") (.ref (loc id) :: .int k t :: vs)) Q E s := by
  revert h
  refine rr.K (fun h => ?_) (fun rd rr => rr.K (fun h => ?_) fun _ _ => False.elim)
  · exact call_meetsIn PySem.F.slot_dict_get hk.typeIs PySem.F.entry_dict_get (PySem.F.args_dict_get_2 _ _) (meets_dict_get (intKind PW X.w) (loc id) (intKind_is PW X.w k t) (notSysB hns)) ⟨_, hk.mapOf, T.tok h G (hr.getD .none)⟩
  · exact call_meetsIn PySem.F.slot_dict_get hk.typeIs PySem.F.entry_dict_get (PySem.F.args_dict_get_3 _ _ _) (meets_dict_get_default (intKind PW X.w) (loc id) (intKind_is PW X.w k t) (notSysB hns) _) ⟨_, hk.mapOf, T.tok h G (hr.getD rd)⟩

theorem popK_snd (h : mPopK id li k rest st P) (G : OK X s loc st) (hid : id < st.next) (hk : s.heap.DictOf (intKind PW X.w) (loc id) kvs) (hns : loc id ≠ sysModules) (hr : IRels X s.heap loc st.next kvs li)
    (rr : VRels X s.heap loc st.next vs rest) (T : Then X s loc st P Q) : wpAny (model PW X.w) A (call (.builtin "dict.pop") (.ref (loc id) :: .int k t :: vs)) Q E s := by
  revert h
  refine rr.K (fun h => ?_) fun _ _ h => grd_K h fun h => nomatch h
  · refine opq fun g hg => the_K (grd_K h fun _ h => h) fun v hv h => req_K h fun hb h => (hr.getK hv).elim fun w hw => hg ?_
    refine call_meetsIn PySem.F.slot_dict_pop hk.typeIs PySem.F.entry_dict_pop (PySem.F.args_dict_pop_2 _ _) (meets_dict_pop_there (intKind PW X.w) (loc id) (intKind_is PW X.w k t) [] (.inl rfl) rfl) ⟨kvs, w, hk, by rw [hr.length]; exact Nat.le_trans hb million, hw.1, fun h' hk' hs => ?_⟩
    have p := G.put (t := s.toks + 1) (d := .idict (delK k li)) hid (fun b o hb e => hs.extBut b o hb e) ⟨_, ⟨hk', hns⟩, IRels.del (hr.mono (put_imm G hid hs) (fun _ _ => rfl) (Nat.le_refl _))⟩
    exact T _ _ _ _ loc (putD_K h) p.1 p.2 (hw.2.ext p.2)
end
end
/-! AS8 -/
section
set_option autoImplicit false
set_option maxRecDepth 100000
open PySem PySem.W PyProof.Rows PySem.Calls

section
variable {X : Cx} {A : Around} {E : Value → Shared → Prop} {s : Shared} {loc : Nat → Addr} {st : ASt} {P : AVal → ASt → Prop} {Q : Value → Shared → Prop} {n id : Nat}

/- a new list at an address that was free -/
theorem new_list {h' : Heap} {t : Tok} {B : Addr} {m : Nat} {vs : List Value} {l : List AVal} (h : newO (.list l) st P) (G : OK X s loc st) (hB : s.heap.get? B = none) (hk : ∀ b o, s.heap.get? b = some o → h'.get? b = some o)
    (e : h'.get? B = some ⟨.type "list", none, .seq vs.toArray m, #[]⟩) (r : VRels X h' loc st.next vs l) (T : Then X s loc st P Q) : Q (.ref B) { s with heap := h', toks := t } :=
  new_done h G hB hk ⟨vs, m, e, r⟩ T
theorem none_ge (h : Heap) {a : Addr} (ha : h.objs.size ≤ a) : h.get? a = none := by
  cases q : h.get? a with
  | none => rfl
  | some o => exact absurd (Heap.lt_size q) (Nat.not_lt.mpr ha)

theorem len_snd (h : lenL id st P) (G : OK X s loc st) (T : Then X s loc st P Q) :
    wpAny (model PW X.w) A (call (.builtin "len") [.ref (loc id)]) Q E s := by
  refine opq fun g hg => G.rdLK h fun l vs m hh hr h => req_K h fun hb h => hg ?_
  have hl := hr.length
  refine call_len_list (isList_of hh) (by simp only [List.size_toArray]; lia -abstractProof) ?_
  simp only [List.size_toArray, hl]
  exact T.tok h G (.int _ _)

theorem ints_val {h : Heap} {N : Nat} : ∀ {vs : List Value} {l : List AVal} {ns : List Int}, VRels X h loc N vs l → l.mapM asIntO = some ns → IntsAre vs ns
  | [], _, ns, r, e => by
    cases r
    simp only [List.mapM_nil, Option.pure_def, Option.some.injEq] at e
    subst e; exact .nil
  | v :: vs, a :: l, ns, r, e => by
    cases r with
    | cons rv r =>
      simp only [List.mapM_cons, Option.pure_def, Option.bind_eq_bind, Option.bind_eq_some_iff] at e
      obtain ⟨x, h1, ms, h2, h3⟩ := e
      o_facts h3
      cases rv <;> try (o_facts h1; done)
      o_facts h1
      exact .cons _ _ (ints_val r h2)
  | v :: vs, [], ns, r, e => by cases r
theorem ints_get {vs : List Value} {ns : List Int} (r : IntsAre vs ns) : ∀ {i : Nat} {v : Value}, vs[i]? = some v → ∃ t, v = .int (ns.getD i 0) t := by
  induction r with
  | nil => intro i v e; simp at e
  | cons k t _ ih =>
    intro i v e
    cases i with
    | zero => simp only [List.getElem?_cons_zero, Option.some.injEq] at e; subst e; exact ⟨t, rfl⟩
    | succ i => simp only [List.getElem?_cons_succ] at e; exact ih e
theorem ints_length {vs : List Value} {ns : List Int} (r : IntsAre vs ns) : vs.length = ns.length := by
  induction r with
  | nil => rfl
  | cons _ _ _ ih => simp [ih]
theorem ints_rel {h : Heap} {N : Nat} {vs : List Value} {ns : List Int} (r : IntsAre vs ns) : VRels X h loc N vs (ns.map .int) := by
  induction r with
  | nil => exact .nil
  | cons k t _ ih => exact .cons (.int k t) ih
theorem preSum_add (val : Nat → Int) : ∀ n, preSum val (n + 1) = val 0 + preSum (fun i => val (i + 1)) n
  | 0 => by simp [preSum]
  | n + 1 => by rw [preSum, preSum_add val n, preSum]; lia -abstractProof
theorem preSum_sum : ∀ ns : List Int, preSum (fun i => ns.getD i 0) ns.length = ns.sum
  | [] => rfl
  | k :: ns => by
    rw [List.length_cons, preSum_add, List.sum_cons, ← preSum_sum ns]
    rfl

theorem sum_snd (h : sumL id st P) (Rm : Room A n) (G : OK X s loc st) (T : Then X s loc st P Q) :
    wpAny (model PW X.w) A (call (.builtin "sum") [.ref (loc id)]) Q E s := by
  refine opq fun g hg => G.rdLK h fun l vs m hh hr h => the_K h fun ns hns h => hg ?_
  have hi := ints_val hr hns
  have hne : loc id ≠ s.heap.objs.size := Nat.ne_of_lt (Heap.lt_size hh)
  have hold : ∀ b o, s.heap.get? b = some o → (s.heap.push { cls := .type "list_iterator", data := .fields #[.ref (loc id), .int 0 0] }).get? b = some o := fun b o e => Heap.get?_push_of_some _ e
  have W := Walks.list (prog := PW) (w := X.w) (A := A.in1) Rm.handled s.heap.objs.size (loc id) hne vs.toArray
  refine call_sum_walkG (wpAny_pyIter_list (isList_of hh) ⟨s.heap.objs.size, _, _, _, _, _, fun i => ns.getD i 0, rfl, W,
    ⟨⟨_, Heap.get?_push_size _ rfl, rfl, rfl⟩, (isList_of (hold _ _ hh))⟩, fun b hb => ?_, fun i v hv => ints_get hi (by simpa using hv), fun h' tk t' hk => ?_⟩)
  · rw [Heap.size_push]
    simp only [List.mem_cons, List.not_mem_nil, or_false] at hb
    rcases hb with rfl | rfl
    · exact Nat.lt_succ_self _
    · exact Nat.lt_succ_of_lt (Heap.lt_size hh)
  · rw [List.size_toArray, ints_length hi, preSum_sum]
    have p := G.keeps (h' := h') (t := tk) (fun b o e => hk b o (by simp only [List.mem_singleton]; exact Nat.ne_of_lt (Heap.lt_size e)) (hold b o e))
    exact T _ _ _ _ loc h p.1 p.2 (.int _ _)

theorem insI_perm (a : Int) : ∀ l : List Int, (insI a l).Perm (a :: l)
  | [] => .refl _
  | b :: r => by
    unfold insI
    split
    · exact .refl _
    · exact ((insI_perm a r).cons b).trans (.swap a b r)
theorem sortI_perm : ∀ l : List Int, (sortI l).Perm l
  | [] => .refl _
  | a :: r => (insI_perm a _).trans ((sortI_perm r).cons a)
theorem insI_sorted (a : Int) : ∀ {l : List Int}, l.Pairwise (· ≤ ·) → (insI a l).Pairwise (· ≤ ·)
  | [], _ => List.pairwise_singleton _ _
  | b :: r, h => by
    unfold insI
    split
    · rename_i hab
      exact List.pairwise_cons.mpr ⟨fun c hc => by
        rcases List.mem_cons.mp hc with rfl | hc
        · exact hab
        · exact Int.le_trans hab ((List.pairwise_cons.mp h).1 c hc), h⟩
    · rename_i hab
      refine List.pairwise_cons.mpr ⟨fun c hc => ?_, insI_sorted a (List.pairwise_cons.mp h).2⟩
      rcases List.mem_cons.mp ((insI_perm a r).mem_iff.mp hc) with rfl | hc
      · lia -abstractProof
      · exact (List.pairwise_cons.mp h).1 c hc
theorem sortI_sorted : ∀ l : List Int, (sortI l).Pairwise (· ≤ ·)
  | [] => .nil
  | a :: r => insI_sorted a (sortI_sorted r)
theorem sorted_unique : ∀ {l m : List Int}, l.Pairwise (· ≤ ·) → m.Pairwise (· ≤ ·) → l.Perm m → l = m
  | [], m, _, _, p => by rw [List.nil_perm.mp p]
  | a :: l, [], _, _, p => by have := p.length_eq; simp at this
  | a :: l, b :: m, h, k, p => by
    refine e0a2 (List.pairwise_cons.mp h) fun h1 h2 => ?_
    refine e0a2 (List.pairwise_cons.mp k) fun k1 k2 => ?_
    have hab : a = b := by
      have ha : a ∈ b :: m := p.mem_iff.mp (.head _)
      have hb : b ∈ a :: l := p.mem_iff.mpr (.head _)
      rcases List.mem_cons.mp ha with e | ha
      · exact e
      · rcases List.mem_cons.mp hb with e | hb
        · exact e.symm
        · have := h1 b hb
          have := k1 a ha
          lia -abstractProof
    subst hab
    rw [sorted_unique h2 k2 ((List.perm_cons a).mp p)]

theorem sorted_snd (h : sortL id st P) (G : OK X s loc st) (T : Then X s loc st P Q) :
    wpAny (model PW X.w) A (call (.builtin "sorted") [.ref (loc id)]) Q E s := by
  refine opq fun g hg => G.rdLK h fun l vs m hh hr h => the_K h fun ns hns h => req_K h fun hb h => hg ?_
  have hi := ints_val hr hns
  refine PyProof.Rows.sorted_ints (isList_of hh) hi (by rw [hr.length]; exact hb) fun out ns' a1 a2 a3 => (sortedAll_at s.heap vs out).elim fun e he => ?_
  obtain rfl : ns' = sortI ns := sorted_unique a3 (sortI_sorted ns) (a2.trans (sortI_perm ns).symm)
  exact new_list (t := s.toks) (vs := out.toList) h G (none_ge _ (Nat.le_succ _)) (fun _ _ => sortedAll_old) (by simpa [seqObj] using he) (ints_rel a1) T
end
end
/-! AS9 -/
section
set_option autoImplicit false
set_option maxRecDepth 100000
open PySem PySem.W PyProof.Rows PySem.Calls

theorem setv_lookup (x y : Str) (v : AVal) : ∀ l : List (Str × AVal), (setv x v l).lookup y = if y = x then some v else l.lookup y
  | [] => by
    unfold setv
    rw [List.lookup_cons]
    by_cases q : y = x
    · subst q; simp
    · have : (y == x) = false := by simp [q]
      rw [this, if_neg q]
  | (z, w) :: r => by
    unfold setv
    by_cases q : z = x
    · subst q
      simp only [beq_self_eq_true, if_true, List.lookup_cons]
      by_cases q' : y = z
      · subst q'; simp
      · have : (y == z) = false := by simp [q']
        rw [this, if_neg q']
    · have q2 : (z == x) = false := by simp [q]
      simp only [q2, Bool.false_eq_true, if_false, List.lookup_cons]
      by_cases q' : y = z
      · subst q'; simp [q]
      · have : (y == z) = false := by simp [q']
        rw [this]; exact setv_lookup x y v r

theorem upd_lookup {ae : AEnv} {x y : Str} {v : AVal} : (ae.upd x v).vars.lookup y = if y = x then some v else ae.vars.lookup y := setv_lookup x y v ae.vars

theorem Ext.trans' {W W' W'' : Addr → Prop} {s s' s'' : Shared} {loc loc' loc'' : Nat → Addr} {st st' st'' : ASt} (x : Ext W s loc st s' loc' st') (y : Ext W' s' loc' st' s'' loc'' st'')
    (h1 : ∀ b, W b → W'' b ∨ s.heap.get? b = none) (h2 : ∀ b, W' b → W'' b ∨ s.heap.get? b = none) : Ext W'' s loc st s'' loc'' st'' := by
  have x' : Ext (fun b => W b ∨ W' b) s loc st s' loc' st' := x.mono fun _ => .inl
  have y' : Ext (fun b => W b ∨ W' b) s' loc' st' s'' loc'' st'' := y.mono fun _ => .inr
  have z := x'.trans y'
  refine ⟨z.le, z.at_, z.fresh, fun b o e hn hw => z.keep b o e hn fun q => ?_, z.live, z.imm, z.verLe, z.ver, z.gens, z.os⟩
  rcases q with q | q
  · rcases h1 b q with q | q
    · exact hw q
    · rw [q] at e; o_facts e
  · rcases h2 b q with q | q
    · exact hw q
    · rw [q] at e; o_facts e

section
variable {X : Cx} {A : Around} {E : Value → Shared → Prop} {s : Shared} {loc : Nat → Addr} {st st' : ASt} {env : Env} {ae ae' : AEnv} {va : Value} {a : AVal}

theorem OK.notLive {W : Addr → Prop} (G : OK X s loc st) {i : Nat} (hi : i < st.next) {c : Addr} {o : Obj} {v : Option Value} (e : s.heap.get? c = some o) (hd : o.data = .cell v) : loc i ≠ c :=
  fun q => notCell_of_ORel (G.rel i hi) (by rw [q]; exact e) hd

theorem EnvOK.live (V : EnvOK X env ae s.heap loc st.next) {b : Addr} (h : Wr env b) (hx : ∀ x, env.cells.lookup x = some b → env.kindOf x = some .cell ∨ env.kindOf x = some .free) : ∃ o, s.heap.get? b = some o := by
  rcases h with rfl | ⟨x, h⟩
  · obtain ⟨m, ⟨o, _, _, e, _⟩, _⟩ := V.ns; exact ⟨o, e⟩
  · obtain ⟨c, hc, o, v, e, _⟩ := V.cell x (hx x h)
    rw [h] at hc; o_facts hc; exact ⟨o, e⟩

/- what a store of names of this scope may write -/
structure WOK (sc : Scope) (env : Env) (W : Addr → Prop) : Prop where
  l : W env.locals
  c : ∀ x b, sc.names.lookup x = some .cell → env.cells.lookup x = some b → W b
theorem WOK.wr (sc : Scope) : WOK sc env (Wr env) := ⟨.inl rfl, fun x b _ h => .inr ⟨x, h⟩⟩

/- what is wanted behind a store of names -/
noncomputable def ThenA (X : Cx) (env : Env) (W : Addr → Prop) (sc : Scope) (s : Shared) (loc : Nat → Addr) (st : ASt) (P : AEnv → ASt → Prop) (Q : Unit → Shared → Prop) : Prop :=
  ∀ ae st' s' loc', P ae st' → ae.sc = sc → OK X s' loc' st' → Ext W s loc st s' loc' st' → EnvOK X env ae s'.heap loc' st'.next → Q () s'

variable {W : Addr → Prop} {x : Str} {P : AEnv → ASt → Prop} {Q : Unit → Shared → Prop}
theorem store_local (wo : WOK ae.sc env W) (hk : ae.sc.names.lookup x = some .local) (h : P (ae.upd x a) st) (G : OK X s loc st) (V : EnvOK X env ae s.heap loc st.next) (ra : VRel X s.heap loc st.next va a)
    (T : ThenA X env W ae.sc s loc st P Q) : wpAny (model PW X.w) A (storeName env x va) Q E s := by
  have hl : env.kindOf x = some .local := (V.kindOf x _ hk).elim id fun q => nomatch q.1
  refine opq fun g hg => V.ns.elim fun m h1 => h1.1.elim fun oL h2 => h2.elim fun esL h2 => h2.elim fun epL h2 => hg ?_
  have hr := h1.2
  have hoL := h2.1
  have hdL := h2.2.1
  refine wpAny_storeName_local hl h1.1 (fun h' hn hs => ?_) (by rw [V.kind]; rfl)
  have p := G.but (h' := h') (t := s.toks + 1) V.apart V.newL hoL (Imm.notDict hdL) (let ⟨o, _, _, e, _⟩ := hn; ⟨o, e⟩) (fun b o hb e => hs.extBut b o hb e)
  have x' := p.2.mono (W' := W) (fun b q => q ▸ wo.l)
  refine T _ _ _ _ h rfl p.1 x' ⟨V.kind, V.glob, V.blt, V.kindOf, ⟨_, hn, fun y c hy hky => ?_⟩, fun y hy => ?_, V.inj, V.apart, V.newL, V.newC, V.celled⟩
  · rw [upd_lookup] at hy
    by_cases q : y = x
    · rw [if_pos q] at hy; o_facts hy
      exact ⟨va, if_pos q, ra.ext x'⟩
    · rw [if_neg q] at hy
      exact (hr y c hy hky).elim fun v h => ⟨v, (if_neg q).trans h.1, h.2.ext x'⟩
  · refine opq fun g hg => (V.cell y hy).elim fun c h => h.2.elim fun o h' => h'.elim fun v h' => hg ?_
    have hcl : c ≠ env.locals := fun q => by have ho := h'.1; rw [q, hoL] at ho; o_facts ho; have hd := h'.2.1; rw [hdL] at hd; o_facts hd
    refine ⟨c, h.1, o, v, hs.extBut c o hcl h'.1, h'.2.1, fun b hb => ?_⟩
    rw [upd_lookup] at hb
    by_cases q : y = x
    · subst q
      rw [hl] at hy
      rcases hy with hy | hy <;> o_facts hy
    · rw [if_neg q] at hb
      exact (h'.2.2 b hb).elim fun u h => ⟨u, h.1, h.2.ext x'⟩
theorem store_cell (wo : WOK ae.sc env W) (hk : ae.sc.names.lookup x = some .cell) (h : P (ae.upd x a) st) (G : OK X s loc st) (V : EnvOK X env ae s.heap loc st.next) (ra : VRel X s.heap loc st.next va a)
    (T : ThenA X env W ae.sc s loc st P Q) : wpAny (model PW X.w) A (storeName env x va) Q E s := by
  have hl : env.kindOf x = some .cell := (V.kindOf x _ hk).elim id fun q => nomatch q.1
  refine opq fun g hg => (V.cell x (.inl hl)).elim fun c h1 => h1.2.elim fun o h2 => h2.elim fun v h2 => hg ?_
  have hc := h1.1
  have ho := h2.1
  have hd := h2.2.1
  refine wpAny_storeName_cell V.kind hl hc ⟨o, ho, hd⟩ fun h' hv' hs => hv'.elim fun o' h' => ?_
  have p := G.but (h' := _) (t := s.toks) (fun i hi => G.notLive (W := NoW) hi ho hd) (V.newC x c hc) ho (Imm.notCell hd) ⟨o', h'.1⟩ (fun b o hb e => hs.extBut b o hb e)
  have x' := p.2.mono (W' := W) (fun b q => wo.c x b hk (by rw [q]; exact hc))
  refine T _ _ _ _ h rfl p.1 x' ⟨V.kind, V.glob, V.blt, V.kindOf, ?_, fun y hy => ?_, V.inj, V.apart, V.newL, V.newC, V.celled⟩
  · refine opq fun g hg => V.ns.elim fun m h1 => h1.1.elim fun oL h2 => h2.elim fun esL h2 => h2.elim fun epL h2 => hg ?_
    have hcl : env.locals ≠ c := fun q => by have hoL := h2.1; rw [q, ho] at hoL; o_facts hoL; have hdL := h2.2.1; rw [hd] at hdL; o_facts hdL
    refine ⟨m, ⟨oL, esL, epL, hs.extBut _ _ hcl h2.1, h2.2⟩, fun y b hy hky => ?_⟩
    rw [upd_lookup] at hy
    by_cases q : y = x
    · subst q; rw [hl] at hky; o_facts hky
    · rw [if_neg q] at hy
      exact (h1.2 y b hy hky).elim fun u h => ⟨u, h.1, h.2.ext x'⟩
  · by_cases q : y = x
    · subst q
      refine ⟨c, hc, o', _, h'.1, h'.2, fun b hb => ?_⟩
      rw [upd_lookup, if_pos rfl] at hb
      o_facts hb
      exact ⟨va, rfl, ra.ext x'⟩
    · refine opq fun g hg => (V.cell y hy).elim fun d h => h.2.elim fun od h' => h'.elim fun v h' => hg ?_
      have hne : d ≠ c := fun e => q (V.inj y x c (e ▸ h.1) hc)
      refine ⟨d, h.1, od, v, hs.extBut d od hne h'.1, h'.2.1, fun b hb => ?_⟩
      rw [upd_lookup, if_neg q] at hb
      exact (h'.2.2 b hb).elim fun w h => ⟨w, h.1, h.2.ext x'⟩
theorem storeName_snd (wo : WOK ae.sc env W) (h : ae.set x a st P) (G : OK X s loc st) (V : EnvOK X env ae s.heap loc st.next) (ra : VRel X s.heap loc st.next va a)
    (T : ThenA X env W ae.sc s loc st P Q) : wpAny (model PW X.w) A (storeName env x va) Q E s := by
  refine grd_K h fun hb h => ?_
  cases hk : ae.sc.names.lookup x with
  | none => rw [hk] at hb; o_facts hb
  | some k =>
    cases k with
    | «local» => exact store_local wo hk h G V ra T
    | cell => exact store_cell wo hk h G V ra T
    | _ => rw [hk] at hb; o_facts hb

theorem bindName_snd (wo : WOK ae.sc env W) (h : ae.set x a st P) (G : OK X s loc st) (V : EnvOK X env ae s.heap loc st.next) (ra : VRel X s.heap loc st.next va a)
    (T : ThenA X env W ae.sc s loc st P Q) : wpAny (model PW X.w) A (bindName env x va) Q E s :=
  wpAny_bind (wpAny_holding (wpAny_point (wpAny_bind (storeName_snd wo h G V ra fun ae' st' s' loc' a b c d e => wpAny_point (T ae' st' s' loc' a b c d e)))))
end
end
/-! AS10 -/
section
set_option autoImplicit false
set_option maxRecDepth 100000
open PySem PySem.W PyProof.Rows PySem.Calls

inductive FlowRel (X : Cx) (env : Env) (h : Heap) (loc : Nat → Addr) (N : Nat) : Flow → Out → Prop
  | next {ae : AEnv} : EnvOK X env ae h loc N → FlowRel X env h loc N .next (.next ae)
  | ret {v : Value} {a : AVal} : VRel X h loc N v a → (∃ m, h.Ns env.locals m) → FlowRel X env h loc N (.ret v) (.ret a)
@[elab_as_elim] theorem FlowRel.K {X : Cx} {env : Env} {h : Heap} {loc : Nat → Addr} {N : Nat} {m : Flow → Out → Prop} {fl : Flow} {o : Out} (r : FlowRel X env h loc N fl o) (k1 : ∀ {ae}, EnvOK X env ae h loc N → m .next (.next ae)) (k2 : ∀ {v a}, VRel X h loc N v a → (∃ m, h.Ns env.locals m) → m (.ret v) (.ret a)) : m fl o :=
  FlowRel.casesOn (motive := fun fl o _ => m fl o) r (fun a => k1 a) fun a b => k2 a b
noncomputable def ThenF (X : Cx) (env : Env) (s : Shared) (loc : Nat → Addr) (st : ASt) (P : Out → ASt → Prop) (Q : Flow → Shared → Prop) : Prop :=
  ∀ o st' fl s' loc', P o st' → OK X s' loc' st' → Ext (Wr env) s loc st s' loc' st' → FlowRel X env s'.heap loc' st'.next fl o → Q fl s'
noncomputable def ThenL (X : Cx) (n : Nat) (s : Shared) (loc : Nat → Addr) (st : ASt) (P : List AVal → ASt → Prop) (Q : List Value → Shared → Prop) : Prop :=
  ∀ l st' vs s' loc', P l st' → l.length = n → OK X s' loc' st' → Ext NoW s loc st s' loc' st' → VRels X s'.heap loc' st'.next vs l → Q vs s'

structure Snd (X : Cx) (r : Rec) (n : Nat) : Prop where
  ev : ∀ {e : Expr} {ae : AEnv} {st : ASt} {P : AVal → ASt → Prop}, r.ev e ae st P → ∀ {A : Around} {env : Env} {s : Shared} {loc : Nat → Addr} {E : Value → Shared → Prop} {Q : Value → Shared → Prop},
    Room A n → OK X s loc st → EnvOK X env ae s.heap loc st.next → Then X s loc st P Q → wpAny (model PW X.w) A (eval e env) Q E s
  tr : ∀ {e : Expr} {ae : AEnv} {st : ASt} {P : AVal → Bool → ASt → Prop}, r.ev e ae st (fun a st => truth a st (P a)) → ∀ {A : Around} {env : Env} {s : Shared} {loc : Nat → Addr} {E : Value → Shared → Prop} {Q : Bool → Shared → Prop},
    Room A n → OK X s loc st → EnvOK X env ae s.heap loc st.next → ThenT X s loc st P Q → wpAny (model PW X.w) A (isTrue e env (eval e env)) Q E s
  ex : ∀ {t : Stmt} {ae : AEnv} {st : ASt} {P : Out → ASt → Prop}, r.ex t ae st P → ∀ {A : Around} {env : Env} {s : Shared} {loc : Nat → Addr} {E : Value → Shared → Prop} {Q : Flow → Shared → Prop},
    Room A n → OK X s loc st → EnvOK X env ae s.heap loc st.next → ThenF X env s loc st P Q → wpAny (model PW X.w) A (exec t env) Q E s
  call : ∀ {f : Str} {args : List AVal} {st : ASt} {P : AVal → ASt → Prop}, r.call f args st P → ∀ {A : Around} {s : Shared} {loc : Nat → Addr} {vs : List Value} {fv : Value} {E : Value → Shared → Prop} {Q : Value → Shared → Prop},
    Room A n → OK X s loc st → VRels X s.heap loc st.next vs args → X.mg f = some fv → Then X s loc st P Q → wpAny (model PW X.w) A (call fv vs []) Q E s
  use : ∀ {elt : Expr} {gens : List Comprehension} {sc : Scope} {pos : Pos} {ae : AEnv} {st : ASt} {P : AVal → ASt → Prop}, r.ev (.ListComp elt gens sc pos) ae st P → ∀ {A : Around} {env : Env} {s : Shared} {loc : Nat → Addr} {E : Value → Shared → Prop} {u : Value → Sem Unit} {Q : Unit → Shared → Prop},
    Room A n → OK X s loc st → EnvOK X env ae s.heap loc st.next →
    (∀ a st' D C s' loc', P a st' → OK X s' loc' st' → Ext NoW s loc st s' loc' st' → VRel X s'.heap loc' st'.next (.ref D) a → (∃ m, s'.heap.Ns C m) → s.heap.get? C = none → (∀ i, i < st'.next → loc' i ≠ C) → X.h0.get? C = none →
      wpAny (model PW X.w) A (u (.ref D)) (fun _ s'' => ∃ m, s''.heap.Ns C m ∧ ∀ h', Heap.SameBut C s''.heap h' → Q () { s'' with heap := h' }) E s') → wpAny (model PW X.w) A (evalThenUse (.ListComp elt gens sc pos) env u) Q E s

section
variable {X : Cx} {r : Rec} {n : Nat} {A : Around} {E : Value → Shared → Prop} {s s₁ : Shared} {loc loc₁ : Nat → Addr} {st st₁ : ASt} {env : Env} {ae : AEnv}

theorem Then.after {P : AVal → ASt → Prop} {Q : Value → Shared → Prop} (T : Then X s loc st P Q) (x : Ext NoW s loc st s₁ loc₁ st₁) : Then X s₁ loc₁ st₁ P Q :=
  fun a st' v s' loc' h G x' r => T a st' v s' loc' h G (x.trans x') r
theorem ThenB.after {P : Bool → ASt → Prop} {Q : Bool → Shared → Prop} (T : ThenB X s loc st P Q) (x : Ext NoW s loc st s₁ loc₁ st₁) : ThenB X s₁ loc₁ st₁ P Q :=
  fun b st' s' loc' h G x' => T b st' s' loc' h G (x.trans x')
theorem ThenU.after {P : Unit → ASt → Prop} {Q : Unit → Shared → Prop} (T : ThenU X s loc st P Q) (x : Ext NoW s loc st s₁ loc₁ st₁) : ThenU X s₁ loc₁ st₁ P Q :=
  fun st' s' loc' h G x' => T st' s' loc' h G (x.trans x')
theorem ThenT.after {P : AVal → Bool → ASt → Prop} {Q : Bool → Shared → Prop} (T : ThenT X s loc st P Q) (x : Ext NoW s loc st s₁ loc₁ st₁) : ThenT X s₁ loc₁ st₁ P Q :=
  fun a b st' s' loc' h t G x' => T a b st' s' loc' h t G (x.trans x')
theorem Ext.wr (x : Ext NoW s loc st s₁ loc₁ st₁) : Ext (Wr env) s loc st s₁ loc₁ st₁ := x.mono fun _ => False.elim
theorem ThenF.after {P : Out → ASt → Prop} {Q : Flow → Shared → Prop} (T : ThenF X env s loc st P Q) (x : Ext (Wr env) s loc st s₁ loc₁ st₁) : ThenF X env s₁ loc₁ st₁ P Q :=
  fun o st' fl s' loc' h G x' r => T o st' fl s' loc' h G (x.trans x') r
theorem EnvOK.weak {h : Heap} {N : Nat} {ae' : AEnv} (V : EnvOK X env ae h loc N) (hs : ae'.sc = ae.sc) (hv : ∀ x v, ae'.vars.lookup x = some v → ae.vars.lookup x = some v) : EnvOK X env ae' h loc N :=
  ⟨V.kind, V.glob, V.blt, fun x k e => V.kindOf x k (hs ▸ e), V.ns.elim fun m h => ⟨m, h.1, fun x a e => h.2 x a (hv x a e)⟩,
    fun x hx => (V.cell x hx).elim fun c h => h.2.elim fun o h' => h'.elim fun v h' => ⟨c, h.1, o, v, h'.1, h'.2.1, fun a e => h'.2.2 a (hv x a e)⟩, V.inj, V.apart, V.newL, V.newC, V.celled⟩

theorem weak_K {α : Type} {h : Heap} {N : Nat} {f : AEnv → M α} {P : α → ASt → Prop} {C : Prop} (q : weak f ae st P) (V : EnvOK X env ae h loc N) (k : ∀ ae', ae'.sc = ae.sc → EnvOK X env ae' h loc N → f ae' st P → C) : C := by
  cases q with
  | mk ae' hs hv q => exact k ae' hs (V.weak hs hv) q

/-! the parts of an expression, by its shape -/
noncomputable def Is {α : Type} (d : Expr → Option α) (P : α → Expr → Prop) (e : Expr) : Prop := ∀ a, d e = some a → P a e
theorem Is.no {α : Type} {d : Expr → Option α} {P : α → Expr → Prop} {e : Expr} (h : d e = none) : Is d P e := fun a q => nomatch h.symm.trans q
theorem Is.yes {α : Type} {d : Expr → Option α} {P : α → Expr → Prop} {e : Expr} {a : α} (h : d e = some a) (p : P a e) : Is d P e := fun b q => Option.some.inj (h.symm.trans q) ▸ p
theorem nameOfE_is (e : Expr) : Is nameOfE (fun x e => ∃ p, e = .Name x p) e := by cases e <;> first | exact .no rfl | exact .yes rfl ⟨_, rfl⟩
theorem callOf_is (e : Expr) : Is callOf (fun y e => e = .Call y.1 y.2.1 y.2.2.1 y.2.2.2) e := by cases e <;> first | exact .no rfl | exact .yes rfl rfl
theorem attrOf_is (e : Expr) : Is attrOf (fun y e => e = .Attribute y.1 y.2.1 y.2.2) e := by cases e <;> first | exact .no rfl | exact .yes rfl rfl
theorem subOf_is (e : Expr) : Is subOf (fun y e => ∃ p, e = .Subscript y.1 y.2 p) e := by cases e <;> first | exact .no rfl | exact .yes rfl ⟨_, rfl⟩
theorem sliceE_is (e : Expr) : Is sliceE (fun y e => ∃ p, e = .Slice y.1 y.2.1 y.2.2 p) e := by cases e <;> first | exact .no rfl | exact .yes rfl ⟨_, rfl⟩
theorem tupE_is (e : Expr) : Is tupE (fun ts e => ∃ k p, e = .Tuple ts k p) e := by cases e <;> first | exact .no rfl | exact .yes rfl ⟨_, _, rfl⟩
/- a thing that all kinds but one have -/
noncomputable def All (b : Expr → Bool) (P : Expr → Prop) (e : Expr) : Prop := b e = true → P e
theorem All.no {b : Expr → Bool} {P : Expr → Prop} {e : Expr} (h : P e) : All b P e := fun _ => h
theorem All.yes {b : Expr → Bool} {P : Expr → Prop} {e : Expr} (h : b e = false) : All b P e := fun q => nomatch h.symm.trans q

theorem starEach_all (rest : List Expr) (env : Env) (e : Expr) : All notStar (fun e => starEach (e :: rest) env = (false, eval e env) :: starEach rest env) e := by cases e <;> first | exact .no rfl | exact .yes rfl
theorem starEach_plain {e : Expr} {rest : List Expr} (h : notStar e = true) : starEach (e :: rest) env = (false, eval e env) :: starEach rest env := starEach_all rest env e h

theorem evs_snd (S : Snd X r n) (Rm : Room A n) {pos : Pos} : ∀ {es : List Expr} {st : ASt} {P : List AVal → ASt → Prop}, evs r ae es st P → es.all notStar = true → ∀ {s : Shared} {loc : Nat → Addr} {Q : List Value → Shared → Prop}, OK X s loc st → EnvOK X env ae s.heap loc st.next →
    ThenL X es.length s loc st P Q → wpAny (model PW X.w) A (spliced (backTo pos (starEach es env))) Q E s
  | [], st, P, h, _, s, loc, Q, G, V, T => spliced_nil (T _ _ [] s loc h rfl G (.refl ..) .nil)
  | e :: es, st, P, h, hns, s, loc, Q, G, V, T => by
    have hns := Bool.and_eq_true_iff.mp (List.all_cons.symm.trans hns)
    rw [starEach_plain hns.1]
    exact spliced_cons (S.ev h Rm G V fun a st₁ w s₁ loc₁ h₁ G₁ x₁ r₁ => evs_snd S Rm h₁ hns.2 G₁ (V.ext G x₁) fun l st₂ ws s₂ loc₂ h₂ hl G₂ x₂ r₂ => T _ _ _ s₂ loc₂ h₂ (congrArg Nat.succ hl) G₂ (x₁.trans x₂) (.cons (r₁.ext x₂) r₂))

theorem args_snd (S : Snd X r n) {es : List Expr} {pos : Pos} {f : Value} {P : List AVal → ASt → Prop} {Q : Args → Shared → Prop} (h : evs r ae es st P) (hns : es.all notStar = true) (Rm : Room A n) (G : OK X s loc st) (V : EnvOK X env ae s.heap loc st.next)
    (T : ThenL X es.length s loc st P fun ws s' => Q ⟨ws, []⟩ s') : wpAny (model PW X.w) A (evalArgs f true (backTo pos (starEach es env)) []) Q E s := by
  cases es with
  | nil => exact PySem.evalArgs_none (T _ _ [] s loc h rfl G (.refl ..) .nil)
  | cons e es =>
    have := evs_snd (E := E) (pos := pos) S Rm h hns G V T
    rw [starEach_plain (Bool.and_eq_true_iff.mp (List.all_cons.symm.trans hns)).1] at this ⊢
    exact evalArgs_plain this

theorem plainAny {es : List Expr} {pos : Pos} (hns : es.all notStar = true) : (backTo pos (starEach es env)).any (·.1) = false := by
  induction es with
  | nil => rfl
  | cons e es ih =>
    rw [List.all_cons, Bool.and_eq_true] at hns
    rw [starEach_plain hns.1]
    show (false || _) = false
    exact ih hns.2

theorem globKind {f : Str} (hg : isGlob ae f = true) (V : EnvOK X env ae s.heap loc st.next) : env.kindOf f = some .globalImplicit ∧ (f == ("__debug__" : Str)) = false := by
  unfold isGlob at hg
  refine e0a2 (Bool.and_eq_true_iff.mp hg) fun h1 h2 => ?_
  refine ⟨?_, by simpa using h2⟩
  have hk : ae.sc.names.lookup f = some .globalImplicit := by simpa using h1
  rcases V.kindOf f _ hk with q | q
  · exact q
  · cases q.1
theorem globFn {f : Str} {fv : Value} {pos : Pos} {Q : Value → Shared → Prop} (Z : StaticOK X) (hg : isGlob ae f = true) (G : OK X s loc st) (V : EnvOK X env ae s.heap loc st.next) (hv : X.mg f = some fv) (h : Q fv s) :
    wpAny (model PW X.w) A (eval (.Name f pos) env) Q E s := by
  refine e0a2 (globKind hg V) fun h1 h2 => ?_
  exact Name_function_global V.kind h1 (loadGlobal_global (by rw [V.glob]; exact Z.g.keeps G.base) hv h) h2
theorem globBl {f : Str} {fv : Value} {pos : Pos} {Q : Value → Shared → Prop} (Z : StaticOK X) (hg : isGlob ae f = true) (G : OK X s loc st) (V : EnvOK X env ae s.heap loc st.next) (hv : (f, fv) ∈ builtinsTab) (h : Q fv s) :
    wpAny (model PW X.w) A (eval (.Name f pos) env) Q E s := by
  refine e0a2 (globKind hg V) fun h1 h2 => ?_
  refine e0a2 (Z.bl f fv hv) fun m1 m2 => ?_
  exact Name_function_global V.kind h1 (loadGlobal_builtin (by rw [V.glob]; exact Z.g.keeps G.base) m1 (by rw [V.blt]; exact Z.b.keeps G.base) m2 h) h2

/- a call of a builtin type by its name -/
theorem callType_snd {f : Str} {T : String} {p pos : Pos} {es : List Expr} {Q : Value → Shared → Prop} {P : List AVal → ASt → Prop} (Z : StaticOK X) (S : Snd X r n) (hg : isGlob ae f = true) (hv : (f, Value.type T) ∈ builtinsTab) (h : evs r ae es st P) (hns : es.all notStar = true)
    (Rm : Room A n) (G : OK X s loc st) (V : EnvOK X env ae s.heap loc st.next)
    (k : ThenL X es.length s loc st P fun ws s' => wpAny (model PW X.w) A (call (.type T) ws []) Q E s') :
    wpAny (model PW X.w) A (eval (.Call (.Name f p) es [] pos) env) Q E s :=
  wpAny_Call_NameR (globBl Z hg G V hv (PySem.callWith_type (plainAny hns) (args_snd S h hns Rm G V k)))
theorem callBlt_snd {f : Str} {T : String} {p pos : Pos} {es : List Expr} {Q : Value → Shared → Prop} {P : List AVal → ASt → Prop} (Z : StaticOK X) (S : Snd X r n) (hg : isGlob ae f = true) (hv : (f, Value.builtin T) ∈ builtinsTab) (h : evs r ae es st P) (hns : es.all notStar = true)
    (Rm : Room A n) (G : OK X s loc st) (V : EnvOK X env ae s.heap loc st.next)
    (k : ThenL X es.length s loc st P fun ws s' => wpAny (model PW X.w) A (call (.builtin T) ws []) Q E s') :
    wpAny (model PW X.w) A (eval (.Call (.Name f p) es [] pos) env) Q E s :=
  wpAny_Call_NameR (globBl Z hg G V hv (callWith_builtin (plainAny hns) (args_snd S h hns Rm G V k)))

theorem base_name (m : Str) (env : Env) (w : Sem Value) (p : Pos) (f : Expr) : All (fun f => bare f [] []) (fun f => attributeBase (.Call f [] [] p) m env w = w) f := by
  cases f <;> first | exact .no rfl | skip
  rename_i id q
  intro h
  have h : (id != ("super" : Str)) = true := h
  refine if_pos (c := ((_ || _ || _ || _) = true)) ?_
  rw [h]
  rfl
theorem base_all (m : Str) (env : Env) (w : Sem Value) (e : Expr) : All notSuper (fun e => attributeBase e m env w = w) e := by
  cases e <;> first | exact .no rfl | skip
  rename_i f a k p
  cases a with
  | cons => exact .no (by cases f <;> rfl)
  | nil => cases k with
    | cons => exact .no (by cases f <;> rfl)
    | nil => exact base_name m env w p f
theorem base_snd {o : Expr} {m : Str} (h : notSuper o = true) : attributeBase o m env (eval o env) = eval o env := base_all m env _ o h
end
end
/-! AS11 -/
section
set_option autoImplicit false
set_option maxRecDepth 100000
open PySem PySem.W PyProof.Rows PySem.Calls

inductive SVal (X : Cx) (h0 : Heap) (h : Heap) (loc : Nat → Addr) (N : Nat) : Value → Src → Prop
  | keys {id : Nat} : id < N → SVal X h0 h loc N (.ref (loc id)) (.keys id)
  | lst {id : Nat} : id < N → SVal X h0 h loc N (.ref (loc id)) (.lst id)
  | values {v : Addr} {id : Nat} : id < N → h.IsValuesView v (loc id) → SVal X h0 h loc N (.ref v) (.values id)
  | items {v : Addr} {id : Nat} : id < N → h.IsItemsView v (loc id) → SVal X h0 h loc N (.ref v) (.items id)
  | rev {it : Addr} {id m : Nat} {vs : List Value} : id < N → h.get? (loc id) = some ⟨.type "list", none, .seq vs.toArray m, #[]⟩ → h0.get? it = none → h.IsRevIter it (loc id) ((vs.length : Int) - 1) → SVal X h0 h loc N (.ref it) (.rev id)
  | range {rr : Addr} {a b : Int} {t u v : Tok} : IsRange h rr a b 1 t u v → SVal X h0 h loc N (.ref rr) (.range a b)
  | enum {e it : Addr} {id : Nat} : id < N → h0.get? e = none → h0.get? it = none → e ≠ it → IsEnum h e it 0 .none → h.IsListIter it (loc id) 0 → SVal X h0 h loc N (.ref e) (.enum id)
@[elab_as_elim] theorem SVal.K {X : Cx} {h0 h : Heap} {loc : Nat → Addr} {N : Nat} {m : Value → Src → Prop} {v : Value} {src : Src} (r : SVal X h0 h loc N v src) (k1 : ∀ {id}, id < N → m (.ref (loc id)) (.keys id)) (k2 : ∀ {id}, id < N → m (.ref (loc id)) (.lst id)) (k3 : ∀ {v id}, id < N → h.IsValuesView v (loc id) → m (.ref v) (.values id))
    (k4 : ∀ {v id}, id < N → h.IsItemsView v (loc id) → m (.ref v) (.items id)) (k5 : ∀ {it id k vs}, id < N → h.get? (loc id) = some ⟨.type "list", none, .seq (List.toArray vs) k, #[]⟩ → h0.get? it = none → h.IsRevIter it (loc id) ((vs.length : Int) - 1) → m (.ref it) (.rev id)) (k6 : ∀ {rr a b t u v}, IsRange h rr a b 1 t u v → m (.ref rr) (.range a b))
    (k7 : ∀ {e it id}, id < N → h0.get? e = none → h0.get? it = none → e ≠ it → IsEnum h e it 0 .none → h.IsListIter it (loc id) 0 → m (.ref e) (.enum id)) : m v src :=
  SVal.casesOn (motive := fun v src _ => m v src) r (fun a => k1 a) (fun a => k2 a) (fun a b => k3 a b) (fun a b => k4 a b) (fun a b c d => k5 a b c d) (fun a => k6 a) fun a b c d e f => k7 a b c d e f
/- what is wanted behind a for's head -/
noncomputable def ThenS (X : Cx) (s : Shared) (loc : Nat → Addr) (st : ASt) (P : Src → ASt → Prop) (Q : Value → Shared → Prop) : Prop :=
  ∀ src st' x s' loc', P src st' → OK X s' loc' st' → Ext NoW s loc st s' loc' st' → SVal X s.heap s'.heap loc' st'.next x src → Q x s'

theorem strOf {a b : Str} (h : (a == b) = true) : a = b := by simpa using h
noncomputable def is1 (K : AVal → ASt → Prop) : List AVal → ASt → Prop
  | [], _ => False
  | a :: l, st => match l with
    | [] => K a st
    | _ :: _ => False
noncomputable def is2 (K : AVal → AVal → ASt → Prop) : List AVal → ASt → Prop
  | [], _ => False
  | a :: l, st => is1 (K a) l st

section
variable {X : Cx} {r : Rec} {n : Nat} {A : Around} {E : Value → Shared → Prop} {s s₁ : Shared} {loc loc₁ : Nat → Addr} {st st₁ : ASt} {env : Env} {ae : AEnv} {P : Src → ASt → Prop} {Q : Value → Shared → Prop}

theorem Ext.dead {W : Addr → Prop} (x : Ext W s loc st s₁ loc₁ st₁) {b : Addr} (h : s₁.heap.get? b = none) : s.heap.get? b = none := by
  cases q : s.heap.get? b with
  | none => rfl
  | some o => exact (x.live _ _ q).elim fun o' q' => by rw [h] at q'; cases q'
theorem is1_K {h : Heap} {N : Nat} {K : AVal → ASt → Prop} {l : List AVal} {ws : List Value} {D : List Value → Prop} (h1 : is1 K l st) (r : VRels X h loc N ws l) (k : ∀ a w, K a st → VRel X h loc N w a → D [w]) : D ws := by
  revert h1
  exact r.K False.elim fun rv r => r.K (fun h1 => k _ _ h1 rv) fun _ _ => False.elim
theorem is2_K {h : Heap} {N : Nat} {K : AVal → AVal → ASt → Prop} {l : List AVal} {ws : List Value} {D : List Value → Prop} (h1 : is2 K l st) (r : VRels X h loc N ws l) (k : ∀ a b v w, K a b st → VRel X h loc N v a → VRel X h loc N w b → D [v, w]) : D ws := by
  revert h1
  exact r.K False.elim fun rv r h1 => is1_K (D := fun ws => D (_ :: ws)) h1 r fun b w h rw => k _ _ _ _ h rv rw
theorem call1T {f : Str} {T : String} {p pos : Pos} {e : Expr} {K : AVal → ASt → Prop} (Z : StaticOK X) (S : Snd X r n) (hg : isGlob ae f = true) (hv : (f, Value.type T) ∈ builtinsTab) (h : r.ev e ae st K) (hns : [e].all notStar = true)
    (Rm : Room A n) (G : OK X s loc st) (V : EnvOK X env ae s.heap loc st.next)
    (k : Then X s loc st K fun w s' => wpAny (model PW X.w) A (call (.type T) [w] []) Q E s') : wpAny (model PW X.w) A (eval (.Call (.Name f p) [e] [] pos) env) Q E s :=
  callType_snd Z S hg hv (P := is1 K) h hns Rm G V fun l st1 ws s1 loc1 h _ G x r => is1_K (D := fun ws => wpAny (model PW X.w) A (call (.type T) ws []) Q E s1) h r fun a w h r => k _ _ _ _ _ h G x r

theorem srcPlain_snd {e : Expr} (S : Snd X r n) (h : srcPlain r ae e st P) (Rm : Room A n) (G : OK X s loc st) (V : EnvOK X env ae s.heap loc st.next)
    (T : ThenS X s loc st P Q) : wpAny (model PW X.w) A (eval e env) Q E s :=
  S.ev h Rm G V fun a st₁ vo s₁ loc₁ h G₁ x₁ r₁ => objK (P := fun id st => wp (lstOrKeys id) st P) h r₁ fun id hid h => h.out.elim
    (fun h => G₁.rdLK h fun _ _ _ _ _ h => T _ _ _ _ _ h G₁ x₁ (.lst hid)) fun h => G₁.rdIK h fun _ _ _ _ _ h => T _ _ _ _ _ h G₁ x₁ (.keys hid)

theorem srcView_snd {o : Expr} {m : Str} {apos pos : Pos} (S : Snd X r n) (hs : notSuper o = true) (hl : (apos.endLine == pos.line) = true) (h : srcView r ae o m st P)
    (Rm : Room A n) (G : OK X s loc st) (V : EnvOK X env ae s.heap loc st.next) (T : ThenS X s loc st P Q) : wpAny (model PW X.w) A (eval (.Call (.Attribute o m apos) [] [] pos) env) Q E s := by
  refine wpAny_Call_method0_late (base_snd hs) hl (S.ev h Rm G V fun a st₁ vo s₁ loc₁ h G₁ x₁ r₁ => ?_)
  refine objK (st := st₁) (P := fun id st => wp (isI id) st fun _ st => viewOf m id st P) h r₁ fun id hid h => opq fun g hg => G₁.rdIK h.out fun l kvs hk hns hr h => hg ?_
  have src : ∀ a, Value.ref (loc₁ id) = .ref a → ∃ o, s₁.heap.get? a = some o ∧ o.dict = none := fun a e => by
    o_facts e
    exact hk.elim fun o h => h.elim fun _ h => h.elim fun _ h => ⟨o, h.1, h.2.1.2.1⟩
  refine sel_K h (fun hm h => ?_) fun _ h => grd_K h fun hm h => ?_ <;> obtain rfl := strOf hm
  · refine ⟨"dict", _, PySem.F.plainAttrs_dict, PySem.F.slot_dict_values, PySem.F.type_dict_values, hk.typeIs, src, callWith_builtin rfl (PySem.evalArgs_none ?_)⟩
    refine call_meetsIn PySem.F.slot_dict_values hk.typeIs PySem.F.entry_dict_values (PySem.F.args_dict_values_1 _) (meets_dict_values (intKind PW X.w) _ (notSysB hns)) ⟨⟨kvs, hk⟩, ?_⟩
    have p := G₁.keeps (h' := s₁.heap.push { cls := .type "dict_values", data := .fields #[.ref (loc₁ id)] }) (t := s₁.toks) (fun b o e => Heap.get?_push_of_some _ e)
    exact T _ _ _ _ loc₁ h p.1 (x₁.trans p.2) (.values hid ⟨_, Heap.get?_push_size _ rfl, rfl, rfl⟩)
  · refine ⟨"dict", _, PySem.F.plainAttrs_dict, PySem.F.slot_dict_items, PySem.F.type_dict_items, hk.typeIs, src, callWith_builtin rfl (PySem.evalArgs_none ?_)⟩
    refine call_meetsIn PySem.F.slot_dict_items hk.typeIs PySem.F.entry_dict_items (PySem.F.args_dict_items_1 _) (meets_dict_items (intKind PW X.w) _ (notSysB hns)) ⟨⟨kvs, hk⟩, ?_⟩
    have p := G₁.keeps (h' := s₁.heap.push { cls := .type "dict_items", data := .fields #[.ref (loc₁ id)] }) (t := s₁.toks) (fun b o e => Heap.get?_push_of_some _ e)
    exact T _ _ _ _ loc₁ h p.1 (x₁.trans p.2) (.items hid ⟨_, Heap.get?_push_size _ rfl, rfl, rfl⟩)

theorem src1_snd {e : Expr} {f : Str} {p pos : Pos} (Z : StaticOK X) (S : Snd X r n) (h : src1 r ae (.Call (.Name f p) [e] [] pos) f e st P) (hg : isGlob ae f = true) (hns : [e].all notStar = true) (Rm : Room A n) (G : OK X s loc st) (V : EnvOK X env ae s.heap loc st.next)
    (T : ThenS X s loc st P Q) : wpAny (model PW X.w) A (eval (.Call (.Name f p) [e] [] pos) env) Q E s := by
  refine sel_K h (fun hf h => ?_) fun _ h => sel_K h (fun hf h => ?_) fun _ h => sel_K h (fun hf h => ?_) fun _ h => srcPlain_snd S h Rm G V T
  · obtain rfl := strOf hf
    refine call1T (T := "reversed") Z S hg (by simp [builtinsTab]) h hns Rm G V fun a st₁ w s₁ loc₁ h G₁ x₁ r₁ => ?_
    refine objK (st := st₁) (P := fun id st => wp (isL id) st fun _ st => P (.rev id) st) h r₁ fun id hid h => opq fun g hg => G₁.rdLK h.out fun l vs m hh hr h => hg ?_
    refine call_reversed_list (isList_of hh) ?_
    have p := G₁.keeps (h' := s₁.heap.push (revObj (loc₁ id) ((vs.toArray.size : Int) - 1))) (t := s₁.toks) (fun b o e => Heap.get?_push_of_some _ e)
    exact T _ _ _ _ loc₁ h p.1 (x₁.trans p.2) (.rev hid (Heap.get?_push_of_some _ hh) (x₁.dead (size_none _)) ⟨_, Heap.get?_push_size _ rfl, rfl, rfl⟩)
  · obtain rfl := strOf hf
    refine call1T (T := "enumerate") Z S hg (by simp [builtinsTab]) h hns Rm G V fun a st₁ w s₁ loc₁ h G₁ x₁ r₁ => ?_
    refine objK (st := st₁) (P := fun id st => wp (isL id) st fun _ st => P (.enum id) st) h r₁ fun id hid h => opq fun g hg => G₁.rdLK h.out fun l vs m hh hr h => hg ?_
    refine call_enumerate_list (isList_of hh) fun h' he hit hsz hk => ?_
    have p := G₁.keeps (h' := h') (t := s₁.toks) hk
    exact T _ _ _ _ loc₁ h p.1 (x₁.trans p.2) (.enum hid (x₁.dead (none_ge _ (Nat.le_succ _))) (x₁.dead (none_ge _ (Nat.le_refl _))) (Nat.succ_ne_self _) he hit)
  · obtain rfl := strOf hf
    refine call1T (T := "range") Z S hg (by simp [builtinsTab]) h hns Rm G V fun a st₁ w s₁ loc₁ h G₁ x₁ r₁ => ?_
    refine intK (st := st₁) (P := fun b st => P (.range 0 b) st) h r₁ fun b t h => ?_
    refine call_range_1 ?_
    have p := G₁.keeps (h' := s₁.heap.push { cls := .type "range", data := .fields #[.int 0 s₁.toks, .int b t, .int 1 (s₁.toks + 1)] }) (t := s₁.toks + 1 + 1) (fun b o e => Heap.get?_push_of_some _ e)
    exact T _ _ _ _ loc₁ h p.1 (x₁.trans p.2) (.range (Heap.get?_push_size _ rfl))
theorem src2_snd {e e' : Expr} {f : Str} {p pos : Pos} (Z : StaticOK X) (S : Snd X r n) (h : src2 r ae f e e' st P) (hg : isGlob ae f = true) (hns : [e, e'].all notStar = true) (Rm : Room A n) (G : OK X s loc st) (V : EnvOK X env ae s.heap loc st.next)
    (T : ThenS X s loc st P Q) : wpAny (model PW X.w) A (eval (.Call (.Name f p) [e, e'] [] pos) env) Q E s := by
  refine grd_K h fun hf h => ?_
  obtain rfl := strOf hf
  refine callType_snd (T := "range") Z S hg (by simp [builtinsTab]) (P := is2 fun v w st => asInt v st fun i st => asInt w st fun j st => P (.range i j) st) h hns Rm G V fun l st₁ ws s₁ loc₁ h _ G₁ x₁ r₁ => ?_
  refine is2_K (D := fun ws => wpAny (model PW X.w) A (call (.type "range") ws []) Q E s₁) h r₁ fun a b v w h ra rb => ?_
  refine intK (st := st₁) (P := fun i st => asInt b st fun j st => P (.range i j) st) h ra fun i t h => intK (st := st₁) (P := fun j st => P (.range i j) st) h rb fun j u h => ?_
  refine call_range_2 ?_
  have p := G₁.keeps (h' := s₁.heap.push { cls := .type "range", data := .fields #[.int i t, .int j u, .int 1 s₁.toks] }) (t := s₁.toks + 1) (fun b o e => Heap.get?_push_of_some _ e)
  exact T _ _ _ _ loc₁ h p.1 (x₁.trans p.2) (.range (Heap.get?_push_size _ rfl))

theorem srcName_snd {f : Expr} {args : List Expr} {k : List Keyword} {pos : Pos} (Z : StaticOK X) (S : Snd X r n) (h : srcName r ae (.Call f args k pos) f args k st P) (Rm : Room A n) (G : OK X s loc st) (V : EnvOK X env ae s.heap loc st.next)
    (T : ThenS X s loc st P Q) : wpAny (model PW X.w) A (eval (.Call f args k pos) env) Q E s := by
  unfold srcName at h
  cases e : nameOfE f with
  | none => rw [e] at h; exact srcPlain_snd S h Rm G V T
  | some x =>
    rw [e] at h
    refine e1a1 (nameOfE_is _ _ e) fun p e1_ => ?_; subst e1_
    refine sel_K h (fun hk h => ?_) fun _ h => srcPlain_snd S h Rm G V T
    obtain rfl := List.isEmpty_iff.mp hk
    refine grd_K h fun hb h => ?_
    have hb := Bool.and_eq_true_iff.mp hb
    cases args with
    | nil => exact srcPlain_snd S h Rm G V T
    | cons a args => cases args with
      | nil => exact src1_snd Z S h hb.1 hb.2 Rm G V T
      | cons b args => cases args with
        | nil => exact src2_snd Z S h hb.1 hb.2 Rm G V T
        | cons => exact h.elim
theorem srcOf_snd {e : Expr} (Z : StaticOK X) (S : Snd X r n) (h : srcOf r ae e st P) (Rm : Room A n) (G : OK X s loc st) (V : EnvOK X env ae s.heap loc st.next)
    (T : ThenS X s loc st P Q) : wpAny (model PW X.w) A (eval e env) Q E s := by
  unfold srcOf at h
  cases e1 : callOf e with
  | none => rw [e1] at h; exact srcPlain_snd S h Rm G V T
  | some y =>
    rw [e1] at h
    obtain rfl := callOf_is _ _ e1
    obtain ⟨f, a, k, pos⟩ := y
    have h : srcCall r ae (.Call f a k pos) f a k pos st P := h
    unfold srcCall at h
    cases e2 : attrOf f with
    | none => rw [e2] at h; exact srcName_snd Z S h Rm G V T
    | some y =>
      rw [e2] at h
      obtain rfl := attrOf_is _ _ e2
      refine sel_K h (fun hb h => ?_) fun _ h => srcPlain_snd S h Rm G V T
      have hb := Bool.and_eq_true_iff.mp hb
      obtain rfl := List.isEmpty_iff.mp hb.1
      obtain rfl := List.isEmpty_iff.mp hb.2
      exact grd_K h fun hb h => srcView_snd S (Bool.and_eq_true_iff.mp hb).1 (Bool.and_eq_true_iff.mp hb).2 h Rm G V T
end
end
/-! AS12 -/
section
set_option autoImplicit false
set_option maxRecDepth 100000
open PySem PySem.W PyProof.Rows PySem.Calls

theorem VRels.of_get {X : Cx} {h : Heap} {loc : Nat → Addr} {N : Nat} : ∀ {vs : List Value} {l : List AVal}, vs.length = l.length → (∀ (i : Nat) (v : Value) (a : AVal), vs[i]? = some v → l[i]? = some a → VRel X h loc N v a) → VRels X h loc N vs l
  | [], [], _, _ => .nil
  | v :: vs, a :: l, hl, H => .cons (H 0 v a rfl rfl) (VRels.of_get (by simpa using hl) fun i w b h1 h2 => H (i + 1) w b (by simpa using h1) (by simpa using h2))
  | [], _ :: _, hl, _ => by simp at hl
  | _ :: _, [], hl, _ => by simp at hl
theorem IRels.get {κ : Type} {X : Cx} {h : Heap} {loc : Nat → Addr} {N : Nat} {kvs : List (κ × Value)} {l : List (κ × AVal)} (r : IRels X h loc N kvs l) : ∀ {i : Nat} {k : κ} {v : Value}, kvs[i]? = some (k, v) → ∃ a, l[i]? = some (k, a) ∧ VRel X h loc N v a := by
  induction r with
  | nil => intro i k v e; simp at e
  | cons rv _ ih =>
    intro i k v e
    cases i with
    | zero => simp only [List.getElem?_cons_zero, Option.some.injEq] at e; o_facts e; exact ⟨_, rfl, rv⟩
    | succ i => simp only [List.getElem?_cons_succ] at e ⊢; exact ih e
theorem IRels.len {κ : Type} {X : Cx} {h : Heap} {loc : Nat → Addr} {N : Nat} {kvs : List (κ × Value)} {l : List (κ × AVal)} (r : IRels X h loc N kvs l) : kvs.length = l.length := by
  induction r with
  | nil => rfl
  | cons _ _ ih => simp [ih]

section
variable {X : Cx} {A : Around} {E : Value → Shared → Prop} {s : Shared} {loc : Nat → Addr} {st : ASt} {n : Nat} {h0 : Heap}

theorem listOf_snd {x : Value} {src : Src} {P : AVal → ASt → Prop} {Q : Value → Shared → Prop} (Rm : Room A n) (h : srcItemsZ src st fun l st => wp (newO (.list l)) st P) (G : OK X s loc st) (sv : SVal X h0 s.heap loc st.next x src) (hl : listable src = true)
    (T : Then X s loc st P Q) : wpAny (model PW X.w) A (call (.type "list") [x] []) Q E s := by
  revert h hl
  refine sv.K (fun {id} hid => ?keys) (fun {id} hid => ?lst) (fun {v id} hid hv => ?values) (fun {v id} hid hv => ?items) (fun _ _ _ _ _ h => nomatch h) (fun _ _ h => nomatch h) (fun _ _ _ _ _ _ _ h => nomatch h)
  case keys =>
    intro h _
    refine opq fun g hg => G.rdIK h fun l kvs hk hns hr h => req_K h fun hz h => hk.dictAt.elim fun ep hat => hg ?_
    rw [List.length_map] at hz
    refine kdl_call (kdl_dict (knd := intKind PW X.w) (kvs := kvs) (ep := ep) (notSysB hns)) Rm.handled hat (by rw [hr.len]; exact Nat.le_trans hz million) fun h' tk acc' c' hkeep hh hit => ?_
    refine new_list (t := tk) (vs := acc'.toList) (m := c') h.out G (size_none _) hkeep (by simpa using hh) (VRels.of_get ?_ fun i v a h3 h4 => ?_) T
    · have := hit.1; have := hr.len; simp; lia -abstractProof
    · refine opq fun g hg => (hit.2 i v (by simpa using h3)).elim fun k h => h.elim fun w h => (hr.get h.1).elim fun b h7 => (Value.isInt_shape h.2).elim fun t ht => hg ?_
      rw [List.getElem?_map, h7.1] at h4
      o_facts h4
      exact ht ▸ .int _ _
  case values =>
    intro h _
    refine opq fun g hg => G.rdIK h fun l kvs hk hns hr h => req_K h fun hz h => hk.dictAt.elim fun ep hat => hg ?_
    rw [List.length_map] at hz
    refine kdl_call (kdl_values (knd := intKind PW X.w) (kvs := kvs) (ep := ep)) Rm.handled ⟨hv, hat⟩ (by rw [hr.len]; exact Nat.le_trans hz million) fun h' tk acc' c' hkeep hh hit => ?_
    refine new_list (t := tk) (vs := acc'.toList) (m := c') h.out G (size_none _) hkeep (by simpa using hh) (VRels.of_get ?_ fun i v a h3 h4 => ?_) T
    · have := hit.1; have := hr.len; simp; lia -abstractProof
    · refine opq fun g hg => (hit.2 i v (by simpa using h3)).elim fun k h => (hr.get h).elim fun b h7 => hg ?_
      rw [List.getElem?_map, h7.1] at h4
      o_facts h4
      exact h7.2.mono (fun a o e _ => hkeep a o e) (fun _ _ => rfl) (Nat.le_refl _)
  case items =>
    intro h _
    refine opq fun g hg => G.rdIK h fun l kvs hk hns hr h => req_K h fun hz h => hk.dictAt.elim fun ep hat => hg ?_
    rw [List.length_map] at hz
    refine kdx_call (knd := intKind PW X.w) (kvs := kvs) (ep := ep) Rm.handled hv hat (by rw [hr.len]; exact Nat.le_trans hz million) fun h' tk acc c as hkeep hh hlen hG hacc => ?_
    refine new_list (t := tk) (vs := acc.toList) (m := c) h.out G (size_none _) hkeep (by simpa using hh) (VRels.of_get ?_ fun i v a h3 h4 => ?_) T
    · have := hr.len; rw [hacc]; simp; lia -abstractProof
    · rw [hacc, List.getElem?_map] at h3
      refine opq fun g hg => (Option.map_eq_some_iff.mp h3).elim fun ad h5 => (hG.pairs i ad h5.1).elim fun key h => h.elim fun k h => h.elim fun w h => (hr.get h.1).elim fun b h9 => (Value.isInt_shape h.2.1).elim fun t ht => hg ?_
      rw [List.getElem?_map, h9.1] at h4
      o_facts h4
      obtain rfl := ht
      exact h5.2 ▸ .tup (vs := [.int k t, w]) h.2.2 rfl rfl (.cons (.int _ _) (.cons (h9.2.mono (fun a o e _ => hkeep a o e) (fun _ _ => rfl) (Nat.le_refl _)) .nil))
  case lst =>
    intro h _
    refine opq fun g hg => G.rdLK h fun l vs m hh hr h => req_K h fun hz h => hg ?_
    refine PySem.call_list_seq _ (.inl rfl) hh rfl rfl (fun h' c' hkeep hh' => ?_) (hr.fits hz)
    exact new_list (t := s.toks) (vs := vs) (m := c') h.out G (size_none _) hkeep hh' (hr.mono (fun a o e _ => hkeep a o e) (fun _ _ => rfl) (Nat.le_refl _)) T
end
end
/-! AS13 -/
section
set_option autoImplicit false
set_option maxRecDepth 100000
open PySem PySem.W PyProof.Rows PySem.Calls

structure Itr (X : Cx) (A : Around) (target : Expr) (I : Addr) (fp wr : List Addr) (items : List AVal) (num : Nat) (P Md : Nat → Value → Heap → Prop) (St : Nat → Heap → Prop) (s₀ : Shared) (loc₀ : Nat → Addr) (st₀ : ASt) : Prop where
  turns : KTurns PW X.w A target I fp wr num P Md St
  len : num = items.length
  fields : ∀ (i : Nat) (h : Heap), St i h → ∀ b ∈ wr, ∃ o vs, h.get? b = some o ∧ o.data = .fields vs
  rel : ∀ (s : Shared) (loc : Nat → Addr) (st : ASt) (i : Nat) (v : Value), (∀ b o, s₀.heap.get? b = some o → Imm o = true → s.heap.get? b = some o) → (∀ j, j < st₀.next → loc j = loc₀ j) → st₀.next ≤ st.next → i < num → P i v s.heap → ∃ a, items[i]? = some a ∧ VRel X s.heap loc st.next v a
  self : ∀ (i : Nat) (s : Shared) (Q : Value → Shared → Prop) (E : Value → Shared → Prop), St i s.heap → Q (.ref I) s → wpAny (model PW X.w) A (pyIter (.ref I)) Q E s

/- what is wanted behind the making of an iterator -/
noncomputable def ThenI (X : Cx) (A : Around) (target : Expr) (h0 : Heap) (s : Shared) (loc : Nat → Addr) (st : ASt) (src : Src) (P : List AVal → ASt → Prop) (Q : Value → Shared → Prop) : Prop :=
  ∀ items I fp wr num Pv Md St s', P items st → OK X s' loc st → Ext NoW s loc st s' loc st → Itr X A target I fp wr items num Pv Md St s' loc st → St 0 s'.heap → (∀ b ∈ wr, h0.get? b = none ∧ ∃ o vs, s'.heap.get? b = some o ∧ o.data = .fields vs) →
    (∀ b ∈ fp, b ∈ wr ∨ ∃ id, src.id? = some id ∧ id < st.next ∧ b = loc id) → Q (.ref I) s'

section
variable {X : Cx} {A : Around} {E : Value → Shared → Prop} {s : Shared} {loc : Nat → Addr} {st : ASt} {n : Nat} {h0 : Heap} {src : Src} {target : Expr}

theorem isNameE_elim {t : Expr} (h : isNameE t = true) : ∃ x p, t = .Name x p := by
  exact (Option.isSome_iff_exists.mp h).elim fun x q => ⟨x, nameOfE_is _ _ q⟩
theorem tupE_elim {t : Expr} {ts : List Expr} (h : tupE t = some ts) : ∃ k p, t = .Tuple ts k p := by
  exact tupE_is _ _ h
theorem isTupE_elim {t : Expr} (h : isTupE t = true) : ∃ ts k p, t = .Tuple ts k p ∧ ts.all isNameE = true ∧ ts.length < 8 := by
  unfold isTupE at h
  cases e : tupE t with
  | none => rw [e] at h; cases h
  | some ts =>
    rw [e] at h
    have h := Bool.and_eq_true_iff.mp h
    exact (tupE_elim e).elim fun k q => q.elim fun p q => ⟨ts, k, p, q, h.1, of_decide_eq_true h.2⟩
theorem go_name {I : Addr} (h : isNameE target = true) {v : Value} {s : Shared} {Q : Unit → Shared → Prop} {E : Value → Shared → Prop} (hQ : Q () s) : wpAny (model PW X.w) A (letOwnedTupleGo target (.ref I) v) Q E s := by
  refine e2a1 (isNameE_elim h) fun x p e2_ => ?_; subst e2_
  exact wpAny_pure hQ
theorem go_lst {I l : Addr} {i : Nat} (h : (isNameE target || isTupE target) = true) {v : Value} {s : Shared} {Q : Unit → Shared → Prop} {E : Value → Shared → Prop} (hit : s.heap.IsListIter I l i) (hQ : Q () s) :
    wpAny (model PW X.w) A (letOwnedTupleGo target (.ref I) v) Q E s := by
  rcases Bool.or_eq_true_iff.mp h with h | h
  · exact go_name h hQ
  · refine e3a2 (isTupE_elim h) fun ts k p e3_ _ => ?_; subst e3_
    cases v <;> first | exact wpAny_letOwnedTupleGo_listiter hit hQ | exact wpAny_pure hQ

theorem foot2 {I : Addr} {wr : List Addr} {id : Nat} (hw : I ∈ wr) (e : src.id? = some id) (hid : id < st.next) : ∀ b ∈ [I, loc id], b ∈ wr ∨ ∃ id, src.id? = some id ∧ id < st.next ∧ b = loc id :=
  fun b hb => (List.mem_cons.mp hb).elim (fun q => .inl (q ▸ hw)) fun q => .inr ⟨id, e, hid, List.mem_singleton.mp q⟩
theorem fields1 {h : Heap} {a : Addr} {c : Value} {vs : Array Value} (q : ∃ o, h.get? a = some o ∧ o.cls = c ∧ o.data = .fields vs) : ∀ b ∈ [a], ∃ o vs, h.get? b = some o ∧ o.data = .fields vs :=
  fun b hb => q.elim fun o q => ⟨o, vs, (List.mem_singleton.mp hb) ▸ q.1, q.2.2⟩
theorem VRels.back {h : Heap} {N : Nat} {vs : List Value} {l : List AVal} (r : VRels X h loc N vs l) {i : Nat} {v : Value} (e : vs[i]? = some v) : ∃ a, l[i]? = some a ∧ VRel X h loc N v a := by
  have hlt := (List.getElem?_eq_some_iff.mp e).1
  rw [r.length] at hlt
  obtain ⟨w, h1, h2⟩ := r.get (List.getElem?_eq_getElem hlt)
  rw [e] at h1
  cases h1
  exact ⟨_, List.getElem?_eq_getElem hlt, h2⟩
theorem iter_new {ob : Obj} {vs : Array Value} {items : List AVal} {fp : List Addr} {num : Nat} {Pv Md : Nat → Value → Heap → Prop} {St : Nat → Heap → Prop} {P : List AVal → ASt → Prop} {Q : Value → Shared → Prop} (K : ThenI X A target h0 s loc st src P Q) (h : P items st) (G : OK X s loc st) (ho : ob.isFreed = false) (hd : ob.data = .fields vs)
    (dead : ∀ b, s.heap.get? b = none → h0.get? b = none) (hc : ∀ b ∈ fp, b ∈ [s.heap.objs.size] ∨ ∃ id, src.id? = some id ∧ id < st.next ∧ b = loc id)
    (turns : KTurns PW X.w A target s.heap.objs.size fp [s.heap.objs.size] num Pv Md St) (len : num = items.length) (fields : ∀ (i : Nat) (h : Heap), St i h → ∀ b ∈ [s.heap.objs.size], ∃ o vs, h.get? b = some o ∧ o.data = .fields vs)
    (rel : ∀ (s' : Shared) (N : Nat) (loc' : Nat → Addr) (i : Nat) (v : Value), (∀ v a, VRel X s.heap loc st.next v a → VRel X s'.heap loc' N v a) → i < num → Pv i v s'.heap → ∃ a, items[i]? = some a ∧ VRel X s'.heap loc' N v a)
    (self : ∀ (i : Nat) (s' : Shared) (Q : Value → Shared → Prop) (E : Value → Shared → Prop), St i s'.heap → Q (.ref s.heap.objs.size) s' → wpAny (model PW X.w) A (pyIter (.ref s.heap.objs.size)) Q E s')
    (h0 : St 0 (s.heap.push ob)) : Q (.ref s.heap.objs.size) { s with heap := s.heap.push ob } :=
  have p := G.keeps (h' := s.heap.push ob) (t := s.toks) fun b o e => Heap.get?_push_of_some _ e
  K _ _ _ _ _ _ _ _ _ h p.1 p.2 ⟨turns, len, fields, fun s' loc' st' i v x1 x2 x3 hin hp => rel s' _ loc' i v (fun v a r => (r.ext p.2).mono x1 x2 x3) hin hp, self⟩ h0
    (fun b hb => by rw [List.mem_singleton] at hb; subst hb; exact ⟨dead _ (size_none _), _, _, Heap.get?_push_size _ ho, hd⟩) hc

theorem pyIter_snd {x : Value} {P : List AVal → ASt → Prop} {Q : Value → Shared → Prop} (Rm : Room A n) (h : srcItems src st P) (G : OK X s loc st) (sv : SVal X h0 s.heap loc st.next x src) (ht : tgtOk src target = true)
    (dead : ∀ b, s.heap.get? b = none → h0.get? b = none) (K : ThenI X A target h0 s loc st src P Q) : wpAny (model PW X.w) A (pyIter x) Q E s := by
  revert h ht K
  refine sv.K (fun {id} hid => ?keys) (fun {id} hid => ?lst) (fun {v id} hid hv => ?values) (fun _ _ _ h => nomatch h) (fun {it id m vs} hid hh hz hit => ?rev) (fun {rr a b t u v} hrr => ?range) (fun {e it id} hid hz1 hz2 hne he hit => ?enum)
  case keys =>
    intro h ht K
    refine opq fun g hg => G.rdIK h fun l kvs hk hns hr h => hk.dictAt.elim fun ep hat => hg ?_
    refine wpAny_pyIter_dict (notSysB hns) hat (iter_new K h G rfl rfl dead (foot2 (.head _) rfl hid) (KTurns.ofWalks (Walks.dictKeys (knd := intKind PW X.w) Rm.handled _ _ (Nat.ne_of_lt hat.lt_size) kvs ep) (fun i v s Q E _ hq => go_name ht hq))
      (by rw [hr.len, List.length_map]) (fun i h hs => fields1 hs.1) (fun s' N loc' i v m hin hp => ?_) (fun i s' Q E hs hq => wpAny_pyIter_keyiter hs.1 hq) ⟨⟨_, Heap.get?_push_size _ rfl, rfl, rfl⟩, hat.push _⟩)
    refine opq fun g hg => hp.elim fun k h => h.elim fun w h => (hr.get h.1).elim fun b h7 => (Value.isInt_shape h.2).elim fun t ht => hg ?_
    obtain rfl := ht
    exact ⟨_, by rw [List.getElem?_map, h7.1]; rfl, .int _ _⟩
  case values =>
    intro h ht K
    refine opq fun g hg => G.rdIK h fun l kvs hk hns hr h => hk.dictAt.elim fun ep hat => hg ?_
    refine wpAny_pyIter_values hv hat (iter_new K h G rfl rfl dead (foot2 (.head _) rfl hid) (KTurns.ofWalks (Walks.dictValues (knd := intKind PW X.w) Rm.handled _ _ (Nat.ne_of_lt hat.lt_size) kvs ep) (fun i v s Q E _ hq => go_name ht hq))
      (by rw [hr.len, List.length_map]) (fun i h hs => fields1 hs.1) (fun s' N loc' i v m hin hp => ?_) (fun i s' Q E hs hq => wpAny_pyIter_valiter hs.1 hq) ⟨⟨_, Heap.get?_push_size _ rfl, rfl, rfl⟩, hat.push _⟩)
    exact hp.elim fun k h => (hr.get h).elim fun b h7 => ⟨_, by rw [List.getElem?_map, h7.1]; rfl, m _ _ h7.2⟩
  case lst =>
    intro h ht K
    refine opq fun g hg => G.rdLK h fun l vs m hh hr h => hg ?_
    refine wpAny_pyIter_list (isList_of hh) (iter_new K h G rfl rfl dead (foot2 (.head _) rfl hid) (KTurns.ofWalks (Walks.list Rm.handled _ _ (Nat.ne_of_lt (Heap.lt_size hh)) vs.toArray) (fun i v s Q E hst hq => go_lst ht hst.1 hq))
      (List.size_toArray.trans hr.length) (fun i h hs => fields1 hs.1) (fun s' N loc' i v m hin hp => ?_) (fun i s' Q E hs hq => wpAny_pyIter_listiter hs.1 hq) ⟨⟨_, Heap.get?_push_size _ rfl, rfl, rfl⟩, isList_of (Heap.get?_push_of_some _ hh)⟩)
    exact (hr.back (List.getElem?_toArray.symm.trans hp)).elim fun a h => ⟨a, h.1, m _ _ h.2⟩
  case rev =>
    intro h ht K
    refine opq fun g hg => G.rdLK h fun l vs' m' hh' hr h => hg ?_
    obtain ⟨rfl, rfl⟩ : vs' = vs ∧ m' = m := by rw [hh] at hh'; simpa using (by simpa using hh' : vs = vs' ∧ m = m').imp Eq.symm Eq.symm
    have hne : loc id ≠ it := fun q => hit.elim fun o h => by have e := h.1; rw [← q, hh] at e; o_facts e; have e := h.2.2; o_facts e
    refine wpAny_pyIter_revIter hit (K _ _ _ [it] _ _ _ _ s h G (.refl ..) ⟨KTurns.ofWalks (Walks.listRev Rm.handled it (loc id) hne vs'.toArray) (fun i v s Q E hst hq => go_name ht hq), ?_, fun i h hs => fields1 hs.2.1, fun s' loc' st' i v x1 x2 x3 hin hp => ?_, fun i s' Q E hs hq => wpAny_pyIter_revIter hs.2.1 hq⟩
      ⟨Nat.zero_le _, ?_, isList_of hh⟩ (fun b hb => ⟨by rw [List.mem_singleton] at hb; exact hb ▸ hz, fields1 hit b hb⟩) (foot2 (.head _) rfl hid))
    · rw [List.size_toArray, hr.length, List.length_reverse]
    · rw [List.size_toArray] at hin hp
      have hp : vs'.reverse[i]? = some v := by rw [List.getElem?_reverse hin]; exact List.getElem?_toArray.symm.trans hp
      exact (hr.reverse.back hp).elim fun a h => ⟨a, h.1, h.2.mono x1 x2 x3⟩
    · rw [List.size_toArray]; simpa using hit
  case range =>
    intro h ht K
    refine req_K h fun hb h => ?_
    have hrs : Builtin.Range.rangeSize a b 1 = ((b - a).toNat : Int) := by rw [rangeSize_one]; split <;> lia -abstractProof
    refine wpAny_pyIter_range hrr (small_one (by lia -abstractProof) (by lia -abstractProof) (by lia -abstractProof) (by lia -abstractProof)) ?_
    rw [hrs]
    refine iter_new K h G rfl rfl dead (fun b hb => .inl hb) (KTurns.ofWalks (Walks.range Rm.handled s.heap.objs.size a 1 (b - a).toNat) (fun i v s Q E hst hq => go_name ht hq))
      (by simp) (fun i h hs => fun b hb => ⟨_, _, (List.mem_singleton.mp hb) ▸ hs, rfl⟩) (fun s' N loc' i v m hin hp => ?_) (fun i s' Q E hs hq => wpAny_pyIter_rangeiter hs hq) ?_
    · refine hp.elim fun t ht => ⟨.int (a + (i : Int)), by simp [hin], ht ▸ ?_⟩
      rw [Int.mul_one]; exact .int _ _
    · have := Heap.get?_push_size s.heap (o := { cls := .type "range_iterator", data := .fields #[rawInt a, rawInt ((b - a).toNat : Int), rawInt 1] }) rfl
      simpa [IsRangeIter] using this
  case enum =>
    intro h ht K
    refine opq fun g hg => G.rdLK h fun l vs m hh hr h => hg ?_
    refine e3a3 (isTupE_elim ht) fun ts k p e3_ _ _ => ?_; subst e3_
    have hne1 : loc id ≠ e := fun q => by rw [q] at hh; unfold IsEnum at he; rw [hh] at he; simp at he
    have hne2 : loc id ≠ it := fun q => hit.elim fun o h => by have e := h.1; rw [← q, hh] at e; o_facts e; have e := h.2.2; o_facts e
    have hw : ∀ {h : Heap} {i : Nat} {old : Value} {j : Int}, IsEnum h e it j old → h.IsListIter it (loc id) i → ∀ b ∈ [e, it], ∃ o vs, h.get? b = some o ∧ o.data = .fields vs := fun h1 h2 b hb => (List.mem_cons.mp hb).elim (fun q => ⟨_, _, q ▸ h1, rfl⟩) (fields1 h2 b)
    refine wpAny_pyIter_enum he (K _ e [e, it, loc id] [e, it] _ _ _ _ s h G (.refl ..) ⟨KTurns.ofWalksU (WalksT.enumerate Rm.handled e it (loc id) hne hne1 hne2 vs.toArray).toU, by rw [List.size_toArray, hr.length]; simp, fun i h hs => hs.1.elim fun old h1 => hw h1 hs.2.1, fun s' loc' st' i v x1 x2 x3 hin hp => ?_, fun i s' Q E hs hq => hs.1.elim fun old he' => wpAny_pyIter_enum he' hq⟩
      ⟨⟨_, he⟩, hit, isList_of hh⟩ (fun b hb => ⟨(List.mem_cons.mp hb).elim (fun q => q ▸ hz1) fun q => (List.mem_singleton.mp q) ▸ hz2, hw he hit b hb⟩) (fun b hb => (List.mem_cons.mp hb).elim (fun q => .inl (q ▸ .head _)) fun q => foot2 (.tail _ (.head _)) rfl hid b q))
    refine opq fun g hg => hp.elim fun T h => h.elim fun vals h => h.2.1.elim fun t h3 => h3.elim fun w h3 => (hr.back (List.getElem?_toArray.symm.trans h3.1)).elim fun a h5 => h.2.2.elim fun o h6 => h6.2.2.elim fun mm hd => hg ?_
    have hv := h3.2
    subst hv
    have hv := h.1
    subst hv
    exact ⟨_, by rw [List.getElem?_map, List.getElem?_zipIdx, h5.1]; simp, .tup (vs := [.int (i : Int) t, w]) h6.1 h6.2.1 hd (.cons (.int _ _) (.cons (h5.2.mono x1 x2 x3) .nil))⟩
end
end
/-! AS14 -/
section
set_option autoImplicit false
set_option maxRecDepth 100000
open PySem PySem.W PyProof.Rows PySem.Calls

section
variable {X : Cx} {r : Rec} {n : Nat} {A : Around} {E : Value → Shared → Prop} {s s₁ : Shared} {loc loc₁ : Nat → Addr} {st st₁ : ASt} {env : Env} {ae ae' : AEnv} {W : Addr → Prop} {sc : Scope} {P : AEnv → ASt → Prop} {Q : Unit → Shared → Prop}

theorem ThenA.after (T : ThenA X env W sc s loc st P Q) (x : Ext W s loc st s₁ loc₁ st₁) : ThenA X env W sc s₁ loc₁ st₁ P Q :=
  fun ae st' s' loc' h e G x' V => T ae st' s' loc' h e G (x.trans x') V
theorem Ext.any (x : Ext NoW s loc st s₁ loc₁ st₁) : Ext W s loc st s₁ loc₁ st₁ := x.mono fun _ => False.elim

theorem bindT_cases (t : Expr) : (∃ x p, nameOfE t = some x ∧ t = .Name x p) ∨ nameOfE t = none ∧ ((∃ o a p, attrOf t = some (o, a, p) ∧ t = .Attribute o a p) ∨ attrOf t = none ∧ ((∃ o i p, subOf t = some (o, i) ∧ t = .Subscript o i p) ∨ subOf t = none)) := by
  cases e1 : nameOfE t with
  | some x => exact .inl ((nameOfE_is _ _ e1).elim fun p q => ⟨x, p, rfl, q⟩)
  | none =>
    cases e2 : attrOf t with
    | some y => exact .inr ⟨rfl, .inl ⟨_, _, _, rfl, attrOf_is _ _ e2⟩⟩
    | none =>
      cases e3 : subOf t with
      | some y => exact .inr ⟨rfl, .inr ⟨rfl, .inl ((subOf_is _ _ e3).elim fun p q => ⟨_, _, p, rfl, q⟩)⟩⟩
      | none => exact .inr ⟨rfl, .inr ⟨rfl, .inr rfl⟩⟩
theorem bindT_snd {t : Expr} {va : Value} {a : AVal} (Z : StaticOK X) (S : Snd X r n) (wo : WOK ae.sc env W) (h : bindT r t ae a st P) (Rm : Room A n) (G : OK X s loc st) (V : EnvOK X env ae s.heap loc st.next) (ra : VRel X s.heap loc st.next va a)
    (T : ThenA X env W ae.sc s loc st P Q) : wpAny (model PW X.w) A (assign t env va) Q E s := by
  unfold bindT bindA bindS at h
  rcases bindT_cases t with ⟨x, p, e1, e2⟩ | ⟨e0, ⟨o, a', p, e1, e2⟩ | ⟨e3, ⟨o, i, p, e1, e2⟩ | e1⟩⟩
  · rw [e1] at h; subst e2
    exact wpAny_assign_Name (storeName_snd wo h G V ra T)
  · rw [e0, e1] at h; subst e2
    rw [assign_Attribute]
    refine wpAny_bind (wpAny_holding (S.ev h Rm G V fun o st₁ vo s₁ loc₁ h G₁ x₁ r₁ => wpAny_bind (wpAny_standAt (wpAny_bind (wpAny_holding (attrSet_snd Z h.out G₁ r₁ (ra.ext x₁) fun st₂ s₂ loc₂ h G₂ x₂ => wpAny_release ?_))))))
    have x := x₁.trans x₂
    exact T _ _ s₂ loc₂ h rfl G₂ x.any (V.ext G x)
  · rw [e0, e3, e1] at h; subst e2
    rw [assign_Subscript]
    refine wpAny_bind (wpAny_holding (S.ev h Rm G V fun o st₁ vo s₁ loc₁ h G₁ x₁ r₁ => wpAny_bind (wpAny_holding (S.ev h Rm G₁ (V.ext G x₁) fun i st₂ vi s₂ loc₂ h G₂ x₂ r₂ => wpAny_bind (wpAny_standAt (wpAny_bind (wpAny_holding
      (itemSet_snd h.out G₂ (r₁.ext x₂) r₂ (ra.ext (x₁.trans x₂)) fun st₃ s₃ loc₃ h G₃ x₃ => wpAny_release ?_))))))))
    have x := (x₁.trans x₂).trans x₃
    exact T _ _ s₃ loc₃ h rfl G₃ x.any (V.ext G x)
  · rw [e0, e3, e1] at h; exact h.elim

theorem assignEach_all (rest : List Expr) (env : Env) (e : Expr) : All notStar (fun e => assignEach (e :: rest) env = (false, assign e env) :: assignEach rest env) e := by cases e <;> first | exact .no rfl | exact .yes rfl
theorem assignEach_plain {t : Expr} {ts : List Expr} (h : notStar t = true) : assignEach (t :: ts) env = (false, assign t env) :: assignEach ts env := assignEach_all ts env t h
theorem tupOk_len : ∀ {ts : List Expr} {vs : List AVal}, tupOk ts vs = true → ts.length = vs.length ∧ (assignEach ts env).length = vs.length ∧ (assignEach ts env).findIdx? (·.1) = none
  | [], [], _ => ⟨rfl, rfl, rfl⟩
  | [], _ :: _, h => nomatch h
  | _ :: _, [], h => nomatch h
  | t :: ts, v :: vs, h => by
    have h := Bool.and_eq_true_iff.mp h
    have ih := tupOk_len h.2
    rw [assignEach_plain h.1]
    exact ⟨congrArg Nat.succ ih.1, congrArg Nat.succ ih.2.1, by rw [List.findIdx?_cons]; simp [ih.2.2]⟩

theorem bindTs_snd (Z : StaticOK X) (S : Snd X r n) (Rm : Room A n) : ∀ {ts : List Expr} {ws : List Value} {vs : List AVal} {ae : AEnv} {st : ASt} {s : Shared} {loc : Nat → Addr} (_ : tupOk ts vs = true) (_ : WOK ae.sc env W) (_ : bindTs r ts ae vs st P) (_ : OK X s loc st) (_ : EnvOK X env ae s.heap loc st.next) (_ : VRels X s.heap loc st.next ws vs)
    (_ : ThenA X env W ae.sc s loc st P Q), wpAny (model PW X.w) A (assignInOrder ((assignEach ts env).map (·.2)) ws) Q E s
  | [], ws, [], ae, st, s, loc, _, wo, h, G, V, rw, T => wpAny_pure (T _ _ s loc h rfl G (.refl ..) V)
  | [], _, _ :: _, _, _, _, _, hb, _, _, _, _, _, _ => nomatch hb
  | _ :: _, _, [], _, _, _, _, hb, _, _, _, _, _, _ => nomatch hb
  | t :: ts, ws, v :: vs, ae, st, s, loc, hb, wo, h, G, V, rw, T => by
    have hb := Bool.and_eq_true_iff.mp hb
    cases rw with
    | cons rv rw =>
      rw [assignEach_plain hb.1]
      exact assignInOrder_cons (bindT_snd Z S wo h Rm G V rv fun ae₁ st₁ s₁ loc₁ h e G₁ x₁ V₁ => bindTs_snd Z S Rm hb.2 (e ▸ wo) h G₁ V₁ (rw.ext x₁) (e ▸ T.after x₁))

theorem assignT_snd {t : Expr} {va : Value} {a : AVal} (Z : StaticOK X) (S : Snd X r n) (wo : WOK ae.sc env W) (h : assignT r t ae a st P) (Rm : Room A n) (G : OK X s loc st) (V : EnvOK X env ae s.heap loc st.next) (ra : VRel X s.heap loc st.next va a)
    (T : ThenA X env W ae.sc s loc st P Q) : wpAny (model PW X.w) A (assign t env va) Q E s := by
  unfold assignT at h
  cases ht : tupE t with
  | none => rw [ht] at h; exact bindT_snd Z S wo h Rm G V ra T
  | some ts =>
    rw [ht] at h
    refine e2a1 (tupE_elim ht) fun k p e2_ => ?_; subst e2_
    revert h
    refine ra.K False.elim (fun _ => False.elim) (fun _ _ => False.elim) (fun _ _ => False.elim) (fun he htc htd hr h => ?_) (fun _ => False.elim) (fun _ _ _ => False.elim)
    · refine grd_K h fun hb h => ?_
      have e := tupOk_len (env := env) hb
      refine assign_Tuple_tuple Rm.handled ⟨_, he, htc, _, htd⟩ (by rw [e.2.1, List.size_toArray, hr.length]) e.2.2 fun h' hx => ?_
      have p := G.keeps (h' := h') (t := s.toks) (fun b o e => hx b o (Nat.ne_of_lt (Heap.lt_size e)) e)
      exact bindTs_snd Z S Rm hb wo h p.1 (V.ext G p.2) (by simpa using hr.ext p.2) (T.after p.2.any)

/- names bound one after the other -/
noncomputable def setVs : List Str → List AVal → List (Str × AVal) → List (Str × AVal)
  | [], _, l => l
  | x :: xs, vs, l => match vs with
    | [] => l
    | v :: vs => setVs xs vs (setv x v l)
theorem setVs_congr : ∀ (xs : List Str) (vs : List AVal) {l l' : List (Str × AVal)}, (∀ y, l.lookup y = l'.lookup y) → ∀ y, (setVs xs vs l).lookup y = (setVs xs vs l').lookup y
  | [], _, _, _, h => h
  | _ :: _, [], _, _, h => h
  | x :: xs, v :: vs, _, _, h => setVs_congr xs vs fun y => by rw [setv_lookup, setv_lookup, h]
theorem setVs_move : ∀ (xs : List Str) (vs : List AVal) {x : Str} {v : AVal} {l : List (Str × AVal)}, x ∉ xs → ∀ y, (setVs xs vs (setv x v l)).lookup y = (setv x v (setVs xs vs l)).lookup y
  | [], _, _, _, _, _ => fun _ => rfl
  | _ :: _, [], _, _, _, _ => fun _ => rfl
  | z :: xs, w :: vs, x, v, l, hn => fun y => by
    rw [List.mem_cons, not_or] at hn
    refine (setVs_congr xs vs (fun y => ?_) y).trans (setVs_move xs vs hn.2 y)
    simp only [setv_lookup]
    by_cases q1 : y = x
    · subst q1; rw [if_pos rfl, if_neg hn.1, if_pos rfl]
    · rw [if_neg q1, if_neg q1]
theorem setVs_snoc : ∀ (xs : List Str) (vs : List AVal) {x : Str} {v : AVal} {l : List (Str × AVal)}, xs.length = vs.length → setVs (xs ++ [x]) (vs ++ [v]) l = setv x v (setVs xs vs l)
  | [], [], _, _, _, _ => rfl
  | _ :: xs, _ :: vs, _, _, _, h => setVs_snoc xs vs (Nat.succ.inj h)
  | [], _ :: _, _, _, _, h => nomatch h
  | _ :: _, [], _, _, _, h => nomatch h
theorem setVs_reverse : ∀ {xs : List Str} {vs : List AVal} {l : List (Str × AVal)}, xs.Nodup → xs.length = vs.length → ∀ y, (setVs xs.reverse vs.reverse l).lookup y = (setVs xs vs l).lookup y
  | [], [], _, _, _ => fun _ => rfl
  | [], _ :: _, _, _, h => nomatch h
  | _ :: _, [], _, _, h => nomatch h
  | x :: xs, v :: vs, l, hn, h => fun y => by
    have hn := List.nodup_cons.mp hn
    have h := Nat.succ.inj h
    rw [List.reverse_cons, List.reverse_cons, setVs_snoc _ _ (by rw [List.length_reverse, List.length_reverse, h]), setv_lookup, setVs_reverse hn.2 h]
    exact ((setVs_move xs vs hn.1 y).trans (setv_lookup ..)).symm

theorem grd_I {α : Type} {c : Bool} {m : M α} {P : α → ASt → Prop} (hc : c = true) (h : m st P) : grd c m st P := by subst hc; exact h
/- names bound in order -/
theorem setVs_snd : ∀ {xs : List Str} {ws : List Value} {vs : List AVal} {l : List (Str × AVal)} {st : ASt} {s : Shared} {loc : Nat → Addr} (_ : WOK sc env W) (_ : ∀ x ∈ xs, bindable (sc.names.lookup x) = true) (_ : P ⟨sc, setVs xs vs l⟩ st) (_ : OK X s loc st) (_ : EnvOK X env ⟨sc, l⟩ s.heap loc st.next) (_ : VRels X s.heap loc st.next ws vs) (_ : xs.length = vs.length)
    (_ : ThenA X env W sc s loc st P Q), wpAny (model PW X.w) A (assignInOrder (xs.map fun n => bindName env n) ws) Q E s
  | [], ws, [], l, st, s, loc, wo, hb, h, G, V, rw, hl, T => wpAny_pure (T _ _ s loc h rfl G (.refl ..) V)
  | [], _, _ :: _, _, _, _, _, _, _, _, _, _, _, hl, _ => nomatch hl
  | _ :: _, _, [], _, _, _, _, _, _, _, _, _, _, hl, _ => nomatch hl
  | x :: xs, ws, v :: vs, l, st, s, loc, wo, hb, h, G, V, rw, hl, T => by
    cases rw with
    | cons rv rw =>
      refine assignInOrder_cons (bindName_snd (ae := ⟨sc, l⟩) (P := fun ae st' => ae = ⟨sc, setv x v l⟩ ∧ st' = st) wo (grd_I (hb x (.head _)) ⟨rfl, rfl⟩) G V rv ?_)
      rintro ae st' s₁ loc₁ ⟨rfl, rfl⟩ _ G₁ x₁ V₁
      exact setVs_snd wo (fun y hy => hb y (.tail _ hy)) h G₁ V₁ (rw.ext x₁) (Nat.succ.inj hl) (T.after x₁)
theorem bindTs_names : ∀ {ts : List Expr} {vs : List AVal} {ae : AEnv}, ts.all isNameE = true → tupOk ts vs = true → bindTs r ts ae vs st P → P ⟨ae.sc, setVs (ts.filterMap nameOfE) vs ae.vars⟩ st ∧ (∀ x ∈ ts.filterMap nameOfE, bindable (ae.sc.names.lookup x) = true) ∧ (ts.filterMap nameOfE).length = vs.length
  | [], [], _, _, _, h => ⟨h, (by intro x q; cases q), rfl⟩
  | [], _ :: _, _, _, hb, _ => nomatch hb
  | _ :: _, [], _, _, hb, _ => nomatch hb
  | t :: ts, v :: vs, ae, hn, hb, h => by
    have hn := Bool.and_eq_true_iff.mp (List.all_cons.symm.trans hn)
    have hb := Bool.and_eq_true_iff.mp hb
    refine e2a1 (isNameE_elim hn.1) fun x p e2_ => ?_; subst e2_
    refine grd_K h fun hx h => ?_
    have ih := bindTs_names hn.2 hb.2 h
    exact ⟨ih.1, fun y hy => (List.mem_cons.mp hy).elim (fun q => q ▸ hx) (ih.2.1 y), congrArg Nat.succ ih.2.2⟩
end
end
/-! AS15 -/
section
set_option autoImplicit false
set_option maxRecDepth 100000
open PySem PySem.W PyProof.Rows PySem.Calls

theorem Imm.notFields {o : Obj} {vs : Array Value} (h : o.data = .fields vs) : Imm o = false := by
  unfold Imm
  rw [h]
  rfl

theorem notFields_of_ORel {X : Cx} {h : Heap} {loc : Nat → Addr} {N : Nat} {a : Addr} {d : AData} (r : ORel X h loc N a d) {o : Obj} (e : h.get? a = some o) {v : Array Value} (hd : o.data = .fields v) : False := by
  cases d with
  | list l => refine e2a2 (r) fun vs n e' _ => ?_; rw [e] at e'; o_facts e'; o_facts hd
  | idict l =>
    obtain ⟨kvs, ⟨⟨o', es, ep, e', hx, hd', _⟩, _⟩, _⟩ := r
    rw [e] at e'; o_facts e'; rw [hd] at hd'; o_facts hd'
  | sdict l => obtain ⟨_, es, n, e', _⟩ := r; rw [e] at e'; o_facts e'; o_facts hd

section
variable {X : Cx} {r : Rec} {n : Nat} {A : Around} {E : Value → Shared → Prop} {s : Shared} {loc : Nat → Addr} {st st' : ASt} {env : Env} {ae ae' : AEnv}

theorem exs_snd (S : Snd X r n) (Rm : Room A n) : ∀ {ts : List Stmt} {ae : AEnv} {st : ASt} {P : Out → ASt → Prop} {s : Shared} {loc : Nat → Addr} {Q : Flow → Shared → Prop} (_ : exs r ts ae st P) (_ : OK X s loc st) (_ : EnvOK X env ae s.heap loc st.next)
    (_ : ThenF X env s loc st P Q), wpAny (model PW X.w) A (execs ts env) Q E s
  | [], ae, st, P, s, loc, Q, h, G, V, T => wpAny_execs_nil (T _ _ .next s loc h G (.refl ..) (.next V))
  | t :: ts, ae, st, P, s, loc, Q, h, G, V, T => wpAny_execs_cons (S.ex h Rm G V fun o st₁ fl s₁ loc₁ h G₁ x₁ f₁ => by
    revert h
    exact f₁.K (fun V₁ h => exs_snd S Rm h G₁ V₁ (T.after x₁)) fun rv hm h => T _ _ _ s₁ loc₁ h G₁ x₁ (.ret rv hm))

/- objects that are no part of the picture have changed -/
theorem off_step {wr : List Addr} {h' : Heap} {t : Tok} (G : OK X s loc st) (hl : ∀ b ∈ wr, ∀ i, i < st.next → loc i ≠ b) (hi : ∀ b ∈ wr, ∀ o, s.heap.get? b = some o → Imm o = false) (h0 : ∀ b ∈ wr, X.h0.get? b = none) (hk : ∀ b o, b ∉ wr → s.heap.get? b = some o → h'.get? b = some o) :
    OK X { s with heap := h', toks := t } loc st ∧ (∀ b o, s.heap.get? b = some o → Imm o = true → h'.get? b = some o) ∧ (∀ {env : Env} {ae : AEnv}, EnvOK X env ae s.heap loc st.next → (∀ b ∈ wr, b ≠ env.locals ∧ ∀ x c, env.cells.lookup x = some c → c ≠ b) → EnvOK X env ae h' loc st.next) ∧
    ∀ (W : Addr → Prop) (s₀ : Shared) (loc₀ : Nat → Addr) (st₀ : ASt), Ext W s₀ loc₀ st₀ s loc st → (∀ b ∈ wr, s₀.heap.get? b = none) → Ext W s₀ loc₀ st₀ { s with heap := h', toks := t } loc st := by
  have notLoc : ∀ i, i < st.next → loc i ∉ wr := fun i hi hb => hl _ hb i hi rfl
  have imm : ∀ b o, s.heap.get? b = some o → Imm o = true → h'.get? b = some o := fun b o e him => hk b o (fun hb => by rw [hi b hb o e] at him; o_facts him) e
  refine ⟨⟨fun b o e => hk b o (fun hb => by rw [h0 b hb] at e; o_facts e) (G.base b o e), G.new, G.inj, fun i hi => (G.rel i hi).mono (fun o e => hk _ o (notLoc i hi) e) imm (fun _ _ => rfl) (Nat.le_refl _)⟩, imm, fun {env ae} V ha => ?_, fun W s₀ loc₀ st₀ x hn => ?_⟩
  · refine ⟨V.kind, V.glob, V.blt, V.kindOf, ?_, fun y hy => ?_, V.inj, V.apart, V.newL, V.newC, V.celled⟩
    · exact V.ns.elim fun m h => ⟨m, h.1.elim fun o q => q.elim fun es q => q.elim fun ep q => ⟨o, es, ep, hk _ _ (fun hb => (ha _ hb).1 rfl) q.1, q.2⟩, fun y a hy hk => (h.2 y a hy hk).elim fun v h => ⟨v, h.1, h.2.mono imm (fun _ _ => rfl) (Nat.le_refl _)⟩⟩
    · exact (V.cell y hy).elim fun c h => h.2.elim fun o q => q.elim fun v q => ⟨c, h.1, o, v, hk _ _ (fun hb => (ha _ hb).2 y c h.1 rfl) q.1, q.2.1, fun a ha => (q.2.2 a ha).elim fun u h => ⟨u, h.1, h.2.mono imm (fun _ _ => rfl) (Nat.le_refl _)⟩⟩
  · have old : ∀ b o, s₀.heap.get? b = some o → b ∉ wr := fun b o e hb => by rw [hn b hb] at e; o_facts e
    have k2 : ∀ b o o', s₀.heap.get? b = some o → s.heap.get? b = some o' → h'.get? b = some o' := fun b o o' e e' => hk b o' (old b o e) e'
    exact ⟨x.le, x.at_, x.fresh, fun b o e hn hw => k2 b o o e (x.keep b o e hn hw), fun b o e => let ⟨o', e'⟩ := x.live b o e; ⟨o', k2 b o o' e e'⟩, fun b o e hi => k2 b o o e (x.imm b o e hi), x.verLe,
      fun i hi hv => ⟨(x.ver i hi hv).1, fun o e => k2 _ o o e ((x.ver i hi hv).2 o e)⟩, x.gens, x.os⟩

/- an iterator has moved on -/
theorem wr_step {wr : List Addr} {h' : Heap} {t : Tok} (G : OK X s loc st) (hf : ∀ b ∈ wr, ∃ o vs, s.heap.get? b = some o ∧ o.data = .fields vs) (h0 : ∀ b ∈ wr, X.h0.get? b = none) (hk : ∀ b o, b ∉ wr → s.heap.get? b = some o → h'.get? b = some o) :
    OK X { s with heap := h', toks := t } loc st ∧ (∀ b o, s.heap.get? b = some o → Imm o = true → h'.get? b = some o) ∧ (∀ {env : Env} {ae : AEnv}, EnvOK X env ae s.heap loc st.next → (∀ b ∈ wr, b ≠ env.locals ∧ ∀ x c, env.cells.lookup x = some c → c ≠ b) → EnvOK X env ae h' loc st.next) ∧
    ∀ (W : Addr → Prop) (s₀ : Shared) (loc₀ : Nat → Addr) (st₀ : ASt), Ext W s₀ loc₀ st₀ s loc st → (∀ b ∈ wr, s₀.heap.get? b = none) → Ext W s₀ loc₀ st₀ { s with heap := h', toks := t } loc st :=
  off_step G (fun b hb i hi q => by refine e2a2 (hf b hb) fun o vs e hd => ?_; exact notFields_of_ORel (G.rel i hi) (by rw [q]; exact e) hd)
    (fun b hb o e => by refine e2a2 (hf b hb) fun o' vs e' hd => ?_; rw [e] at e'; o_facts e'; exact Imm.notFields hd) h0 hk

theorem watch_id {src : Src} {id : Nat} (h : src.id? = some id) (st : ASt) : src.watch st = (st.get id).ver := by
  cases src <;> first | (o_facts h; rfl) | cases h

/- what a walk over a container needs while the heap moves -/
structure Walk (X : Cx) (env : Env) (src : Src) (A : Around) (target : Expr) (I : Addr) (fp wr : List Addr) (items : List AVal) (num : Nat) (P Md : Nat → Value → Heap → Prop) (St : Nat → Heap → Prop)
    (sB : Shared) (locB : Nat → Addr) (stB : ASt) (sI : Shared) (locI : Nat → Addr) (stI : ASt) : Prop where
  itr : Itr X A target I fp wr items num P Md St sI locI stI
  new : ∀ b ∈ wr, X.h0.get? b = none
  newB : ∀ b ∈ wr, sB.heap.get? b = none
  apartL : env.locals ∉ wr
  apartC : ∀ x c, env.cells.lookup x = some c → c ∉ wr
  foot : ∀ b ∈ fp, b ∈ wr ∨ ∃ id, src.id? = some id ∧ id < stI.next ∧ b = locI id

theorem Walk.off {src : Src} {target : Expr} {I : Addr} {fp wr : List Addr} {items : List AVal} {num : Nat} {P Md : Nat → Value → Heap → Prop} {St : Nat → Heap → Prop} {sB sI : Shared} {locB locI : Nat → Addr} {stB stI : ASt}
    (K : Walk X env src A target I fp wr items num P Md St sB locB stB sI locI stI) : ∀ b ∈ wr, b ≠ env.locals ∧ ∀ x c, env.cells.lookup x = some c → c ≠ b :=
  fun b hb => ⟨fun q => K.apartL (q ▸ hb), fun x c hc q => K.apartC x c hc (q ▸ hb)⟩

structure WalkAt (X : Cx) (env : Env) (ae : AEnv) (src : Src) (ver : Nat) (St : Nat → Heap → Prop) (W : Addr → Prop) (sB : Shared) (locB : Nat → Addr) (stB : ASt) (sI : Shared) (locI : Nat → Addr) (stI : ASt) (i : Nat) (s : Shared) (loc : Nat → Addr) (st : ASt) : Prop where
  ok : OK X s loc st
  vars : EnvOK X env ae s.heap loc st.next
  ext : Ext W sB locB stB s loc st
  imm : ∀ b o, sI.heap.get? b = some o → Imm o = true → s.heap.get? b = some o
  at_ : ∀ j, j < stI.next → loc j = locI j
  le : stI.next ≤ st.next
  there : src.watch st = ver → St i s.heap

/- a turn of the iterator -/
theorem turn_snd {src : Src} {ver : Nat} {target : Expr} {I : Addr} {fp wr : List Addr} {items : List AVal} {num : Nat} {P Md : Nat → Value → Heap → Prop} {St : Nat → Heap → Prop} {W : Addr → Prop} {sB sI : Shared} {locB locI : Nat → Addr} {stB stI : ASt}
    (K : Walk X env src A target I fp wr items num P Md St sB locB stB sI locI stI) {i : Nat} {a : AVal} {Q : Option Value → Shared → Prop} (hi : items[i]? = some a) (N : WalkAt X env ae src ver St W sB locB stB sI locI stI i s loc st) (hv : src.watch st = ver)
    (hQ : ∀ v s₁, (∀ {E' : Value → Shared → Prop} {Q' : Unit → Shared → Prop}, (∀ s₂, WalkAt X env ae src ver St W sB locB stB sI locI stI (i + 1) s₂ loc st → VRel X s₂.heap loc st.next v a → (∀ b o, b ∉ wr → s.heap.get? b = some o → s₂.heap.get? b = some o) → (∀ b o, s.heap.get? b = some o → Imm o = true → s₂.heap.get? b = some o) → Q' () s₂) → wpAny (model PW X.w) A (letOwnedTupleGo target (.ref I) v) Q' E' s₁) → Q (some v) s₁) :
    wpAny (model PW X.w) A (pyNext (.ref I)) Q E s := by
  have hin : i < num := by rw [K.itr.len]; exact (List.getElem?_eq_some_iff.mp hi).1
  have hst := N.there hv
  refine K.itr.turns.item i s Q E hin hst fun v h' tk hMd hk => hQ v _ fun {E' Q'} q => ?_
  refine K.itr.turns.go i v _ Q' E' hMd fun h₂ hP hst₂ hk₂ => ?_
  have w := wr_step (h' := h₂) (t := tk) N.ok (K.itr.fields i _ hst) K.new fun b o hb e => hk₂ b o hb (hk b o hb e)
  have imm := w.2.1
  have N' : WalkAt X env ae src ver St W sB locB stB sI locI stI (i + 1) { s with heap := h₂, toks := tk } loc st := ⟨w.1, w.2.2.1 N.vars K.off, w.2.2.2 W sB locB stB N.ext K.newB, fun b o e hi => imm b o (N.imm b o e hi) hi, N.at_, N.le, fun _ => hst₂⟩
  refine (K.itr.rel { s with heap := h₂, toks := tk } loc st i v N'.imm N'.at_ N'.le hin hP).elim fun a' h => ?_
  have ha := h.1
  rw [hi] at ha
  cases ha
  exact q _ N' h.2 (fun b o hb e => hk₂ b o hb (hk b o hb e)) imm

theorem end_snd {src : Src} {ver : Nat} {target : Expr} {I : Addr} {fp wr : List Addr} {items : List AVal} {num : Nat} {P Md : Nat → Value → Heap → Prop} {St : Nat → Heap → Prop} {W : Addr → Prop} {sB sI : Shared} {locB locI : Nat → Addr} {stB stI : ASt}
    (K : Walk X env src A target I fp wr items num P Md St sB locB stB sI locI stI) {Q : Option Value → Shared → Prop} (N : WalkAt X env ae src ver St W sB locB stB sI locI stI items.length s loc st) (hv : src.watch st = ver)
    (hQ : ∀ s₁, OK X s₁ loc st → EnvOK X env ae s₁.heap loc st.next → Ext W sB locB stB s₁ loc st → (∀ b o, b ∉ wr → s.heap.get? b = some o → s₁.heap.get? b = some o) → (∀ b o, s.heap.get? b = some o → Imm o = true → s₁.heap.get? b = some o) → Q none s₁) :
    wpAny (model PW X.w) A (pyNext (.ref I)) Q E s := by
  have hst := N.there hv
  rw [← K.itr.len] at hst
  refine K.itr.turns.done s Q E hst fun h' tk hk => ?_
  have w := wr_step (h' := h') (t := tk) N.ok (K.itr.fields _ _ hst) K.new hk
  exact hQ _ w.1 (w.2.2.1 N.vars K.off) (w.2.2.2 W sB locB stB N.ext K.newB) hk w.2.1

/- the body has run -/
theorem WalkAt.step {src : Src} {ver : Nat} {target : Expr} {I : Addr} {fp wr : List Addr} {items : List AVal} {num : Nat} {P Md : Nat → Value → Heap → Prop} {St : Nat → Heap → Prop} {W W' : Addr → Prop} {sB sI : Shared} {locB locI : Nat → Addr} {stB stI : ASt}
    (K : Walk X env src A target I fp wr items num P Md St sB locB stB sI locI stI) {i : Nat} (N : WalkAt X env ae src ver St W sB locB stB sI locI stI i s loc st) (hv : src.watch st = ver) {s' : Shared} {loc' : Nat → Addr} (G : OK X s' loc' st') (x : Ext W' s loc st s' loc' st')
    (hw : ∀ b, W' b → W b) (hw2 : ∀ b ∈ wr, ¬ W' b) (V : EnvOK X env ae' s'.heap loc' st'.next) : WalkAt X env ae' src ver St W sB locB stB sI locI stI i s' loc' st' where
  ok := G
  vars := V
  ext := N.ext.trans (x.mono hw)
  imm := fun b o e hi => x.imm b o (N.imm b o e hi) hi
  at_ := fun j hj => (x.at_ j (Nat.lt_of_lt_of_le hj N.le)).trans (N.at_ j hj)
  le := Nat.le_trans N.le x.le
  there := fun hv' => by
    have hst := N.there hv
    refine K.itr.turns.frame i _ _ hst fun b hb o e => ?_
    by_cases hbw : b ∈ wr
    · refine e2a2 (K.itr.fields i _ hst b hbw) fun o' vs e' hd => ?_
      rw [e] at e'; o_facts e'
      exact x.keep b o e (fun j hj q => notFields_of_ORel (N.ok.rel j hj) (by rw [q]; exact e) hd) (hw2 b hbw)
    · rcases K.foot b hb with q | ⟨id, h1, h2, rfl⟩
      · exact absurd q hbw
      · have hid := Nat.lt_of_lt_of_le h2 N.le
        rw [← N.at_ id h2] at e ⊢
        exact (x.ver id hid (by rw [← watch_id h1, ← watch_id h1, hv, hv'])).2 o e

/- what the loop leaves of the list -/
structure RestAt (items rest : List AVal) (i : Nat) : Prop where
  drop : rest = items.drop i
  le : i ≤ items.length
theorem RestAt.zero (items : List AVal) : RestAt items items 0 := ⟨rfl, Nat.zero_le _⟩
theorem RestAt.nil {items : List AVal} {i : Nat} (h : RestAt items [] i) : i = items.length := by
  have := congrArg List.length h.drop
  have := h.le
  simp only [List.length_nil, List.length_drop] at *
  lia -abstractProof
theorem RestAt.head {items rest : List AVal} {a : AVal} {i : Nat} (h : RestAt items (a :: rest) i) : items[i]? = some a := by
  have := congrArg (fun l => l[0]?) h.drop
  simpa using this.symm
theorem RestAt.tail {items rest : List AVal} {a : AVal} {i : Nat} (h : RestAt items (a :: rest) i) : RestAt items rest (i + 1) :=
  ⟨by have := congrArg List.tail h.drop; simpa using this, (List.getElem?_eq_some_iff.mp h.head).1⟩

theorem forLoop_snd (Z : StaticOK X) (S : Snd X r n) (Rm : Room A n) {src : Src} {ver : Nat} {target : Expr} {body : List Stmt} {I : Addr} {fp wr : List Addr} {items : List AVal} {num : Nat} {Pv Md : Nat → Value → Heap → Prop} {St : Nat → Heap → Prop} {sB sI : Shared} {locB locI : Nat → Addr} {stB stI : ASt}
    (K : Walk X env src A target I fp wr items num Pv Md St sB locB stB sI locI stI) {R : Result → Shared → Prop} {ae₀ : AEnv} {P : Out → ASt → Prop} (h : forLoop r src ver target body items ae₀ st P)
    (N : WalkAt X env ae₀ src ver St (Wr env) sB locB stB sI locI stI 0 s loc st) (T : ThenF X env sB locB stB P fun fl s => R (.ok fl) s) :
    codeAny (model PW X.w) A (.forLoop target (.ref I) body [] env) R s := by
  have hw2 : ∀ b ∈ wr, ¬ Wr env b := fun b hb q => q.elim (fun q => K.apartL (q ▸ hb)) fun q => q.elim fun x q => K.apartC x b q hb
  refine codeAny_forLoop_any (fun k s' => ∃ rest i ae₁ loc₁ st₁, k = rest.length ∧ RestAt items rest i ∧ forLoop r src ver target body rest ae₁ st₁ P ∧ WalkAt X env ae₁ src ver St (Wr env) sB locB stB sI locI stI i s' loc₁ st₁) (fun k s' h => ?_) items.length
    ⟨items, 0, ae₀, loc, st, rfl, .zero _, h, N⟩
  refine opq fun g hg => h.elim fun rest h => h.elim fun i h => h.elim fun ae₁ h => h.elim fun loc₁ h => h.elim fun st₁ h => hg ?_
  have hk := h.1
  subst hk
  have N₁ := h.2.2.2
  cases rest with
  | nil =>
    have hie := h.2.1.nil
    subst hie
    exact end_snd K N₁ h.2.2.1.1 fun s₂ G₂ V₂ x₂ _ _ => wpAny_execs_nil (T _ _ .next s₂ loc₁ h.2.2.1.2 G₂ x₂ (.next V₂))
  | cons a rest =>
    refine turn_snd K h.2.1.head N₁ h.2.2.1.1 fun v s₁ go => go fun s₂ N₂ rv _ _ => ?_
    refine assignT_snd Z S (WOK.wr _) h.2.2.1.2 Rm N₂.ok N₂.vars rv fun ae₂ st₃ s₃ loc₃ h₃ _ G₃ x₃ V₃ => exs_snd S Rm h₃ G₃ V₃ fun o st₄ fl s₄ loc₄ h₄ G₄ x₄ f₄ => ?_
    have x := x₃.trans x₄
    revert h₄
    refine f₄.K (fun V₄ h₄ => ?_) fun rv hm h₄ => T _ _ _ s₄ loc₄ h₄ G₄ (N₂.ext.trans x) (.ret rv hm)
    · exact weak_K h₄ V₄ fun ae' _ V₅ h₅ => ⟨_, Nat.lt_succ_self _, rest, i + 1, ae', loc₄, st₄, rfl, h.2.1.tail, h₅, WalkAt.step K N₂ h.2.2.1.1 G₄ x (fun _ q => q) hw2 V₅⟩

end
end
/-! AS16 -/
section
set_option autoImplicit false
set_option maxRecDepth 100000
open PySem PySem.W PyProof.Rows PySem.Calls

theorem closure_go (env : Env) : ∀ (names : List (Str × NameKind)) (cs : List (Str × Addr)), (∀ x, (x, NameKind.free) ∈ names → ∃ c, env.cells.lookup x = some c) → (∀ x c, cs.lookup x = some c → env.cells.lookup x = some c) →
    ∃ cl, (forIn names cs (fun (x : Str × NameKind) (r : List (Str × Addr)) => (match x with
      | (name, kind) => if (kind == NameKind.free) = true then (do let c ← cellOf env name; pure (ForInStep.yield ((name, c) :: r))) else pure (ForInStep.yield r) : Sem (ForInStep (List (Str × Addr)))))) = (pure cl : Sem _) ∧
      (∀ x c, cl.lookup x = some c → env.cells.lookup x = some c) ∧ (∀ x, (cs.lookup x).isSome = true → (cl.lookup x).isSome = true) ∧ (∀ x, (x, NameKind.free) ∈ names → (cl.lookup x).isSome = true) ∧
      (∀ x, (cl.lookup x).isSome = true → (cs.lookup x).isSome = true ∨ (x, NameKind.free) ∈ names)
  | [], cs, _, h => ⟨cs, rfl, h, fun _ e => e, (fun _ e => by o_facts e), fun _ e => .inl e⟩
  | (y, k) :: names, cs, h1, h => by
    cases hk : k == NameKind.free with
    | false =>
      refine e1a5 (closure_go env names cs (fun x hx => h1 x (.tail _ hx)) h) fun cl e a b c d => ?_
      refine ⟨cl, ?_, a, b, fun x hx => ?_, fun x hx => ?_⟩
      · rw [← e, List.forIn_cons]
        simp only [hk, Bool.false_eq_true, if_false]
        rfl
      · rcases List.mem_cons.mp hx with q | q
        · cases q; o_facts hk
        · exact c x q
      · rcases d x hx with q | q
        · exact .inl q
        · exact .inr (.tail _ q)
    | true =>
      have hk' : k = NameKind.free := by simpa using hk
      subst hk'
      obtain ⟨c₀, hc₀⟩ := h1 y (.head _)
      obtain ⟨cl, e, a, b, c, d⟩ := closure_go env names ((y, c₀) :: cs) (fun x hx => h1 x (.tail _ hx)) (fun x c hx => by
        rw [List.lookup_cons] at hx
        split at hx
        · rename_i q; o_facts hx; rw [beq_iff_eq] at q; rw [q]; exact hc₀
        · exact h x c hx)
      refine ⟨cl, ?_, a, fun x hx => b x ?_, fun x hx => ?_, fun x hx => ?_⟩
      · rw [← e, List.forIn_cons]
        simp only [cellOf, hc₀]
        rfl
      · rw [List.lookup_cons]; split
        · rfl
        · exact hx
      · rcases List.mem_cons.mp hx with q | q
        · cases q; exact b _ (by rw [List.lookup_cons]; simp)
        · exact c x q
      · rcases d x hx with q | q
        · rw [List.lookup_cons] at q
          split at q
          · rename_i w; rw [beq_iff_eq] at w; subst w; exact .inr (.head _)
          · exact .inl q
        · exact .inr (.tail _ q)

theorem closure_of (scope : Scope) (env : Env) (h : ∀ x, (x, NameKind.free) ∈ scope.names → ∃ c, env.cells.lookup x = some c) :
    ∃ cl, closureFor scope env = pure cl ∧ (∀ x c, cl.lookup x = some c → env.cells.lookup x = some c ∧ (x, NameKind.free) ∈ scope.names) ∧ (∀ x, (x, NameKind.free) ∈ scope.names → ∃ c, cl.lookup x = some c) := by
  refine e1a5 (closure_go env scope.names [] h (fun x c q => by cases q)) fun cl e a b c d => ?_
  refine ⟨cl, ?_, fun x c' hx => ⟨a x c' hx, ?_⟩, fun x hx => Option.isSome_iff_exists.mp (c x hx)⟩
  · exact congrArg (fun m : Sem (List (Str × Addr)) => m >>= fun cs => pure cs) e
  · rcases d x (by rw [hx]; rfl) with q | q
    · cases q
    · exact q

theorem relabel_lookup (env : Env) (x : Str) : ∀ names : List (Str × NameKind),
    (names.map fun (n, k) => if (k == NameKind.free && env.scope.kind == .function && env.kindOf n == some .cell) then (n, NameKind.cell) else (n, k)).lookup x =
      (names.lookup x).map fun k => if (k == NameKind.free && env.scope.kind == .function && env.kindOf x == some .cell) then NameKind.cell else k
  | [] => rfl
  | (n, k) :: r => by
    have ih := relabel_lookup env x r
    rw [List.map_cons, List.lookup_cons]
    dsimp only
    by_cases hc : (k == NameKind.free && env.scope.kind == .function && env.kindOf n == some .cell) = true
    · rw [if_pos hc, List.lookup_cons]
      dsimp only
      cases hx : x == n with
      | true =>
        have : x = n := by simpa using hx
        subst this
        dsimp only [Option.map_some]
        rw [if_pos hc]
      | false => exact ih
    · rw [if_neg hc, List.lookup_cons]
      dsimp only
      cases hx : x == n with
      | true =>
        have : x = n := by simpa using hx
        subst this
        dsimp only [Option.map_some]
        rw [if_neg hc]
      | false => exact ih

section
variable {X : Cx} {r : Rec} {n : Nat} {A : Around} {E : Value → Shared → Prop} {s : Shared} {loc : Nat → Addr} {st st' : ASt} {env : Env} {ae ae' : AEnv}

theorem compOk_of {sc esc : Scope} (h : compOk sc esc = true) : sc.kind = .function ∧ (∀ p ∈ sc.names, p.2 ≠ .cell) ∧ (∀ p ∈ sc.names, p.2 = .local → sc.names.lookup p.1 = some .local) ∧
    ∀ x, (x, NameKind.free) ∈ sc.names → (esc.names.lookup x = some .cell ∨ esc.names.lookup x = some .free) ∧ sc.names.lookup x = some .free := by
  unfold compOk at h
  rw [Bool.and_eq_true] at h
  refine e0a2 (h) fun h1 h2 => ?_
  rw [List.all_eq_true] at h2
  refine ⟨?_, fun p hp q => ?_, fun p hp q => ?_, fun x hx => ?_⟩
  · unfold isFn at h1
    split at h1
    · assumption
    · o_facts h1
  · have := h2 p hp
    unfold compName at this
    rw [q] at this; cases this
  · have := h2 p hp
    unfold compName at this
    rw [q] at this
    simpa using this
  · have := h2 _ hx
    unfold compName at this
    simp only [Bool.and_eq_true, Bool.or_eq_true, beq_iff_eq] at this
    exact this

theorem mem_of_lookup {x : Str} {k : NameKind} : ∀ {l : List (Str × NameKind)}, l.lookup x = some k → (x, k) ∈ l
  | [], h => by o_facts h
  | (y, j) :: l, h => by
    rw [List.lookup_cons] at h
    split at h
    · rename_i q; o_facts h; rw [beq_iff_eq] at q; subst q; exact .head _
    · exact .tail _ (mem_of_lookup h)

theorem EnvOK.cellAt {h : Heap} {N : Nat} (V : EnvOK X env ae h loc N) {x : Str} (h : ae.sc.names.lookup x = some .cell ∨ ae.sc.names.lookup x = some .free) : env.kindOf x = some .cell ∨ env.kindOf x = some .free :=
  h.elim (fun h => (V.kindOf x _ h).elim .inl fun q => nomatch q.1) fun h => (V.kindOf x _ h).elim .inr fun q => .inl q.2

theorem lookup_filter {β : Type} (p : Str → Bool) (x : Str) : ∀ l : List (Str × β), (l.filter fun q => p q.1).lookup x = if p x then l.lookup x else none
  | [] => by split <;> rfl
  | (y, b) :: l => by
    rw [List.filter_cons]
    by_cases hx : x = y
    · subst hx
      dsimp only
      split
      · rw [List.lookup_cons, List.lookup_cons]; simp
      · rename_i hp; rw [lookup_filter p x l, if_neg hp]
    · have hb : (x == y) = false := by simp [hx]
      dsimp only
      split
      · rw [List.lookup_cons, hb, List.lookup_cons, hb]; exact lookup_filter p x l
      · rw [List.lookup_cons, hb]; exact lookup_filter p x l

/- the names of a comprehension, right after its table was made -/
theorem compEnv_snd {sc : Scope} {cl : List (Str × Addr)} {C : Addr} (ok : compOk sc ae.sc = true) (G : OK X s loc st) (V : EnvOK X env ae s.heap loc st.next)
    (h1 : ∀ x c, cl.lookup x = some c → env.cells.lookup x = some c ∧ (x, NameKind.free) ∈ sc.names) (h2 : ∀ x, (x, NameKind.free) ∈ sc.names → ∃ c, cl.lookup x = some c)
    {m : Str → Option Value} (hn : s.heap.Ns C m) (hC : X.h0.get? C = none) (hl : ∀ i, i < st.next → loc i ≠ C) : EnvOK X (compEnvC sc cl C env) (compEnvA sc ae) s.heap loc st.next := by
  refine e0a4 (compOk_of ok) fun o1 o2 o3 o4 => ?_
  have kof : ∀ x, (compEnvC sc cl C env).kindOf x = (sc.names.lookup x).map fun k => if (k == NameKind.free && env.scope.kind == .function && env.kindOf x == some .cell) then NameKind.cell else k := fun x => relabel_lookup env x sc.names
  have free_of : ∀ x, ((compEnvC sc cl C env).kindOf x = some .cell ∨ (compEnvC sc cl C env).kindOf x = some .free) → sc.names.lookup x = some .free := by
    intro x hx
    rw [kof] at hx
    cases hk : sc.names.lookup x with
    | none => rw [hk] at hx; rcases hx with q | q <;> cases q
    | some k =>
      rw [hk] at hx
      cases k with
      | free => rfl
      | cell => exact absurd rfl (o2 _ (mem_of_lookup hk))
      | _ => rcases hx with q | q <;> (simp at q)
  have cellok : ∀ x, sc.names.lookup x = some .free → env.kindOf x = some .cell ∨ env.kindOf x = some .free := fun x hx => V.cellAt (o4 x (mem_of_lookup hx)).1
  refine ⟨o1, V.glob, V.blt, fun x k hk => ?_, ⟨m, hn, fun x a hx hk => ?_⟩, fun x hx => ?_, fun x y c hx hy => V.inj x y c (h1 x c hx).1 (h1 y c hy).1, fun i hi => hl i hi, hC, fun x c hx => V.newC x c (h1 x c hx).1, fun x c hx => ?_⟩
  · rw [kof]
    have hk : sc.names.lookup x = some k := hk
    rw [hk]
    by_cases q : (k == NameKind.free && env.scope.kind == .function && env.kindOf x == some .cell) = true
    · simp only [Option.map_some, if_pos q]
      rw [Bool.and_eq_true, Bool.and_eq_true] at q
      exact .inr ⟨by simpa using q.1.1, trivial⟩
    · simp only [Option.map_some, if_neg q]
      exact .inl trivial
  · exfalso
    have hx : (ae.vars.filter fun p => sc.names.lookup p.1 == some .free).lookup x = some a := hx
    rw [lookup_filter (fun y => sc.names.lookup y == some .free)] at hx
    split at hx
    · rename_i q
      rw [kof, beq_iff_eq.mp q] at hk
      simp only [Option.map_some, Option.some.injEq] at hk
      split at hk <;> o_facts hk
    · o_facts hx
  · have hf := free_of x hx
    refine e1a1 (h2 x (mem_of_lookup hf)) fun c hc => ?_
    obtain ⟨d, hd, o, v, ho, hdd, hv⟩ := V.cell x (cellok x hf)
    have e := (h1 x c hc).1
    rw [hd] at e; o_facts e
    refine ⟨_, hc, o, v, ho, hdd, fun a ha => hv a ?_⟩
    have ha : (ae.vars.filter fun p => sc.names.lookup p.1 == some .free).lookup x = some a := ha
    rw [lookup_filter (fun y => sc.names.lookup y == some .free), hf] at ha
    simpa using ha
  · have hf := (o4 x (h1 x c hx).2).2
    rw [kof, hf]
    simp only [Option.map_some]
    split
    · exact .inl rfl
    · exact .inr rfl

end
end
/-! AS17 -/
section
set_option autoImplicit false
set_option maxRecDepth 100000
open PySem PySem.W PyProof.Rows PySem.Calls

/- what a raised exception of a comprehension's turn meets -/
noncomputable def CErr (prog : Program) (w : World) (A : Around) (env : Env) (R : Result → Shared → Prop) : Value → Shared → Prop := notedBy (model prog w) A env fun e s' => R (.error e) s'
/- what is wanted behind the drawing of an item, and behind the item's condition -/
noncomputable def CCond (prog : Program) (w : World) (A : Around) (env : Env) (R : Result → Shared → Prop) (elt : Expr) (acc : Value) (J : Shared → Prop) (ok : Bool) (s₃ : Shared) : Prop :=
  if ok = true then wpAny (model prog w) A (eval elt env) (fun x s₄ => wpAny (model prog w) A (call (.builtin "list.append") [acc, x]) (fun _ s₅ => J s₅) (CErr prog w A env R) s₄) (CErr prog w A env R) s₃
  else J s₃
noncomputable def CTurn (prog : Program) (w : World) (A : Around) (env : Env) (R : Result → Shared → Prop) (elt target : Expr) (ifs : List Expr) (it acc : Value) (J : Shared → Prop) (r : Option Value) (s₁ : Shared) : Prop := match r with
  | none => R (.ok .next) s₁
  | some v => wpAny (model prog w) A (letOwnedTupleGo target it v) (fun _ s₁' => wpAny (model prog w) A (assign target env v) (fun _ s₂ =>
      wpAny (model prog w) A (forIn ifs true fun c r => if r = true then do let ok ← isTrue c env (eval c env); pure (ForInStep.yield ok) else pure (ForInStep.yield r)) (CCond prog w A env R elt acc J) (CErr prog w A env R) s₂) (CErr prog w A env R) s₁') (CErr prog w A env R) s₁
theorem codeAny_compLoop_gen {prog : Program} {w : World} {A : Around} {s : Shared} {R : Result → Shared → Prop} {elt target iter : Expr} {ifs : List Expr} {scope : Scope} {pos : Pos} {it acc : Value} {env : Env} (I : Nat → Shared → Prop)
    (turn : ∀ n s, I n s → wpAny (model prog w) A (pyNext it) (CTurn prog w A env R elt target ifs it acc fun s => ∃ m, m < n ∧ I m s) (CErr prog w A env R) s)
    (n : Nat) (h : I n s) :
    codeAny (model prog w) A (.compLoop (.ListComp elt [⟨target, iter, ifs, 0⟩] scope pos) 0 it acc env) R s := by
  refine codeAny_loop rfl I (fun n s hI => ?_) n h
  show wpAny _ A ((compTurn (.ListComp elt [⟨target, iter, ifs, 0⟩] scope pos) 0 it acc env).onRaise (fun x => do noteFrame x env; theTreesLotGoes x)) _ _ s
  refine wpAny_noted ?_
  rw [compTurn_list]
  refine wpAny_bind (wpAny_standAt (wpAny_bind (wpAny_mono (turn n s hI) (fun r s₁ h₁ => ?_) fun _ _ h' => h')))
  cases r with
  | none => exact wpAny_pure h₁
  | some v =>
    refine wpAny_bind (wpAny_mono h₁ (fun _ s₁' h₁' => wpAny_bind (wpAny_mono h₁' (fun _ s₂ h₂ => wpAny_bind (wpAny_mono h₂ (fun ok s₃ h₃ => ?_) fun _ _ h' => h')) fun _ _ h' => h')) fun _ _ h' => h')
    cases ok with
    | false => exact wpAny_pure ⟨rfl, h₃⟩
    | true => exact wpAny_bind (wpAny_bind (wpAny_mono h₃ (fun x s₄ h₄ => wpAny_bind (wpAny_mono h₄ (fun _ s₅ h₅ => wpAny_pure (wpAny_pure ⟨rfl, h₅⟩)) fun _ _ h' => h')) fun _ _ h' => h'))

theorem tests_false (env : Env) : ∀ ifs : List Expr, (forIn ifs false fun (c : Expr) (r : Bool) => if r = true then (do let ok ← isTrue c env (eval c env); pure (ForInStep.yield ok) : Sem (ForInStep Bool)) else pure (ForInStep.yield r)) = (pure false : Sem Bool)
  | [] => rfl
  | c :: ifs => by
    rw [List.forIn_cons, if_neg (by decide)]
    exact tests_false env ifs

section
variable {X : Cx} {r : Rec} {n : Nat} {A : Around} {E : Value → Shared → Prop} {s : Shared} {loc : Nat → Addr} {st st' : ASt} {env : Env} {ae ae' : AEnv}

theorem tests_snd (S : Snd X r n) (Rm : Room A n) : ∀ {ifs : List Expr} {st : ASt} {P : Bool → ASt → Prop} {s : Shared} {loc : Nat → Addr} {Q : Bool → Shared → Prop} (_ : tests r ae ifs st P) (_ : OK X s loc st) (_ : EnvOK X env ae s.heap loc st.next)
    (_ : ThenB X s loc st P Q), wpAny (model PW X.w) A (forIn ifs true fun c r => if r = true then do let ok ← isTrue c env (eval c env); pure (ForInStep.yield ok) else pure (ForInStep.yield r)) Q E s
  | [], st, P, s, loc, Q, h, G, V, T => wpAny_tests_nil (T _ _ s loc h G (.refl ..))
  | c :: ifs, st, P, s, loc, Q, h, G, V, T => by
    rw [List.forIn_cons]
    refine wpAny_bind ?_
    rw [if_pos rfl]
    refine wpAny_bind (S.tr (P := fun _ b st => BrP b (tests r ae ifs st P) (P false st)) h Rm G V fun a b st₁ s₁ loc₁ h _ G₁ x₁ => wpAny_pure ?_)
    dsimp only
    cases b with
    | true => exact tests_snd S Rm (h.t rfl) G₁ (V.ext G x₁) (T.after x₁)
    | false => exact wpAny_of_eq (tests_false env ifs) (T _ _ s₁ loc₁ (h.f rfl) G₁ x₁)

/- the list that a comprehension fills -/
structure AccAt (X : Cx) (D : Addr) (vs : List Value) (ys : List AVal) (s : Shared) (loc : Nat → Addr) (st : ASt) : Prop where
  obj : ∃ k, s.heap.get? D = some ⟨.type "list", none, .seq vs.toArray k, #[]⟩
  rel : VRels X s.heap loc st.next vs ys
  off : ∀ i, i < st.next → loc i ≠ D

theorem AccAt.ext {W : Addr → Prop} {D : Addr} {vs : List Value} {ys : List AVal} {s' : Shared} {loc' : Nat → Addr} (a : AccAt X D vs ys s loc st) (x : Ext W s loc st s' loc' st') (hw : ¬ W D) : AccAt X D vs ys s' loc' st' := by
  refine ⟨a.obj.elim fun k h1 => ⟨k, x.keep D _ h1 a.off hw⟩, a.rel.ext x, fun i hi q => ?_⟩
  rcases Nat.lt_or_ge i st.next with h | h
  · exact a.off i h ((x.at_ i h).symm.trans q)
  · exact a.obj.elim fun k h1 => by have := x.fresh i h hi; rw [q, h1] at this; cases this
theorem AccAt.keep {D : Addr} {vs : List Value} {ys : List AVal} {s' : Shared} (a : AccAt X D vs ys s loc st) (hD : ∀ o, s.heap.get? D = some o → s'.heap.get? D = some o) (hi : ∀ b o, s.heap.get? b = some o → Imm o = true → s'.heap.get? b = some o) : AccAt X D vs ys s' loc st :=
  ⟨let ⟨k, h⟩ := a.obj; ⟨k, hD _ h⟩, a.rel.mono hi (fun _ _ => rfl) (Nat.le_refl _), a.off⟩

/- one more -/
theorem AccAt.append {D : Addr} {vs : List Value} {ys : List AVal} {v : Value} {y : AVal} {Q : Value → Shared → Prop} (a : AccAt X D vs ys s loc st) (G : OK X s loc st) (hD : X.h0.get? D = none) (hl : env.locals ≠ D) (hc : ∀ x c, env.cells.lookup x = some c → c ≠ D) (hz : ys.length ≤ 1000000) (rv : VRel X s.heap loc st.next v y)
    (hQ : ∀ s', OK X s' loc st → (EnvOK X env ae s.heap loc st.next → EnvOK X env ae s'.heap loc st.next) → AccAt X D (vs ++ [v]) (ys ++ [y]) s' loc st → (∀ b o, b ≠ D → s.heap.get? b = some o → s'.heap.get? b = some o) → (∀ b o, s.heap.get? b = some o → Imm o = true → s'.heap.get? b = some o) →
      (∀ (W : Addr → Prop) (s₀ : Shared) (loc₀ : Nat → Addr) (st₀ : ASt), Ext W s₀ loc₀ st₀ s loc st → s₀.heap.get? D = none → Ext W s₀ loc₀ st₀ s' loc st) → Q .none s') :
    wpAny (model PW X.w) A (call (.builtin "list.append") [.ref D, v]) Q E s := by
  refine opq fun g hg => a.obj.elim fun k h1 => hg ?_
  have h2 := a.rel
  have h3 := a.off
  have hs := Heap.SameBut.update s.heap D (Obj.mapSeq (·.push v))
  have e1 := Heap.get?_update_self (Obj.mapSeq (·.push v)) h1 rfl
  simp only [Obj.mapSeq, List.push_toArray] at e1
  have w := off_step (wr := [D]) (h' := s.heap.update D (Obj.mapSeq (·.push v))) (t := s.toks) G (fun b hb i hi => by rw [List.mem_singleton] at hb; subst hb; exact h3 i hi)
    (fun b hb o e => by rw [List.mem_singleton] at hb; subst hb; rw [h1] at e; o_facts e; rfl) (fun b hb => by rw [List.mem_singleton] at hb; subst hb; exact hD) (fun b o hb e => hs.extBut b o (by simpa using hb) e)
  refine call_meetsIn PySem.F.slot_list_append (isList_of h1).typeIs PySem.F.entry_list_append (PySem.F.args_list_append_2 _ _) ((list_append D vs.toArray k v (h2.fits hz)).inModel PW X.w)
    ⟨h1, hQ _ w.1 (fun V => w.2.2.1 V fun b hb => by rw [List.mem_singleton] at hb; subst hb; exact ⟨hl.symm, hc⟩) ⟨⟨_, e1⟩, ?_, h3⟩ (fun b o hb e => hs.extBut b o hb e) w.2.1 fun W s₀ loc₀ st₀ x hn => w.2.2.2 W s₀ loc₀ st₀ x fun b hb => by rw [List.mem_singleton] at hb; subst hb; exact hn⟩
  · exact (h2.mono w.2.1 (fun _ _ => rfl) (Nat.le_refl _)).append (.cons (rv.mono w.2.1 (fun _ _ => rfl) (Nat.le_refl _)) .nil)

/- how far a comprehension has come -/
structure CAt (X : Cx) (r : Rec) (env : Env) (src : Src) (ver : Nat) (target elt : Expr) (ifs : List Expr) (D : Addr) (items : List AVal) (St : Nat → Heap → Prop) (sB sI : Shared) (locB locI : Nat → Addr) (stB stI : ASt) (P : List AVal → ASt → Prop) (sc : Scope)
    (rest : List AVal) (i : Nat) (ae : AEnv) (loc : Nat → Addr) (st : ASt) (don : List AVal) (vs : List Value) (K : List AVal → ASt → Prop) (s : Shared) : Prop where
  left : RestAt items rest i
  len : don.length ≤ i
  sc : ae.sc = sc
  post : ∀ ys st, K ys st → P (don ++ ys) st
  run : compLoop r src ver target elt ifs rest ae st K
  at_ : WalkAt X env ae src ver St (fun b => b = env.locals) sB locB stB sI locI stI i s loc st
  acc : AccAt X D vs don s loc st

section
variable {src : Src} {ver : Nat} {target elt iter : Expr} {ifs : List Expr} {sc : Scope} {I D : Addr} {fp wr : List Addr} {items : List AVal} {num : Nat} {Pv Md : Nat → Value → Heap → Prop} {St : Nat → Heap → Prop} {sB sI : Shared} {locB locI : Nat → Addr} {stB stI : ASt} {P : List AVal → ASt → Prop} {R : Result → Shared → Prop}
theorem compTurn_snd (Z : StaticOK X) (S : Snd X r n) (Rm : Room A n) (K : Walk X env src A target I fp wr items num Pv Md St sB locB stB sI locI stI) (hz : items.length ≤ 1000000)
    (hsc : ∀ x, sc.names.lookup x ≠ some .cell) (hD : X.h0.get? D = none) (hDB : sB.heap.get? D = none) (hDl : env.locals ≠ D) (hDc : ∀ x c, env.cells.lookup x = some c → c ≠ D) (hDw : D ∉ wr) (hDf : ∀ id, src.id? = some id → id < stI.next → locI id ≠ D)
    {a : AVal} {rest : List AVal} {i : Nat} {don : List AVal} {vs : List Value} {K' : List AVal → ASt → Prop} (h : CAt X r env src ver target elt ifs D items St sB sI locB locI stB stI P sc (a :: rest) i ae loc st don vs K' s)
    {J : Shared → Prop} (hJ : ∀ ae loc st don vs K' s, CAt X r env src ver target elt ifs D items St sB sI locB locI stB stI P sc rest (i + 1) ae loc st don vs K' s → J s) :
    wpAny (model PW X.w) A (pyNext (.ref I)) (CTurn PW X.w A env R elt target ifs (.ref I) (.ref D) J) (CErr PW X.w A env R) s := by
  have hw2 : ∀ b ∈ wr, ¬ (b = env.locals) := fun b hb q => K.apartL (q ▸ hb)
  have hv := h.run.1
  refine turn_snd K h.left.head h.at_ hv fun v s₁ go => go fun s₂ N₂ rv k₂ i₂ => ?_
  have a₂ := h.acc.keep (fun o e => k₂ D o hDw e) i₂
  have wo : WOK ae.sc env (fun b => b = env.locals) := ⟨rfl, fun x b q => absurd (h.sc ▸ q) (hsc x)⟩
  refine assignT_snd Z S wo h.run.2 Rm N₂.ok N₂.vars rv fun ae₂ st₃ s₃ loc₃ h₃ e₃ G₃ x₃ V₃ => tests_snd S Rm h₃ G₃ V₃ fun b st₄ s₄ loc₄ h₄ G₄ x₄ => ?_
  have V₄ := V₃.ext G₃ x₄
  have a₄ := (a₂.ext x₃ fun q => hDl q.symm).ext x₄ id
  have x₂₄ := x₃.trans (x₄.any (W := fun b => b = env.locals))
  have hsc₂ := e₃.trans h.sc
  cases b with
  | true =>
    refine S.ev (h₄.t rfl) Rm G₄ V₄ fun y st₅ vy s₅ loc₅ h₅ G₅ x₅ r₅ => ?_
    refine AccAt.append (env := env) (ae := ae₂) (a₄.ext x₅ id) G₅ hD hDl hDc (Nat.le_trans (Nat.le_trans h.len h.left.le) hz) r₅ fun s₆ G₆ V₆ a₆ k₆ i₆ x₆ => ?_
    have N₅ := WalkAt.step K N₂ hv G₅ (x₂₄.trans x₅.any) (fun _ q => q) hw2 (V₄.ext G₄ x₅)
    refine weak_K h₅ (V₆ N₅.vars) fun ae' hs V₇ h₇ => hJ ae' loc₅ st₅ (don ++ [y]) _ _ s₆ ⟨h.left.tail, by rw [List.length_append]; exact Nat.succ_le_succ h.len, hs.trans hsc₂, fun ys st q => ?_, h₇, ⟨G₆, V₇, x₆ _ _ _ _ N₅.ext hDB, fun b o e hi => i₆ b o (N₅.imm b o e hi) hi, N₅.at_, N₅.le, fun hv' => ?_⟩, a₆⟩
    · rw [List.append_assoc]; exact h.post _ _ q
    · exact K.itr.turns.frame _ _ _ (N₅.there hv') fun b hb o e => k₆ b o (fun q => (K.foot _ (q ▸ hb)).elim hDw fun q => q.elim fun id q => hDf id q.1 q.2.1 q.2.2.symm) e
  | false =>
    have N₄ := WalkAt.step K N₂ hv G₄ x₂₄ (fun _ q => q) hw2 V₄
    exact weak_K (h₄.f rfl) V₄ fun ae' hs V₇ h₇ => hJ ae' loc₄ st₄ don vs K' s₄ ⟨h.left.tail, Nat.le_succ_of_le h.len, hs.trans hsc₂, h.post, h₇, ⟨N₄.ok, V₇, N₄.ext, N₄.imm, N₄.at_, N₄.le, N₄.there⟩, a₄⟩

theorem compLoop_snd (Z : StaticOK X) (S : Snd X r n) (Rm : Room A n) {csc : Scope} {pos : Pos} (K : Walk X env src A target I fp wr items num Pv Md St sB locB stB sI locI stI) {ae₀ : AEnv} (h : compLoop r src ver target elt ifs items ae₀ st P) (hz : items.length ≤ 1000000)
    (hsc : ∀ x, ae₀.sc.names.lookup x ≠ some .cell) (hD : X.h0.get? D = none) (hDB : sB.heap.get? D = none) (hDl : env.locals ≠ D) (hDc : ∀ x c, env.cells.lookup x = some c → c ≠ D) (hDw : D ∉ wr) (hDf : ∀ id, src.id? = some id → id < stI.next → locI id ≠ D)
    (N : WalkAt X env ae₀ src ver St (fun b => b = env.locals) sB locB stB sI locI stI 0 s loc st) (a₀ : AccAt X D [] [] s loc st)
    (hR : ∀ total st' vs s' loc' ae', P total st' → OK X s' loc' st' → Ext (fun b => b = env.locals) sB locB stB s' loc' st' → EnvOK X env ae' s'.heap loc' st'.next → AccAt X D vs total s' loc' st' → R (.ok .next) s') :
    codeAny (model PW X.w) A (.compLoop (.ListComp elt [⟨target, iter, ifs, 0⟩] csc pos) 0 (.ref I) (.ref D) env) R s := by
  refine codeAny_compLoop_gen (fun k s' => ∃ rest i ae₁ loc₁ st₁ don vs K', k = rest.length ∧ CAt X r env src ver target elt ifs D items St sB sI locB locI stB stI P ae₀.sc rest i ae₁ loc₁ st₁ don vs K' s') (fun k s' h => ?_) items.length
    ⟨items, 0, ae₀, loc, st, [], [], P, rfl, .zero _, Nat.le_refl _, rfl, fun _ _ h => h, h, N, a₀⟩
  refine opq fun g hg => h.elim fun rest h => h.elim fun i h => h.elim fun ae₁ h => h.elim fun loc₁ h => h.elim fun st₁ h => h.elim fun don h => h.elim fun vs h => h.elim fun K' h => hg ?_
  clear hg
  match rest, h with
  | [], h => exact end_snd K (h.2.left.nil ▸ h.2.at_) h.2.run.1 fun s₂ G₂ V₂ x₂ k₂ i₂ => hR _ _ vs s₂ loc₁ ae₁ (List.append_nil don ▸ h.2.post _ _ h.2.run.2) G₂ x₂ V₂ (h.2.acc.keep (fun o e => k₂ D o hDw e) i₂)
  | a :: rest, h => exact compTurn_snd Z S Rm K hz hsc hD hDB hDl hDc hDw hDf h.2 fun ae loc st don vs K' s q => ⟨_, h.1 ▸ Nat.lt_succ_self _, rest, i + 1, ae, loc, st, don, vs, K', rfl, q⟩
end
end
end
/-! AS18 -/
section
set_option autoImplicit false
set_option maxRecDepth 100000
open PySem PySem.W PyProof.Rows PySem.Calls

/- what is wanted behind a comprehension: its table C is still there -/
noncomputable def ThenC (X : Cx) (s : Shared) (loc : Nat → Addr) (st : ASt) (P : AVal → ASt → Prop) (R : Value → Addr → Shared → Prop) : Prop :=
  ∀ a st' D C s' loc', P a st' → OK X s' loc' st' → Ext NoW s loc st s' loc' st' → VRel X s'.heap loc' st'.next (.ref D) a → (∃ m, s'.heap.Ns C m) → s.heap.get? C = none → (∀ i, i < st'.next → loc' i ≠ C) → X.h0.get? C = none → R (.ref D) C s'
section
variable {X : Cx} {r : Rec} {n : Nat} {A : Around} {E : Value → Shared → Prop} {s : Shared} {loc : Nat → Addr} {st : ASt} {env : Env} {ae : AEnv}

theorem EnvOK.cellDead {h : Heap} {N : Nat} (V : EnvOK X env ae h loc N) {y : Str} {c : Addr} (hc : env.cells.lookup y = some c) (hb : h.get? c = none) : False := by
  refine (V.cell y (V.celled y c hc)).elim fun d h => h.2.elim fun o q => q.elim fun v q => ?_
  have e := h.1
  rw [hc] at e
  cases e
  have ho := q.1
  rw [hb] at ho
  cases ho
theorem EnvOK.locDead {h : Heap} {N : Nat} (V : EnvOK X env ae h loc N) (hb : h.get? env.locals = none) : False :=
  V.ns.elim fun m h => h.1.elim fun o q => q.elim fun es q => q.elim fun ep q => by have ho := q.1; rw [hb] at ho; cases ho

theorem comp_block (Z : StaticOK X) (S : Snd X r n) (Rm : Room A n) (G : OK X s loc st) (V : EnvOK X env ae s.heap loc st.next) {elt target iter : Expr} {ifs : List Expr} {sc : Scope} {pos : Pos} {cl : List (Str × Addr)} {P : AVal → ASt → Prop} (hok : compOk sc ae.sc = true) (h : srcOf r ae iter st (thn (compS r elt ⟨target, iter, ifs, 0⟩ (compEnvA sc ae)) P))
    (h1 : ∀ x c, cl.lookup x = some c → env.cells.lookup x = some c ∧ (x, NameKind.free) ∈ sc.names) (h2 : ∀ x, (x, NameKind.free) ∈ sc.names → ∃ c, cl.lookup x = some c) {RR : Value → Addr → Result → Shared → Prop}
    (hRR : ThenC X s loc st P fun D C s' => RR D C (.ok .next) s') :
    wpAny (model PW X.w) A (eval iter env) (fun x s₁ => wpAny (model PW X.w) A (pyIter x) (fun it s₂ => wpAny (model PW X.w) A (newList []) (fun acc s₃ => wpAny (model PW X.w) A (newFunctionEnv sc env.globals cl [] env.qual none .none (some env)) (fun cenv s₄ =>
      codeAny (model PW X.w) A (.compStart (.ListComp elt [⟨target, iter, ifs, 0⟩] sc pos) 0 it acc { cenv with scope := relabel sc env }) (RR acc cenv.locals) s₄) E s₃) E s₂) E s₁) E s := by
  have oo := compOk_of hok
  have o1 := oo.1
  have o2 := oo.2.1
  refine srcOf_snd Z S h Rm G V fun src st₂ x s₁ loc₁ h G₁ x₁ sv => grd_K h fun ht h => pyIter_snd Rm h.out G₁ sv ht (fun b => x₁.dead) fun items I fp wr num Pv Md St s₂ h G₂ x₂ itr st0 hwr hfp => req_K h fun hz h => ?_
  have V₂ := (V.ext G x₁).ext G₁ x₂
  have x₁₂ := x₁.trans x₂
  refine wpAny_newList ?_
  refine wpAny_newFunctionEnv o2 (by intro y hy; simp at hy) (fun h₁ hns₁ hsb₁ => ?_) o1
  dsimp only at hns₁ hsb₁ ⊢
  generalize hH2 : s₂.heap.push { cls := .type "list", dict := none, data := .seq ([] : List Value).toArray } = H2 at hns₁ hsb₁ ⊢
  have hC : H2.objs.size = s₂.heap.objs.size + 1 := by rw [← hH2, Heap.size_push]
  have hDC : s₂.heap.objs.size ≠ H2.objs.size := by rw [hC]; exact Nat.ne_of_lt (Nat.lt_succ_self _)
  have below : ∀ b o, s₂.heap.get? b = some o → b ≠ H2.objs.size ∧ b ≠ s₂.heap.objs.size := fun b o e => by
    have hb := Heap.lt_size e
    exact ⟨by rw [hC]; exact Nat.ne_of_lt (Nat.lt_succ_of_lt hb), Nat.ne_of_lt hb⟩
  have old : ∀ b o, s₂.heap.get? b = some o → h₁.get? b = some o := fun b o e => hsb₁.extBut b o (below b o e).1 (Heap.get?_push_of_some _ (hH2 ▸ Heap.get?_push_of_some _ e))
  have hacc : h₁.get? s₂.heap.objs.size = some ⟨.type "list", none, .seq (List.toArray ([] : List Value)) 0, #[]⟩ := hsb₁.extBut _ _ hDC (Heap.get?_push_of_some _ (hH2 ▸ Heap.get?_push_size _ rfl))
  have fresh : ∀ b, s₂.heap.objs.size ≤ b → s.heap.get? b = none := fun b hb => x₁₂.dead (none_ge _ hb)
  have fresh0 : ∀ b, s.heap.get? b = none → X.h0.get? b = none := fun b hb => (G.off hb).1
  have hCf := fresh H2.objs.size (by rw [hC]; exact Nat.le_succ _)
  have hDf := fresh s₂.heap.objs.size (Nat.le_refl _)
  have p₄ := G₂.keeps (h' := h₁) (t := s₂.toks + ([] : List (Str × Value)).length) old
  have G₄ := p₄.1
  have x₄ := p₄.2
  have x₁₄ := x₁₂.trans x₄
  have V₄ := V₂.ext G₂ x₄
  have locNe : ∀ b, s₂.heap.objs.size ≤ b → ∀ i, i < st₂.next → loc₁ i ≠ b := fun b hb => (G₂.off (none_ge _ hb)).2
  have Vc := compEnv_snd (cl := cl) (C := H2.objs.size) hok G₄ V₄ h1 h2 hns₁ (fresh0 _ hCf) (locNe _ (by rw [hC]; exact Nat.le_succ _))
  have wlt : ∀ b ∈ wr, b < s₂.heap.objs.size := fun b hb => (hwr b hb).2.elim fun o h => h.elim fun _ h => Heap.lt_size h.1
  have apL : (compEnvC sc cl H2.objs.size env).locals ∉ wr := fun hb => by
    have q : H2.objs.size < s₂.heap.objs.size := wlt _ hb
    rw [hC] at q
    exact Nat.lt_irrefl _ (Nat.lt_of_succ_lt q)
  have apC : ∀ y c, (compEnvC sc cl H2.objs.size env).cells.lookup y = some c → c ∉ wr := fun y c hc hb => V.cellDead (h1 y c hc).1 (hwr _ hb).1
  have K : Walk X (compEnvC sc cl H2.objs.size env) src A target I fp wr items num Pv Md St s loc st s₂ loc₁ st₂ := ⟨itr, fun b hb => fresh0 _ (hwr b hb).1, fun b hb => (hwr b hb).1, apL, apC, hfp⟩
  have N₄ : WalkAt X (compEnvC sc cl H2.objs.size env) (compEnvA sc ae) src (src.watch st₂) St (fun b => b = (compEnvC sc cl H2.objs.size env).locals) s loc st s₂ loc₁ st₂ 0 { s₂ with heap := h₁, toks := s₂.toks + ([] : List (Str × Value)).length } loc₁ st₂ :=
    ⟨G₄, Vc, x₁₄.mono fun _ q => q.elim, fun b o e _ => old b o e, fun _ _ => rfl, Nat.le_refl _, fun _ => itr.turns.frame _ _ _ st0 fun b _ o e => old b o e⟩
  have loop : codeAny (model PW X.w) A (.compLoop (.ListComp elt [⟨target, iter, ifs, 0⟩] sc pos) 0 (.ref I) (.ref s₂.heap.objs.size) (compEnvC sc cl H2.objs.size env)) (RR (.ref s₂.heap.objs.size) H2.objs.size) { s₂ with heap := h₁, toks := s₂.toks + ([] : List (Str × Value)).length } := by
    refine compLoop_snd Z S Rm K h.out hz (fun y q => ?_) (fresh0 _ hDf) hDf hDC.symm (fun y c hc q => ?_) (fun q => Nat.lt_irrefl _ (wlt _ q)) (fun id hid hlt q => locNe _ (Nat.le_refl _) id hlt q) N₄ ⟨⟨_, hacc⟩, .nil, fun i hi => locNe _ (Nat.le_refl _) i hi⟩ fun ys st' vs s' loc' ae₂ h G' x' V' acc => ?_
    · exact o2 _ (mem_of_lookup q) rfl
    · exact V.cellDead (h1 y c hc).1 (q ▸ hDf)
    · have w := G'.adopt acc.off (fresh0 _ hDf) (d := .list ys) (acc.obj.elim fun k h => ⟨vs, k, h, acc.rel⟩)
      have x'' := w.2.2.2 _ _ _ _ x' hDf
      refine hRR _ _ _ _ s' _ h.out w.1 ?_ w.2.1 (V'.ns.elim fun m h => ⟨m, h.1⟩) hCf (fun i hi q => ?_) (fresh0 _ hCf)
      · refine ⟨x''.le, x''.at_, x''.fresh, fun b o e hn _ => x''.keep b o e hn fun q => ?_, x''.live, x''.imm, x''.verLe, x''.ver, x''.gens, x''.os⟩
        subst q
        rw [show (compEnvC sc cl H2.objs.size env).locals = H2.objs.size from rfl, hCf] at e; o_facts e
      · exact (w.2.2.1 i hi).elim (fun q' => hDC (q'.symm.trans q)) fun q' => V'.apart i q'.1 (q'.2.symm.trans q)
  exact codeAny_compStart_list loop (itr.self 0 _ _ _ (itr.turns.frame _ _ _ st0 fun b _ o e => old b o e) loop)

end
end
/-! AS19 -/
section
set_option autoImplicit false
set_option maxRecDepth 100000
open PySem PySem.W PyProof.Rows PySem.Calls

section
variable {X : Cx} {r : Rec} {n : Nat} {A : Around} {E : Value → Shared → Prop} {s : Shared} {loc : Nat → Addr} {st : ASt} {env : Env} {ae : AEnv}

theorem notSet_all (env : Env) (x : Value) (e : Expr) : All notSet (fun e => foldedSetIterable e env x = pure x) e := by cases e <;> first | exact .no rfl | exact .yes rfl
theorem notSet_folded {e : Expr} (h : notSet e = true) : ∀ x, foldedSetIterable e env x = pure x := fun x => notSet_all env x e h

/- the table of a comprehension is let go -/
theorem let_go {C : Addr} {h' : Heap} (G : OK X s loc st) (hn : ∃ m, s.heap.Ns C m) (h0 : X.h0.get? C = none) (hl : ∀ i, i < st.next → loc i ≠ C) (hs : Heap.SameBut C s.heap h') :
    OK X { s with heap := h' } loc st ∧ (∀ b o, s.heap.get? b = some o → Imm o = true → h'.get? b = some o) ∧ (∀ {env : Env} {ae : AEnv}, EnvOK X env ae s.heap loc st.next → (C ≠ env.locals ∧ ∀ x c, env.cells.lookup x = some c → c ≠ C) → EnvOK X env ae h' loc st.next) ∧
    ∀ (W : Addr → Prop) (s₀ : Shared) (loc₀ : Nat → Addr) (st₀ : ASt), Ext W s₀ loc₀ st₀ s loc st → s₀.heap.get? C = none → Ext W s₀ loc₀ st₀ { s with heap := h' } loc st := by
  refine hn.elim fun m h => h.elim fun o h => h.elim fun es h => h.elim fun ep h => ?_
  have one : ∀ {p : Addr → Prop}, p C → ∀ b ∈ [C], p b := fun h b hb => (List.mem_singleton.mp hb) ▸ h
  have w := off_step (wr := [C]) (h' := h') (t := s.toks) G (one hl) (one fun o' e => by have ho := h.1; rw [e] at ho; cases ho; exact Imm.notDict h.2.1) (one h0) (fun b o hb e => hs.extBut b o (fun q => hb (q ▸ .head _)) e)
  exact ⟨w.1, w.2.1, fun V q => w.2.2.1 V (one q), fun W s₀ loc₀ st₀ x e => w.2.2.2 W s₀ loc₀ st₀ x (one e)⟩

theorem EnvOK.frees {h : Heap} {N : Nat} {sc : Scope} (V : EnvOK X env ae h loc N) (ok : compOk sc ae.sc = true) : ∀ x, (x, NameKind.free) ∈ sc.names → ∃ c, env.cells.lookup x = some c :=
  fun x hx => (V.cell x (V.cellAt ((compOk_of ok).2.2.2 x hx).1)).elim fun c h => ⟨c, h.1⟩

theorem comp_any (Z : StaticOK X) (S : Snd X r n) (Rm : Room A n) (G : OK X s loc st) (V : EnvOK X env ae s.heap loc st.next) {elt target iter : Expr} {ifs : List Expr} {k : Int} {sc : Scope} {pos : Pos} {P : AVal → ASt → Prop} (h : compA r ae elt ⟨target, iter, ifs, k⟩ sc st P) {use : Option (Value → Sem Unit)} {Q : Value → Shared → Prop}
    (hR : ThenC X s loc st P fun D C s' => compPost (model PW X.w) A E use Q D C (.ok .next) s') : wpAny (model PW X.w) A (comprehension (.ListComp elt [⟨target, iter, ifs, k⟩] sc pos) sc env (firstIterPos [⟨target, iter, ifs, k⟩] pos) (newList []) (firstAsync [⟨target, iter, ifs, k⟩]) (eval iter env) use) Q E s := by
  refine grd_K h fun hb h => ?_
  have hb1 := (Bool.and_eq_true_iff.mp hb).1
  have ok := (Bool.and_eq_true_iff.mp hb).2
  obtain rfl : k = 0 := by simpa using (Bool.and_eq_true_iff.mp hb1).2
  have oo := compOk_of ok
  exact (closure_of sc env (V.frees ok)).elim fun cl c => wpAny_comprehension_free (use := use) (g := ⟨target, iter, ifs, 0⟩) (gs := []) rfl (notSet_folded (Bool.and_eq_true_iff.mp hb1).1) c.1 oo.1 oo.2.2.1
    (comp_block (RR := fun acc C => compPost (model PW X.w) A E use Q acc C) Z S Rm G V ok h c.2.1 c.2.2 hR)

theorem comp_snd (Z : StaticOK X) (S : Snd X r n) (Rm : Room A n) (G : OK X s loc st) (V : EnvOK X env ae s.heap loc st.next) {elt : Expr} {g : Comprehension} {sc : Scope} {pos : Pos} {P : AVal → ASt → Prop} {Q : Value → Shared → Prop} (h : compA r ae elt g sc st P)
    (T : Then X s loc st P Q) : wpAny (model PW X.w) A (eval (.ListComp elt [g] sc pos) env) Q E s := by
  obtain ⟨target, iter, ifs, k⟩ := g
  rw [eval_ListComp]
  refine comp_any (use := none) Z S Rm G V h fun a st' D C s' loc' h G' x' rv hm hC hl h0 => hm.elim fun m hm => ⟨m, hm, fun h' hs => ?_⟩
  have w := let_go G' ⟨m, hm⟩ h0 hl hs
  exact T _ _ _ _ loc' h w.1 (w.2.2.2 _ _ _ _ x' hC) (rv.mono w.2.1 (fun _ _ => rfl) (Nat.le_refl _))

theorem use_snd (Z : StaticOK X) (S : Snd X r n) (Rm : Room A n) (G : OK X s loc st) (V : EnvOK X env ae s.heap loc st.next) {elt : Expr} {g : Comprehension} {sc : Scope} {pos : Pos} {P : AVal → ASt → Prop} {u : Value → Sem Unit} {Q : Unit → Shared → Prop} (h : compA r ae elt g sc st P)
    (hu : ThenC X s loc st P fun D C s' => wpAny (model PW X.w) A (u D) (fun _ s'' => ∃ m, s''.heap.Ns C m ∧ ∀ h', Heap.SameBut C s''.heap h' → Q () { s'' with heap := h' }) E s') : wpAny (model PW X.w) A (evalThenUse (.ListComp elt [g] sc pos) env u) Q E s := by
  obtain ⟨target, iter, ifs, k⟩ := g
  exact wpAny_bind (wpAny_mono (comp_any (use := some u) (Q := fun _ s' => Q () s') Z S Rm G V h hu) (fun _ s' hq => wpAny_pure hq) fun _ _ e => e)

theorem names_all (f : Expr → Option Str) (hf : ∀ t, f t = none ∨ f t = nameOfE t) : ∀ ts : List Expr, (ts.filterMap f).length ≤ ts.length ∧ ((ts.filterMap f).length = ts.length → ts.all isNameE = true ∧ ts.filterMap f = ts.filterMap nameOfE)
  | [] => ⟨Nat.le_refl _, fun _ => ⟨rfl, rfl⟩⟩
  | t :: ts => by
    refine e0a2 (names_all f hf ts) fun h1 h2 => ?_
    cases q : f t with
    | none =>
      rw [List.filterMap_cons_none q]
      exact ⟨Nat.le_succ_of_le h1, fun e => by simp only [List.length_cons] at e; lia -abstractProof⟩
    | some x =>
      rw [List.filterMap_cons_some q]
      have q' : nameOfE t = some x := by
        rcases hf t with e | e
        · rw [q] at e; o_facts e
        · rw [← e, q]
      rw [List.filterMap_cons_some q']
      refine ⟨by simp only [List.length_cons]; lia -abstractProof, fun e => ?_⟩
      simp only [List.length_cons] at e
      refine e0a2 (h2 (by lia -abstractProof)) fun a b => ?_
      refine ⟨?_, by rw [b]⟩
      rw [List.all_cons, a]
      unfold isNameE
      rw [q']
      rfl

theorem ite_D {α : Type} {c : Prop} [Decidable c] {a b : α} {R : α → Prop} (h1 : c → R a) (h2 : ¬ c → R b) : R (if c then a else b) := by
  by_cases h : c
  · rw [if_pos h]; exact h1 h
  · rw [if_neg h]; exact h2 h
theorem name_both {t : Expr} (h : isNameE t = true) (h' : (nameOfE t).isNone = true) : False := by
  refine e2a1 (isNameE_elim h) fun x p e2_ => ?_; subst e2_
  cases h'
theorem plainT_list {t : Expr} (h : plainT t = true) : isK 24 t = false ∧ notStar t = true := by
  have h : (!(isK 22 t || isK 24 t)) = true := h
  show _ ∧ (!isK 22 t) = true
  generalize isK 22 t = a at h
  generalize isK 24 t = b at h
  revert a b
  decide
/- exchanged stores of a display of names, or none -/
noncomputable def SwR (ts : List Expr) (r : Sem (Option (List Str))) : Prop := r = pure none ∨ ts.all isNameE = true ∧ noDup (ts.filterMap nameOfE) = true ∧ r = pure (some (ts.filterMap nameOfE))
theorem or_f {a b : Bool} (h : ¬ ((a || b) = true)) : a = false ∧ b = false := Bool.or_eq_false_iff.mp (Bool.eq_false_iff.mpr h)
theorem eq_of_bne {a b : Nat} (h : (a != b) = false) : a = b := by simpa using h
theorem swaps_tt {ts vs : List Expr} {k k' : Nat} {p p' : Pos} (h : pairOk (.Tuple ts k p) (.Tuple vs k' p') = true) : SwR ts (swappedStores [.Tuple ts k p] (.Tuple vs k' p') env) := by
  unfold swappedStores
  refine ite_D (R := SwR ts) (fun _ => .inl rfl) fun c1 => ite_D (R := SwR ts) (fun _ => .inl rfl) fun _ => ite_D (R := SwR ts) (fun _ => .inl rfl) fun c3 => ite_D (R := SwR ts) (fun _ => .inl rfl) fun _ => ?_
  have key : ∀ f : Expr → Option Str, (ts.filterMap f).length = ts.length → (∀ t, f t = none ∨ f t = nameOfE t) → ts.all isNameE = true ∧ ts.filterMap f = ts.filterMap nameOfE := fun f e hf => (names_all f hf ts).2 e
  have a := key _ (eq_of_bne (or_f c3).1) (fun u => by
    split
    case h_2 => exact .inl rfl
    exact ite_D (R := fun z => z = none ∨ z = some _) (fun _ => .inr rfl) fun _ => .inl rfl)
  have hp : ((ts.all fun t => (nameOfE t).isNone) || (noDup (ts.filterMap nameOfE) && !vs.all (constantsAlone 8))) = true := h
  rcases Bool.or_eq_true_iff.mp hp with hp | hp
  · exfalso
    have c1 := (Bool.or_eq_false_iff.mp (or_f c1).1).1
    cases ts with
    | nil => simp at c1
    | cons t ts => exact name_both (Bool.and_eq_true_iff.mp (List.all_cons.symm.trans a.1)).1 (Bool.and_eq_true_iff.mp (List.all_cons.symm.trans hp)).1
  · have hp := Bool.and_eq_true_iff.mp hp
    have hc : vs.all (constantsAlone 8) = false := by simpa using hp.2
    refine .inr ⟨a.1, hp.1, ?_⟩
    rw [← a.2]
    exact if_neg (by rw [hc]; decide)
theorem swaps_tup (ts : List Expr) (k : Nat) (p : Pos) (env : Env) (e : Expr) : All (fun e => !isK 25 e) (fun e => swappedStores [.Tuple ts k p] e env = pure none) e := by cases e <;> first | exact .no rfl | exact .yes rfl
theorem swaps_all (e : Expr) (env : Env) (t : Expr) : All (fun t => !(isK 24 t || isK 25 t)) (fun t => swappedStores [t] e env = pure none) t := by cases t <;> first | exact .no rfl | exact .yes rfl
theorem isK_tup (e : Expr) : All (fun e => isK 25 e) (fun e => ∃ ts k p, e = .Tuple ts k p) e := by cases e <;> first | exact .yes rfl | exact .no ⟨_, _, _, rfl⟩
theorem swaps_no {t e : Expr} (hl : isK 24 t = false) (h : ∀ ts k p vs k' p', t = .Tuple ts k p → e ≠ .Tuple vs k' p') : swappedStores [t] e env = pure none := by
  cases ht : isK 25 t with
  | false => exact swaps_all e env t (by show (!(isK 24 t || isK 25 t)) = true; rw [hl, ht]; rfl)
  | true =>
    refine e3a1 (isK_tup t ht) fun ts k p e3_ => ?_; subst e3_
    refine swaps_tup ts k p env e ?_
    cases he : isK 25 e with
    | false => show (!isK 25 e) = true; rw [he]; rfl
    | true =>
      refine e3a1 (isK_tup e he) fun vs k' p' e3_ => ?_; subst e3_
      exact absurd rfl (h _ _ _ _ _ _ rfl)
theorem swappedStores_cases {t e : Expr} (h : pairOk t e = true) (hl : isK 24 t = false) : swappedStores [t] e env = pure none ∨ ∃ ts k p, t = .Tuple ts k p ∧ ts.all isNameE = true ∧ noDup (ts.filterMap nameOfE) = true ∧ swappedStores [t] e env = pure (some (ts.filterMap nameOfE)) := by
  by_cases ht : ∃ ts k p vs k' p', t = .Tuple ts k p ∧ e = .Tuple vs k' p'
  · obtain ⟨ts, k, p, vs, k', p', rfl, rfl⟩ := ht
    exact (swaps_tt h).imp id fun q => ⟨ts, k, p, rfl, q⟩
  · exact .inl (swaps_no hl fun ts k p vs k' p' q q' => ht ⟨_, _, _, _, _, _, q, q'⟩)

theorem noDup_nodup : ∀ {l : List Str}, noDup l = true → l.Nodup
  | [], _ => List.nodup_nil
  | x :: l, h => by
    unfold noDup at h
    rw [Bool.and_eq_true] at h
    rw [List.nodup_cons]
    exact ⟨by simpa using h.1, noDup_nodup h.2⟩

variable {P : Out → ASt → Prop} {Q : Flow → Shared → Prop}

theorem assign_plain_snd (Z : StaticOK X) (S : Snd X r n) (Rm : Room A n) (G : OK X s loc st) (V : EnvOK X env ae s.heap loc st.next) {t e : Expr} {pos : Pos} (hp : pairOk t e = true) (ht : plainT t = true) (h : r.ev e ae st (thn (asgK r t ae) P)) (hs : swapsWithSole [t] e pos.line env = pure false)
    (T : ThenF X env s loc st P Q) : wpAny (model PW X.w) A (exec (.Assign [t] e pos) env) Q E s := by
  have pl := plainT_list ht
  rcases swappedStores_cases (env := env) hp pl.1 with hw | ⟨ts, k, p, rfl, n1, n2, hw⟩
  · refine wpAny_Assign_stores (S.ev h Rm G V fun a st₁ v s₁ loc₁ h G₁ x₁ r₁ => ?_) hs hw
    rw [assignEach_plain pl.2]
    exact assignT_snd Z S (WOK.wr _) h Rm G₁ (V.ext G x₁) r₁ fun ae' st₂ s₂ loc₂ h _ G₂ x₂ V₂ => T _ _ .next s₂ loc₂ h G₂ (x₁.any.trans x₂) (.next V₂)
  · refine Assign_Tuple_swapped (S.ev h Rm G V fun a st₁ v s₁ loc₁ h G₁ x₁ r₁ => ?_) hs hw
    cases r₁ with
    | @tup ad ob vs m l he htc htd hr =>
      refine grd_K (show grd (tupOk ts l) (bindTs r ts ae l) st₁ _ from h) fun hb h => ?_
      have bn := bindTs_names n1 hb h
      have e : (ts.filterMap nameOfE).length = vs.toArray.size := by rw [bn.2.2, List.size_toArray, hr.length]
      rw [e]
      refine unpackItems_tuple Rm.handled ⟨_, he, htc, m, htd⟩ fun h' hx => ?_
      have p := G₁.keeps (h' := h') (t := s₁.toks) (fun b o e => hx b o (Nat.ne_of_lt (Heap.lt_size e)) e)
      have x₁' := x₁.trans p.2
      refine setVs_snd (W := Wr env) (P := fun ae' st' => ae' = ⟨ae.sc, setVs (ts.filterMap nameOfE).reverse l.reverse ae.vars⟩ ∧ st' = st₁) (WOK.wr _) (fun x hx => bn.2.1 x (List.mem_reverse.mp hx)) ⟨rfl, rfl⟩ p.1 (V.ext G x₁') ?_ (by rw [List.length_reverse, List.length_reverse, bn.2.2]) fun ae' st' s₂ loc₂ h' _ G₂ x₂ V₂ => ?_
      · rw [List.toList_toArray]; exact (hr.ext p.2).reverse
      · obtain ⟨rfl, rfl⟩ := h'
        exact T _ _ .next s₂ loc₂ bn.1 G₂ (x₁'.any.trans x₂) (.next (V₂.weak rfl fun x v e => (setVs_reverse (noDup_nodup n2) bn.2.2 x).trans e))
    | _ => exact h.elim

theorem assign_used_snd (Z : StaticOK X) (S : Snd X r n) (Rm : Room A n) (G : OK X s loc st) (V : EnvOK X env ae s.heap loc st.next) {elt : Expr} {gens : List Comprehension} {sc : Scope} {q p pos : Pos} {x : Str} (h : r.ev (.ListComp elt gens sc q) ae st (thn (asgK r (.Name x p) ae) P)) (hs : swapsWith (.ListComp elt gens sc q) (some (.Name x p)) pos.line env = pure true)
    (T : ThenF X env s loc st P Q) : wpAny (model PW X.w) A (exec (.Assign [.Name x p] (.ListComp elt gens sc q) pos) env) Q E s := by
  rw [exec_Assign_Name_used _ _ _ _ hs]
  refine wpAny_bind (wpAny_standAt (wpAny_bind (S.use h Rm G V (Q := fun _ s' => wpAny (model PW X.w) A (pure Flow.next) Q E s') fun a st₁ D C s₁ loc₁ h G₁ x₁ r₁ hm hC hl h0 => ?_)))
  have hCl : C ≠ env.locals := fun q => V.locDead (q ▸ hC)
  have hCc : ∀ x c, env.cells.lookup x = some c → c ≠ C := fun x c hc q => V.cellDead hc (q ▸ hC)
  refine wpAny_assign_Name (storeName_snd (WOK.wr _) h G₁ (V.ext G x₁) r₁ fun ae' st₂ s₂ loc₂ h _ G₂ x₂ V₂ => hm.elim fun m hm => hm.elim fun o hm => hm.elim fun es hm => hm.elim fun ep hm => ?_)
  have hm₂ : s₂.heap.Ns C m := ⟨o, es, ep, x₂.keep C o hm.1 hl (fun q => q.elim hCl fun q => q.elim fun y q => hCc y C q rfl), hm.2⟩
  refine ⟨m, hm₂, fun h' hsb => ?_⟩
  have hl₂ : ∀ i, i < st₂.next → loc₂ i ≠ C := fun i hi q => by
    rcases Nat.lt_or_ge i st₁.next with h | h
    · exact hl i h ((x₂.at_ i h).symm.trans q)
    · have := x₂.fresh i h hi; rw [q, hm.1] at this; cases this
  have w := let_go G₂ ⟨m, hm₂⟩ h0 hl₂ hsb
  exact wpAny_pure (T _ _ .next _ loc₂ h w.1 (w.2.2.2 _ _ _ _ (x₁.any.trans x₂) hC) (.next (w.2.2.1 V₂ ⟨hCl, hCc⟩)))

theorem swapsWith_plain (t : Expr) (l : Nat) (env : Env) (e : Expr) : All notComp (fun e => swapsWith e (some t) l env = pure false) e := by cases e <;> first | exact .no rfl | exact .yes rfl
theorem swapsWith_target (elt : Expr) (gens : List Comprehension) (sc : Scope) (q : Pos) (l : Nat) (env : Env) (t : Expr) : All (fun t => !isNameE t) (fun t => swapsWith (.ListComp elt gens sc q) (some t) l env = pure false) t := by cases t <;> first | exact .no rfl | exact .yes rfl
theorem comp_all (e : Expr) : All (fun e => notSD e && !notComp e) (fun e => ∃ elt gens sc q, e = .ListComp elt gens sc q) e := by cases e <;> first | exact .yes rfl | exact .no ⟨_, _, _, _, rfl⟩
theorem comp_elim {e : Expr} (hsd : notSD e = true) (h : notComp e = false) : ∃ elt gens sc q, e = .ListComp elt gens sc q := comp_all e (by show (notSD e && !notComp e) = true; rw [hsd, h]; rfl)
theorem swapsWith_no {e t : Expr} {l : Nat} (hsd : notSD e = true) (hl : notComp e = false → isNameE t = false) : swapsWith e (some t) l env = pure false := by
  cases hc : notComp e with
  | true => exact swapsWith_plain t l env e hc
  | false =>
    refine e4a1 (comp_elim hsd hc) fun elt gens sc q e4_ => ?_; subst e4_
    exact swapsWith_target elt gens sc q l env t (by show (!isNameE t) = true; rw [hl hc]; rfl)
theorem assignS_snd (Z : StaticOK X) (S : Snd X r n) (Rm : Room A n) (G : OK X s loc st) (V : EnvOK X env ae s.heap loc st.next) {t e : Expr} {pos : Pos} (ht : plainT t = true) (hp : pairOk t e = true) (hsd : notSD e = true) (h : r.ev e ae st (thn (asgK r t ae) P))
    (T : ThenF X env s loc st P Q) : wpAny (model PW X.w) A (exec (.Assign [t] e pos) env) Q E s := by
  by_cases hl : notComp e = false → isNameE t = false
  · exact assign_plain_snd Z S Rm G V hp ht h (swapsWith_no hsd hl) T
  · refine e0a2 (Classical.not_imp.mp hl) fun h1 h2 => ?_
    refine e4a1 (comp_elim hsd h1) fun elt gens sc q e4_ => ?_; subst e4_
    refine e2a1 (isNameE_elim (by simpa using h2)) fun x p e2_ => ?_; subst e2_
    obtain ⟨b, hs⟩ : ∃ b, swapsWith (.ListComp elt gens sc q) (some (.Name x p)) pos.line env = pure b := ⟨_, rfl⟩
    cases b with
    | false => exact assign_plain_snd Z S Rm G V hp ht h hs T
    | true => exact assign_used_snd Z S Rm G V h hs T

end
end
/-! AS20 -/
section
set_option autoImplicit false
set_option maxRecDepth 100000
open PySem PySem.W PyProof.Rows PySem.Calls

section
variable {X : Cx} {r : Rec} {n : Nat} {A : Around} {E : Value → Shared → Prop} {s : Shared} {loc : Nat → Addr} {st : ASt} {env : Env} {ae : AEnv} {P : Out → ASt → Prop} {Q : Flow → Shared → Prop}

theorem ThenF.done {s₁ : Shared} {loc₁ : Nat → Addr} {st₁ : ASt} (T : ThenF X env s loc st P Q) (h : P (.next ae) st₁) (G : OK X s loc st) (V : EnvOK X env ae s.heap loc st.next) (G₁ : OK X s₁ loc₁ st₁) (x : Ext NoW s loc st s₁ loc₁ st₁) : Q .next s₁ :=
  T _ _ .next s₁ loc₁ h G₁ x.any (.next (V.ext G x))

theorem while_snd {k : Nat} (S : Snd X r n) (Rm : Room A n) {t : Expr} {b : List Stmt} {R : Result → Shared → Prop} (h : whileN r t b k ae st P) (G : OK X s loc st) (V : EnvOK X env ae s.heap loc st.next)
    (T : ThenF X env s loc st P fun fl s => R (.ok fl) s) : codeAny (model PW X.w) A (.whileLoop t b [] env) R s := by
  refine codeAny_whileLoop (fun k s' => ∃ ae₁ loc₁ st₁, whileN r t b k ae₁ st₁ P ∧ OK X s' loc₁ st₁ ∧ EnvOK X env ae₁ s'.heap loc₁ st₁.next ∧ Ext (Wr env) s loc st s' loc₁ st₁) (fun k s' h => ?_) k ⟨ae, loc, st, h, G, V, .refl ..⟩
  refine opq fun g hg => h.elim fun ae₁ h => h.elim fun loc₁ h => h.elim fun st₁ h => hg ?_
  have G₁ := h.2.1
  have V₁ := h.2.2.1
  have x₁ := h.2.2.2
  cases k with
  | zero => exact h.1.elim
  | succ k =>
    refine S.tr (P := fun _ c st => BrP c (exs r b ae₁ st (thn (thenO (weak (whileN r t b k))) P)) (P (.next ae₁) st)) h.1 Rm G₁ V₁ fun a c st₃ s₃ loc₃ h₃ _ G₃ x₃ => ?_
    have V₃ := V₁.ext G₁ x₃
    have x₁₃ := x₁.trans x₃.any
    cases c with
    | false =>
      rw [if_neg (by decide)]
      exact wpAny_execs_nil (T _ _ .next s₃ loc₃ (h₃.f rfl) G₃ x₁₃ (.next V₃))
    | true =>
      rw [if_pos rfl]
      refine exs_snd S Rm (h₃.t rfl) G₃ V₃ fun o st₄ fl s₄ loc₄ h₄ G₄ x₄ f₄ => ?_
      have x₁₄ := x₁₃.trans x₄
      revert h₄
      refine f₄.K (fun V₄ h₄ => ?_) fun rv hm h₄ => T _ _ _ s₄ loc₄ h₄ G₄ x₁₄ (.ret rv hm)
      · exact weak_K h₄ V₄ fun ae' _ V₅ h₅ => ⟨k, Nat.lt_succ_self _, ae', loc₄, st₄, h₅, G₄, V₅, x₁₄⟩

theorem for_snd (Z : StaticOK X) (S : Snd X r n) (Rm : Room A n) (G : OK X s loc st) (V : EnvOK X env ae s.heap loc st.next) {t e : Expr} {b : List Stmt} {pos : Pos} (hns : notSet e = true) (h : forS r t e b ae st P) (T : ThenF X env s loc st P Q) : wpAny (model PW X.w) A (exec (.For t e b [] pos) env) Q E s := by
  refine wpAny_For (srcOf_snd Z S h Rm G V fun src st₂ x s₁ loc₁ h G₁ x₁ sv => grd_K h fun ht h => pyIter_snd Rm h.out G₁ sv ht (fun b => x₁.dead) fun items I fp wr num Pv Md St s₂ h G₂ x₂ itr st0 hwr hfp => ?_) (notSet_folded hns)
  have x₁₂ := x₁.trans x₂
  have K : Walk X env src A t I fp wr items num Pv Md St s loc st s₂ loc₁ st₂ := ⟨itr, fun b hb => (G.off (hwr b hb).1).1, fun b hb => (hwr b hb).1, fun hb => V.locDead (hwr _ hb).1, fun y c hc hb => V.cellDead hc (hwr _ hb).1, hfp⟩
  exact forLoop_snd Z S Rm K h.out ⟨G₂, V.ext G x₁₂, x₁₂.any, fun b o e _ => e, fun _ _ => rfl, Nat.le_refl _, fun _ => st0⟩ T

theorem aug_attr_snd (Z : StaticOK X) (S : Snd X r n) (Rm : Room A n) (G : OK X s loc st) (V : EnvOK X env ae s.heap loc st.next) {o e : Expr} {a : Str} {op : Operator} {p pos : Pos} (h : augS r (.Attribute o a p) op e ae st P)
    (T : ThenF X env s loc st P Q) : wpAny (model PW X.w) A (exec (.AugAssign (.Attribute o a p) op e pos) env) Q E s := by
  refine wpAny_AugAssign_AttributeAny (S.ev h Rm G V fun ov st₁ vo s₁ loc₁ h G₁ x₁ r₁ => attrGet_snd Z h.out G₁ r₁ fun old st₂ vold s₂ loc₂ h G₂ x₂ r₂ => ?_)
  have x₁₂ := x₁.trans x₂
  refine S.ev h Rm G₂ (V.ext G x₁₂) fun av st₃ vv s₃ loc₃ h G₃ x₃ r₃ => aug_snd h G₃ (r₂.ext x₃) r₃ fun an st₄ vn s₄ loc₄ h G₄ x₄ r₄ => attrSet_snd Z h.out G₄ (((r₁.ext x₂).ext x₃).ext x₄) r₄ fun st₅ s₅ loc₅ h G₅ x₅ => ?_
  exact T.done h G V G₅ (((x₁₂.trans x₃).trans x₄).trans x₅)
theorem aug_sub_snd (Z : StaticOK X) (S : Snd X r n) (Rm : Room A n) (G : OK X s loc st) (V : EnvOK X env ae s.heap loc st.next) {o i e : Expr} {op : Operator} {p pos : Pos} (h : augS r (.Subscript o i p) op e ae st P)
    (T : ThenF X env s loc st P Q) : wpAny (model PW X.w) A (exec (.AugAssign (.Subscript o i p) op e pos) env) Q E s := by
  refine grd_K h fun hc h => wpAny_AugAssign_SubscriptAny (S.ev h Rm G V fun ov st₁ vo s₁ loc₁ h G₁ x₁ r₁ => S.ev h Rm G₁ (V.ext G x₁) fun iv st₀ vi s₀ loc₀ h G₀ x₀ r₀ => itemGet_snd h.out G₀ (r₁.ext x₀) r₀ fun old st₂ vold s₂ loc₂ h G₂ x₂ r₂ => ?_) (by
      intro a b c
      clear h T
      cases i <;> first | rfl | cases hc)
  have x₁₂ := (x₁.trans x₀).trans x₂
  refine S.ev h Rm G₂ (V.ext G x₁₂) fun av st₃ vv s₃ loc₃ h G₃ x₃ r₃ => aug_snd h G₃ (r₂.ext x₃) r₃ fun an st₄ vn s₄ loc₄ h G₄ x₄ r₄ => itemSet_snd h.out G₄ ((((r₁.ext x₀).ext x₂).ext x₃).ext x₄) (((r₀.ext x₂).ext x₃).ext x₄) r₄ fun st₅ s₅ loc₅ h G₅ x₅ => ?_
  exact T.done h G V G₅ (((x₁₂.trans x₃).trans x₄).trans x₅)
theorem del_snd (S : Snd X r n) (Rm : Room A n) (G : OK X s loc st) (V : EnvOK X env ae s.heap loc st.next) {ts : List Expr} {pos : Pos} (h : delS r ts ae st P)
    (T : ThenF X env s loc st P Q) : wpAny (model PW X.w) A (exec (.Delete ts pos) env) Q E s := by
  cases ts with
  | nil => exact h.elim
  | cons t ts =>
    have h : delI r (subOf t) ts ae st P := h
    cases e : subOf t with
    | none => rw [e] at h; exact h.elim
    | some y =>
      rw [e] at h
      obtain ⟨o, i⟩ := y
      refine e1a1 (subOf_is _ _ e) fun p e1_ => ?_; subst e1_
      refine grd_K h fun ht h => ?_
      obtain rfl := List.isEmpty_iff.mp ht
      exact wpAny_Delete (wpAny_deleteEach_cons (delete_Subscript (S.ev h Rm G V fun ov st₁ vo s₁ loc₁ h G₁ x₁ r₁ => S.ev h Rm G₁ (V.ext G x₁) fun iv st₀ vi s₀ loc₀ h G₀ x₀ r₀ => itemDel_snd h.out G₀ (r₁.ext x₀) r₀ fun st₂ s₂ loc₂ h G₂ x₂ =>
        wpAny_deleteEach_nil (T.done h G V G₂ ((x₁.trans x₀).trans x₂)))))

theorem expr_snd (S : Snd X r n) (Rm : Room A n) (G : OK X s loc st) (V : EnvOK X env ae s.heap loc st.next) {e : Expr} {pos : Pos} (hc : notComp e = true) (h : r.ev e ae st fun _ st => P (.next ae) st)
    (T : ThenF X env s loc st P Q) : wpAny (model PW X.w) A (exec (.Expr e pos) env) Q E s := by
  refine wpAny_Expr_any (S.ev h Rm G V fun a st₁ v s₁ loc₁ h G₁ x₁ r₁ => T.done h G V G₁ x₁) ?_ ?_
  · unfold interactive; rw [V.kind]; rfl
  · clear h
    cases e <;> first | rfl | cases hc
theorem if_snd (S : Snd X r n) (Rm : Room A n) (G : OK X s loc st) (V : EnvOK X env ae s.heap loc st.next) {t : Expr} {b o : List Stmt} {pos : Pos} (h : exF r (.If t b o pos) ae st P)
    (T : ThenF X env s loc st P Q) : wpAny (model PW X.w) A (exec (.If t b o pos) env) Q E s := by
  refine wpAny_If (S.tr (P := fun _ c st => BrP c (exs r b ae st P) (exs r o ae st P)) h Rm G V fun a c st₂ s₂ loc₂ h _ G₂ x₂ => ?_)
  cases c with
  | true => rw [if_pos rfl]; exact exs_snd S Rm (h.t rfl) G₂ (V.ext G x₂) (T.after x₂.any)
  | false => rw [if_neg (by decide)]; exact exs_snd S Rm (h.f rfl) G₂ (V.ext G x₂) (T.after x₂.any)

theorem EnvOK.hasNs {h : Heap} {N : Nat} (V : EnvOK X env ae h loc N) : ∃ m, h.Ns env.locals m := V.ns.elim fun m h => ⟨m, h.1⟩
theorem exF_snd (Z : StaticOK X) (S : Snd X r n) (Rm : Room A n) {t : Stmt} (h : exF r t ae st P) (G : OK X s loc st) (V : EnvOK X env ae s.heap loc st.next)
    (T : ThenF X env s loc st P Q) : wpAny (model PW X.w) A (exec t env) Q E s := by
  cases t with
  | Expr e pos => exact grd_K h fun hc h => expr_snd S Rm G V hc h T
  | Pass pos => exact wpAny_Pass (T.done h G V G (.refl ..))
  | Return e pos =>
    cases e with
    | some e => exact wpAny_Return_some (S.ev h Rm G V fun a st₁ v s₁ loc₁ h G₁ x₁ r₁ => T _ _ _ s₁ loc₁ h G₁ x₁.any (.ret r₁ (V.ext G x₁).hasNs))
    | none => exact wpAny_Return_none (T _ _ _ s loc h G (.refl ..) (.ret .none V.hasNs))
  | Assign ts e pos =>
    cases ts with
    | nil => exact h.elim
    | cons t ts =>
      refine grd_K h fun hc h' => ?_
      have h1 := Bool.and_eq_true_iff.mp hc
      have h2 := Bool.and_eq_true_iff.mp h1.1
      have h3 := Bool.and_eq_true_iff.mp h2.1
      obtain rfl := List.isEmpty_iff.mp h3.1
      exact assignS_snd Z S Rm G V h3.2 h2.2 h1.2 h' T
  | AugAssign t op e pos =>
    have h : augS r t op e ae st P := h
    unfold augS augI at h
    cases e1 : attrOf t with
    | some y =>
      rw [e1] at h
      obtain rfl := attrOf_is _ _ e1
      exact aug_attr_snd Z S Rm G V h T
    | none =>
      rw [e1] at h
      cases e2 : subOf t with
      | some y =>
        rw [e2] at h
        refine e1a1 (subOf_is _ _ e2) fun p e1_ => ?_; subst e1_
        exact aug_sub_snd Z S Rm G V h T
      | none => rw [e2] at h; exact h.elim
  | Delete ts pos => exact del_snd S Rm G V h T
  | If t b o pos => exact if_snd S Rm G V h T
  | While t b l pos =>
    refine grd_K h fun hl h' => ?_
    obtain rfl := List.isEmpty_iff.mp hl
    exact h'.out.elim fun k h => wpAny_While (while_snd S Rm h G V T)
  | For t e b l pos =>
    refine grd_K h fun hl h' => ?_
    have hl := Bool.and_eq_true_iff.mp hl
    obtain rfl := List.isEmpty_iff.mp hl.1
    exact for_snd Z S Rm G V hl.2 h' T
  | _ => exact h.elim

end
end
/-! AS21 -/
section
set_option autoImplicit false
set_option maxRecDepth 100000
open PySem PySem.W PyProof.Rows PySem.Calls

section
variable {X : Cx} {r : Rec} {n : Nat} {A : Around} {E : Value → Shared → Prop} {s : Shared} {loc : Nat → Addr} {st : ASt} {env : Env} {ae : AEnv} {P : AVal → ASt → Prop} {Q : Value → Shared → Prop}

theorem typed_snd {vo : Value} {o i : AVal} (h : itemGet o i st P) (G : OK X s loc st) (ro : VRel X s.heap loc st.next vo o) : ∃ T id, s.TypeIs vo T ∧ typeLookup (.type T) "__getitem__" = pure (some (.builtin id)) := by
  revert h
  refine ro.K False.elim (fun _ => False.elim) (fun _ _ => False.elim) (fun _ _ => False.elim) (fun he htc htd hr _ => ⟨"tuple", _, ⟨_, he, htc⟩, PySem.F.slot_tuple_getitem.lookup⟩) (fun {id} hid _ => ?_) (fun _ _ _ => False.elim)
  · have R := G.rel _ hid
    generalize (st.get id).data = d at R
    cases d with
    | list l => exact R.elim fun vs R => R.elim fun m R => ⟨"list", _, ⟨_, R.1, rfl⟩, PySem.F.slot_list_getitem.lookup⟩
    | idict l => exact R.elim fun kvs R => ⟨"dict", _, R.1.1.typeIs, PySem.F.slot_dict_getitem.lookup⟩
    | sdict l => exact R.2.elim fun es R => R.elim fun m R => ⟨"dict", _, ⟨_, R.1, rfl⟩, PySem.F.slot_dict_getitem.lookup⟩

theorem slice_upto_snd (S : Snd X r n) (Rm : Room A n) (G : OK X s loc st) (V : EnvOK X env ae s.heap loc st.next) {o u : Expr} {sp pos : Pos} (h : r.ev o ae st (thn (sliceK toJ (r.ev u ae)) P)) (T : Then X s loc st P Q) : wpAny (model PW X.w) A (eval (.Subscript o (.Slice none (some u) none sp) pos) env) Q E s := by
  refine Subscript_ (S.ev h Rm G V fun ov st₁ vo s₁ loc₁ h G₁ x₁ r₁ => wpAny_Slice (wpAny_pure (S.ev h Rm G₁ (V.ext G x₁) fun uv st₂ vu s₂ loc₂ h G₂ x₂ r₂ => wpAny_pure ?_)))
  have r₁' := r₁.ext x₂
  refine objK (st := st₂) (P := fun id st => asInt uv st fun n st => wp (takeL id n) st P) h r₁' fun id hid h => intK (st := st₂) (P := fun n st => wp (takeL id n) st P) h r₂ fun k t h => opq fun g hg => G₂.rdLK h.out fun l vs m hh hr h => req_K h fun hk h => hg ?_
  have hold : ∀ b o, s₂.heap.get? b = some o → (s₂.heap.push { cls := .type "slice", data := .fields #[.none, .int k t, .none] }).get? b = some o := fun b o e => Heap.get?_push_of_some _ e
  have p := G₂.keeps (t := s₂.toks) hold
  refine tail_any (s := { s₂ with heap := s₂.heap.push { cls := .type "slice", data := .fields #[.none, .int k t, .none] } }) (ops := [.ref s₂.heap.objs.size, .ref (loc₂ id)]) (T := "list") ⟨_, hold _ _ hh, rfl⟩ PySem.F.slot_list_getitem.lookup ?_ rfl
  refine wpAny_getItem_list_slice (isList_of (hold _ _ hh)) (Heap.IsSliceOf.new _ _ _ _) .none (.int k t) .none (by intro q; cases q) ?_ (hr.fits hk.2.2)
  have e : slicePick vs.toArray none (some k) none = (vs.take k.toNat).toArray := by
    have := slicePick_upto' vs.toArray k.toNat
    rw [Int.toNat_of_nonneg hk.1] at this
    simpa using this
  rw [e]
  exact newList_snd h p.1 ((hr.ext p.2).take k.toNat) (T.after ((x₁.trans x₂).trans p.2))
theorem slice_rev_snd (S : Snd X r n) (Rm : Room A n) (G : OK X s loc st) (V : EnvOK X env ae s.heap loc st.next) {o u : Expr} {sp pos : Pos} (h : r.ev o ae st (thn (sliceK backJ (r.ev u ae)) P)) (T : Then X s loc st P Q) : wpAny (model PW X.w) A (eval (.Subscript o (.Slice none none (some u) sp) pos) env) Q E s := by
  refine Subscript_ (S.ev h Rm G V fun ov st₁ vo s₁ loc₁ h G₁ x₁ r₁ => wpAny_Slice (wpAny_pure (wpAny_pure (S.ev h Rm G₁ (V.ext G x₁) fun uv st₂ vu s₂ loc₂ h G₂ x₂ r₂ => ?_))))
  have r₁' := r₁.ext x₂
  refine objK (st := st₂) (P := fun id st => asInt uv st fun n st => wp (backL id n) st P) h r₁' fun id hid h => intK (st := st₂) (P := fun n st => wp (backL id n) st P) h r₂ fun k t h => opq fun g hg => G₂.rdLK h.out fun l vs m hh hr h => req_K h fun hk h => hg ?_
  have hold : ∀ b o, s₂.heap.get? b = some o → (s₂.heap.push { cls := .type "slice", data := .fields #[.none, .none, .int k t] }).get? b = some o := fun b o e => Heap.get?_push_of_some _ e
  have p := G₂.keeps (t := s₂.toks) hold
  refine tail_any (s := { s₂ with heap := s₂.heap.push { cls := .type "slice", data := .fields #[.none, .none, .int k t] } }) (ops := [.ref (loc₂ id), .ref s₂.heap.objs.size]) (T := "list") ⟨_, hold _ _ hh, rfl⟩ PySem.F.slot_list_getitem.lookup ?_ rfl
  refine wpAny_getItem_list_slice (isList_of (hold _ _ hh)) (Heap.IsSliceOf.new _ _ _ _) .none .none (.int k t) (by rw [hk.1]; decide) ?_ (hr.fits hk.2)
  rw [show slicePick vs.toArray none none (some k) = vs.reverse.toArray by rw [hk.1, krv_pick]]
  exact newList_snd h p.1 (hr.ext p.2).reverse (T.after ((x₁.trans x₂).trans p.2))

theorem sub_snd (S : Snd X r n) (Rm : Room A n) (G : OK X s loc st) (V : EnvOK X env ae s.heap loc st.next) {o i : Expr} {pos : Pos} (h : subF r o i ae st P) (T : Then X s loc st P Q) : wpAny (model PW X.w) A (eval (.Subscript o i pos) env) Q E s := by
  refine sel_K h (fun hs h => ?_) fun _ h => ?_
  · refine Subscript_ (S.ev h Rm G V fun ov st₁ vo s₁ loc₁ h G₁ x₁ r₁ => S.ev h Rm G₁ (V.ext G x₁) fun iv st₂ vi s₂ loc₂ h G₂ x₂ r₂ => (typed_snd h.out G₂ (r₁.ext x₂)).elim fun T' t => t.elim fun id t => ?_)
    refine tail_any (ops := [vo, vi]) t.1 t.2 (itemGet_snd h.out G₂ (r₁.ext x₂) r₂ (T.after (x₁.trans x₂))) ?_
    clear h T
    cases i <;> first | rfl | cases hs
  · unfold sliceF at h
    cases e : sliceE i with
    | none => rw [e] at h; exact h.elim
    | some y =>
      rw [e] at h
      obtain ⟨a, b, c⟩ := y
      refine e1a1 (sliceE_is _ _ e) fun p e1_ => ?_; subst e1_
      refine grd_K h fun ha h => ?_
      obtain rfl := Option.isNone_iff_eq_none.mp ha
      cases b with
      | none => cases c with
        | none => exact h.elim
        | some u => exact slice_rev_snd S Rm G V h T
      | some u =>
        refine grd_K h fun hc h => ?_
        obtain rfl := Option.isNone_iff_eq_none.mp hc
        exact slice_upto_snd S Rm G V h T

/- rows of a display -/
inductive PRels (X : Cx) (h : Heap) (loc : Nat → Addr) (N : Nat) : List (Value × Value) → List (AVal × AVal) → Prop
  | nil : PRels X h loc N [] []
  | cons {k v : Value} {a b : AVal} {rows : List (Value × Value)} {l : List (AVal × AVal)} : VRel X h loc N k a → VRel X h loc N v b → PRels X h loc N rows l → PRels X h loc N ((k, v) :: rows) ((a, b) :: l)

theorem dictA_snd (S : Snd X r n) (Rm : Room A n) {pos : Pos} : ∀ {ks : List (Option Expr)} {vs : List Expr} {st : ASt} {P : List (AVal × AVal) → ASt → Prop} {s : Shared} {loc : Nat → Addr} {Q : List (Value × Value) → Shared → Prop} (_ : dictA r ae ks vs st P) (_ : OK X s loc st) (_ : EnvOK X env ae s.heap loc st.next)
    (_ : ∀ kvs st' rows s' loc', P kvs st' → OK X s' loc' st' → Ext NoW s loc st s' loc' st' → PRels X s'.heap loc' st'.next rows kvs → Q rows s'), wpAny (model PW X.w) A (evalPairs (pairTrees ks vs env pos)) Q E s
  | [], [], st, P, s, loc, Q, h, G, V, hQ => evalPairs_nil (hQ _ _ [] s loc h G (.refl ..) .nil)
  | [], _ :: _, _, _, _, _, _, h, _, _, _ => h.elim
  | none :: _, _, _, _, _, _, _, h, _, _, _ => h.elim
  | some _ :: _, [], _, _, _, _, _, h, _, _, _ => h.elim
  | some k :: ks, v :: vs, st, P, s, loc, Q, h, G, V, hQ => evalPairs_cons (S.ev h Rm G V fun ka st₁ vk s₁ loc₁ h G₁ x₁ r₁ => wpAny_bind (S.ev h Rm G₁ (V.ext G x₁) fun va st₂ vv s₂ loc₂ h G₂ x₂ r₂ => wpAny_bind (wpAny_standAt (wpAny_pure
      (dictA_snd S Rm h G₂ (V.ext G (x₁.trans x₂)) fun kvs st' rows s' loc' h G' x' r' => hQ _ _ _ s' loc' h G' ((x₁.trans x₂).trans x') (.cons ((r₁.ext x₂).ext x') (r₂.ext x') r'))))))

/- keys of one kind -/
structure KeyOK (X : Cx) {κ : Type} [DecidableEq κ] (knd : KeyKind PW X.w κ) (f : AVal → Option κ) : Prop where
  key : ∀ {h : Heap} {loc : Nat → Addr} {N : Nat} {k : Value} {a : AVal} {x : κ}, VRel X h loc N k a → f a = some x → knd.is x k = true
theorem PRels.keys {κ : Type} [DecidableEq κ] {knd : KeyKind PW X.w κ} {f : AVal → Option κ} (K : KeyOK X knd f) {h : Heap} {N : Nat} : ∀ {rows : List (Value × Value)} {kvs : List (AVal × AVal)} {l : List (κ × AVal)}, PRels X h loc N rows kvs → asKeys f kvs = some l → ∃ ps : List (κ × Value), Carries knd rows ps ∧ IRels X h loc N ps l
  | _, _, l, .nil, e => by cases e; exact ⟨[], trivial, .nil⟩
  | _, _, l, .cons rk rv rr, e =>
    (Option.bind_eq_some_iff.mp e).elim fun x e => (Option.map_eq_some_iff.mp e.2).elim fun l' e' => (PRels.keys K rr e'.1).elim fun ps h => ⟨(x, _) :: ps, ⟨K.key rk e.1, rfl, h.1⟩, e'.2 ▸ .cons rv h.2⟩

theorem merged_nodup {κ : Type} [DecidableEq κ] : ∀ (more acc : List (κ × Value)), ((acc ++ more).map (·.1)).Nodup → merged acc more = acc ++ more
  | [], acc, _ => by simp [merged]
  | (k, v) :: more, acc, h => by
    have hk : stored acc k v = acc ++ [(k, v)] := by
      unfold stored
      have : acc.any (fun kv => decide (kv.1 = k)) = false := by
        rw [Bool.eq_false_iff]
        intro q
        rw [List.any_eq_true] at q
        refine e1a2 (q) fun p hp hpk => ?_
        have hpk : p.1 = k := by simpa using hpk
        rw [List.map_append, List.nodup_append] at h
        exact h.2.2 p.1 (List.mem_map_of_mem hp) k (by simp) hpk
      rw [this]; rfl
    show merged (stored acc k v) more = _
    rw [hk, merged_nodup more (acc ++ [(k, v)]) (by simpa using h)]
    simp

theorem walk_snd (S : Snd X r n) (Rm : Room A n) (G : OK X s loc st) (V : EnvOK X env ae s.heap loc st.next) {ks : List (Option Expr)} {vs : List Expr} {pos : Pos} {κ : Type} [DecidableEq κ] {knd : KeyKind PW X.w κ} {f : AVal → Option κ} {C : List (κ × AVal) → Prop} {mk : List (κ × AVal) → AData} (K : KeyOK X knd f)
    (h : dictA r ae ks vs st fun kvs st => wp (the (asKeys f kvs) fun l => req (C l) (newO (mk l))) st P) (h0 : ks ≠ []) (hd : dictOk ks vs = true) (hn : ∀ l, C l → (l.map (·.1)).Nodup)
    (hO : ∀ h' loc' N ps l, h'.DictOf knd s.heap.objs.size ps → IRels X h' loc' N ps l → ORel X h' loc' N s.heap.objs.size (mk l)) (T : Then X s loc st P Q) : wpAny (model PW X.w) A (eval (.Dict ks vs pos) env) Q E s := by
  have hold : ∀ b o, s.heap.get? b = some o → (s.heap.push { cls := .type "dict", data := .dict #[] }).get? b = some o := fun b o e => Heap.get?_push_of_some _ e
  have p₀ := G.keeps (t := s.toks) hold
  have hDf := size_none s.heap
  have off := G.off hDf
  have d1 := Bool.and_eq_true_iff.mp hd
  have d2 := Bool.and_eq_true_iff.mp d1.1
  refine wpAny_Dict_walk (knd := knd) d2.1 (of_decide_eq_true d2.2) h0 (of_decide_eq_true d1.2) (dictA_snd S Rm h p₀.1 (V.ext G p₀.2) fun kvs st₁ rows s₁ loc₁ h G₁ x₁ pr => ?_)
  refine opq fun g hg => the_K h.out fun l hl h => req_K h fun hc h => (PRels.keys K pr hl).elim fun ps c => (Heap.DictOf.new (knd := knd) s.heap).elim fun o q => q.elim fun es q => q.elim fun ep q => hg ?_
  have ho₁ := x₁.keep _ _ q.1 off.2 id
  have off₁ : ∀ i, i < st₁.next → loc₁ i ≠ s.heap.objs.size := fun i hi e => by
    rcases Nat.lt_or_ge i st.next with hh | hh
    · exact off.2 i hh ((x₁.at_ i hh).symm.trans e)
    · have := x₁.fresh i hh hi
      rw [e, q.1] at this; cases this
  refine ⟨ps, c.1, ⟨o, es, ep, ho₁, q.2⟩, fun h' hd' hsb => ?_⟩
  rw [merged_nodup ps [] (by rw [List.nil_append, c.2.keys]; exact hn l hc), List.nil_append] at hd'
  have one : ∀ {p : Addr → Prop}, p s.heap.objs.size → ∀ b ∈ [s.heap.objs.size], p b := fun h b hb => (List.mem_singleton.mp hb) ▸ h
  have w := off_step (wr := [s.heap.objs.size]) (h' := h') (t := s₁.toks + rows.length) G₁ (one off₁) (one fun o' e => by rw [ho₁] at e; cases e; exact Imm.notDict q.2.2.1) (one off.1) (fun b o hb e => hsb.extBut b o (fun q => hb (q ▸ .head _)) e)
  have v := w.1.adopt off₁ off.1 (hO _ _ _ _ _ hd' (c.2.mono w.2.1 (fun _ _ => rfl) (Nat.le_refl _)))
  exact T _ _ _ _ _ h v.1 (v.2.2.2 NoW s loc st (w.2.2.2 NoW s loc st (p₀.2.trans x₁) (one hDf)) hDf) v.2.1

theorem dict_snd (Z : StaticOK X) (S : Snd X r n) (Rm : Room A n) (G : OK X s loc st) (V : EnvOK X env ae s.heap loc st.next) {ks : List (Option Expr)} {vs : List Expr} {pos : Pos} (hd : dictOk ks vs = true) (h : dictA r ae ks vs st fun kvs st => sel (strKeys ks) (pr (mkS kvs)) (pr (mkI kvs)) st P) (T : Then X s loc st P Q) :
    wpAny (model PW X.w) A (eval (.Dict ks vs pos) env) Q E s := by
  by_cases h0 : ks = []
  · subst h0
    cases vs with
    | cons => cases hd
    | nil =>
      have h : wp (mkI []) st P := h
      refine the_K h.out fun l hl h => req_K h fun _ h => ?_
      cases hl
      exact wpAny_Dict_empty (new_done (t := s.toks) h G (size_none s.heap) (fun b o e => Heap.get?_push_of_some _ e) ⟨[], ⟨Heap.DictOf.new s.heap, G.size_ne Z⟩, .nil⟩ T)
  · cases hs : strKeys ks with
    | true =>
      rw [hs] at h
      exact walk_snd (knd := strKind PW X.w) S Rm G V ⟨fun r e => by cases r <;> cases e; exact strKind_is PW X.w _ _⟩ h h0 hd (fun l h => noDup_nodup h) (fun h' loc' N ps l hd hr => DictOf.sRels hd hr) T
    | false =>
      rw [hs] at h
      refine walk_snd (knd := intKind PW X.w) S Rm G V ⟨fun r e => by cases r <;> cases e; exact intKind_is PW X.w _ _⟩ h h0 hd (fun l h => ?_) (fun h' loc' N ps l hd hr => ⟨ps, ⟨hd, G.size_ne Z⟩, hr⟩) T
      have := noDup_nodup h
      have e : (l.map fun p => Str.ofString (toString p.1)) = (l.map (·.1)).map fun k => Str.ofString (toString k) := by rw [List.map_map]; rfl
      rw [e] at this
      exact (List.pairwise_map.mp this).imp (fun hne he => hne (by rw [he]))

end
end
/-! AS22 -/
section
set_option autoImplicit false
set_option maxRecDepth 100000
open PySem PySem.W PyProof.Rows PySem.Calls

section
variable {X : Cx} {r : Rec} {n : Nat} {A : Around} {E : Value → Shared → Prop} {s : Shared} {loc : Nat → Addr} {st : ASt} {env : Env} {ae : AEnv}

set_option backward.match.sparseCases true in
theorem bool_snd (S : Snd X r n) (Rm : Room A n) {op : BoolOp} {pos : Pos} : ∀ {es : List Expr} {st : ASt} {P : AVal → ASt → Prop} {s : Shared} {loc : Nat → Addr} {Q : Value → Shared → Prop} (_ : boolA r ae op es st P) (_ : OK X s loc st) (_ : EnvOK X env ae s.heap loc st.next)
    (_ : Then X s loc st P Q), wpAny (model PW X.w) A (boolOp pos op (evalEach es env)) Q E s
  | [], _, _, _, _, _, h, _, _, _ => h.elim
  | [e], st, P, s, loc, Q, h, G, V, T => S.ev h Rm G V T
  | e :: e' :: es, st, P, s, loc, Q, h, G, V, T => by
    show wpAny _ A (do let v ← eval e env; standAt pos; let t ← holding [v] (truthy v); match op, t with | .And, false | .Or, true => pure v | _, _ => boolOp pos op (evalEach (e' :: es) env)) Q E s
    refine wpAny_bind (S.ev (P := fun a st => truth a st fun t st => boolOf op t a (boolA r ae op (e' :: es)) st P) h Rm G V fun a st₁ vv s₁ loc₁ h G₁ x₁ r₁ => wpAny_bind (wpAny_standAt (wpAny_bind (wpAny_holding (truth_snd h G₁ r₁ fun t s₂ h _ G₂ x₂ => ?_)))))
    have x₁₂ := x₁.trans x₂
    cases op <;> cases t
    · exact wpAny_pure (T _ _ _ s₂ loc₁ (h.f rfl) G₂ x₁₂ (r₁.ext x₂))
    · exact bool_snd S Rm (h.t rfl) G₂ (V.ext G x₁₂) (T.after x₁₂)
    · exact bool_snd S Rm (h.f rfl) G₂ (V.ext G x₁₂) (T.after x₁₂)
    · exact wpAny_pure (T _ _ _ s₂ loc₁ (h.t rfl) G₂ x₁₂ (r₁.ext x₂))

set_option backward.match.sparseCases true in
theorem allTrue_snd (S : Snd X r n) (Rm : Room A n) {op : BoolOp} : ∀ {es : List Expr} {st : ASt} {P : AVal → Bool → ASt → Prop} {s : Shared} {loc : Nat → Addr} {Q : Bool → Shared → Prop} (_ : boolA r ae op es st fun a st => truth a st (P a)) (_ : OK X s loc st) (_ : EnvOK X env ae s.heap loc st.next)
    (_ : ThenT X s loc st P Q), wpAny (model PW X.w) A (allTrue op es env) Q E s
  | [], _, _, _, _, _, h, _, _, _ => h.elim
  | [e], st, P, s, loc, Q, h, G, V, T => by
    show wpAny _ A (do match op, ← isTrue e env (eval e env) with | .And, false => pure false | .Or, true => pure true | _, _ => allTrue op [] env) Q E s
    refine wpAny_bind (S.tr h Rm G V fun a c st₁ s₁ loc₁ h t G₁ x₁ => ?_)
    have q := T _ _ _ s₁ loc₁ h t G₁ x₁
    cases op <;> cases c <;> exact wpAny_pure q
  | e :: e' :: es, st, P, s, loc, Q, h, G, V, T => by
    show wpAny _ A (do match op, ← isTrue e env (eval e env) with | .And, false => pure false | .Or, true => pure true | _, _ => allTrue op (e' :: es) env) Q E s
    refine wpAny_bind (S.tr (P := fun a t st => boolOf op t a (boolA r ae op (e' :: es)) st fun a st => truth a st (P a)) h Rm G V fun a t st₁ s₂ loc₂ h tr G₂ x₁₂ => ?_)
    cases op <;> cases t
    · exact wpAny_pure (T _ _ _ s₂ loc₂ (tr _ (h.f rfl)) tr G₂ x₁₂)
    · exact allTrue_snd S Rm (h.t rfl) G₂ (V.ext G x₁₂) (T.after x₁₂)
    · exact allTrue_snd S Rm (h.f rfl) G₂ (V.ext G x₁₂) (T.after x₁₂)
    · exact wpAny_pure (T _ _ _ s₂ loc₂ (tr _ (h.t rfl)) tr G₂ x₁₂)

variable {P : AVal → ASt → Prop} {Q : Value → Shared → Prop}
theorem tuple_snd (S : Snd X r n) (Rm : Room A n) (G : OK X s loc st) (V : EnvOK X env ae s.heap loc st.next) {es : List Expr} {k : Nat} {pos : Pos} (hb : (es.all notStar && decide (es.length ≤ 1000000)) = true) (h : evs r ae es st fun vs st => P (.tup vs) st) (T : Then X s loc st P Q) :
    wpAny (model PW X.w) A (eval (.Tuple es k pos) env) Q E s := by
  have hb := Bool.and_eq_true_iff.mp hb
  refine wpAny_Tuple (evs_snd S Rm h hb.1 G V fun l st₁ ws s₁ loc₁ h hl G₁ x₁ r₁ => ⟨by rw [r₁.length, hl]; exact Nat.le_trans (of_decide_eq_true hb.2) million, ?_⟩)
  have p := G₁.keeps (h' := s₁.heap.push { cls := .type "tuple", data := .seq ws.toArray }) (t := s₁.toks) (fun b o e => Heap.get?_push_of_some _ e)
  exact T _ _ _ _ loc₁ h p.1 (x₁.trans p.2) (.tup (Heap.get?_push_size _ rfl) rfl rfl (r₁.ext p.2))
theorem list_snd (S : Snd X r n) (Rm : Room A n) (G : OK X s loc st) (V : EnvOK X env ae s.heap loc st.next) {es : List Expr} {pos : Pos} (hb : (es.all notStar && decide (es.length ≤ 1000000)) = true) (h : evs r ae es st fun vs st => wp (newO (.list vs)) st P) (T : Then X s loc st P Q) :
    wpAny (model PW X.w) A (eval (.List es pos) env) Q E s :=
  have hb := Bool.and_eq_true_iff.mp hb
  wpAny_List (evs_snd S Rm h hb.1 G V fun l st₁ ws s₁ loc₁ h hl G₁ x₁ r₁ => ⟨by rw [r₁.length, hl]; exact Nat.le_trans (of_decide_eq_true hb.2) million, newList_snd h.out G₁ r₁ (T.after x₁)⟩)

theorem few_ok {args : List Expr} {pos : Pos} (hns : args.all notStar = true) (hz : args.length < 8) : ((backTo pos (starEach args env)).all (fun x => !x.1) && (backToKw pos (keywordEach [] env)).all (fun x => x.1.isSome) && decide (args.length + ([] : List Keyword).length + (if ([] : List Keyword).isEmpty then 0 else 1) < 30)) = true := by
  have h1 : (backTo pos (starEach args env)).all (fun x => !x.1) = true := by
    clear hz
    induction args with
    | nil => rfl
    | cons e es ih =>
      rw [List.all_cons, Bool.and_eq_true] at hns
      rw [starEach_plain hns.1]
      show (!false && _) = true
      exact ih hns.2
  rw [h1]
  have h2 : decide (args.length + ([] : List Keyword).length + (if ([] : List Keyword).isEmpty then 0 else 1) < 30) = true := by
    simp; lia -abstractProof
  rw [h2]; rfl


/- methods -/
noncomputable def mtabL : List (Str × String) := [("append", "list.append"), ("extend", "list.extend"), ("remove", "list.remove"), ("pop", "list.pop")]
noncomputable def mtabI : List (Str × String) := [("get", "dict.get"), ("pop", "dict.pop")]
theorem slotL {m : Str} (h : isMethL m = true) : ∃ B, Slot "list" m B ∧ typeOf (.builtin B) = pure (.type "method_descriptor") ∧ mtabL.lookup m = some B := by
  unfold isMethL at h
  simp only [Bool.or_eq_true] at h
  rcases h with ((h | h) | h) | h <;> obtain rfl := strOf h
  · exact ⟨_, PySem.F.slot_list_append, PySem.F.type_list_append, rfl⟩
  · exact ⟨_, PySem.F.slot_list_extend, PySem.F.type_list_extend, rfl⟩
  · exact ⟨_, PySem.F.slot_list_remove, PySem.F.type_list_remove, rfl⟩
  · exact ⟨_, PySem.F.slot_list_pop, PySem.F.type_list_pop, rfl⟩
theorem slotI {m : Str} (h : isMethI m = true) : ∃ B, Slot "dict" m B ∧ typeOf (.builtin B) = pure (.type "method_descriptor") ∧ mtabI.lookup m = some B := by
  unfold isMethI at h
  simp only [Bool.or_eq_true] at h
  rcases h with h | h <;> obtain rfl := strOf h
  · exact ⟨_, PySem.F.slot_dict_get, PySem.F.type_dict_get, rfl⟩
  · exact ⟨_, PySem.F.slot_dict_pop, PySem.F.type_dict_pop, rfl⟩
theorem methL_snd {m : Str} {B : String} {id : Nat} {l : List AVal} {ws : List Value} (hB : mtabL.lookup m = some B) (h : methL id m l st P) (G : OK X s loc st) (hid : id < st.next) (r : VRels X s.heap loc st.next ws l) (T : Then X s loc st P Q) : wpAny (model PW X.w) A (call (.builtin B) (.ref (loc id) :: ws)) Q E s := by
  refine opq fun g hg => G.rdLK h fun l vs k hh hr h => hg ?_
  revert h
  refine r.K (fun h => ?_) fun rv r => r.K (fun h => ?_) fun _ _ => False.elim
  · refine grd_K h fun hm h => ?_
    obtain rfl := strOf hm
    cases hB
    exact popL_snd h G hid hh hr T
  · refine sel_K h (fun hm h => ?_) fun _ h => sel_K h (fun hm h => ?_) fun _ h => grd_K h fun hm h => ?_ <;> obtain rfl := strOf hm <;> cases hB
    · exact append_snd h G hid hh hr rv T
    · exact extend_snd h G hid hh hr rv T
    · exact remove_snd h G hid hh hr rv T
theorem methI_snd {m : Str} {B : String} {id : Nat} {l : List AVal} {ws : List Value} (hB : mtabI.lookup m = some B) (h : methI id m l st P) (G : OK X s loc st) (hid : id < st.next) (r : VRels X s.heap loc st.next ws l) (T : Then X s loc st P Q) : wpAny (model PW X.w) A (call (.builtin B) (.ref (loc id) :: ws)) Q E s := by
  refine opq fun g hg => G.rdIK h fun l kvs hk hns hr h => hg ?_
  revert h
  refine r.K False.elim fun rv r h => ?_
  · refine intK (st := st) (P := fun k st => sel (m == ("get" : Str)) (mGet l k _) (grd (m == ("pop" : Str)) (mPopK id l k _)) st P) h rv fun k t h => sel_K h (fun hm h => ?_) fun _ h => grd_K h fun hm h => ?_ <;> obtain rfl := strOf hm <;> cases hB
    · exact get_snd h G hk hns hr r T
    · exact popK_snd h G hid hk hns hr r T

theorem meth_snd (S : Snd X r n) (Rm : Room A n) (G : OK X s loc st) (V : EnvOK X env ae s.heap loc st.next) {o : Expr} {m : Str} {apos pos : Pos} {args : List Expr} (hs : notSuper o = true) (hns : args.all notStar = true) (hz : args.length < 8) (hl : (apos.endLine == pos.line) = true)
    (h : methE r o m args ae st P) (T : Then X s loc st P Q) : wpAny (model PW X.w) A (eval (.Call (.Attribute o m apos) args [] pos) env) Q E s := by
  refine sel_K h (fun _ h => grd_K h fun hm h => ?_) fun _ h => grd_K h fun hm h => ?_
  · refine wpAny_Call_method_late (base_snd hs) (few_ok hns hz) hl rfl (S.ev h Rm G V fun ov st₁ vo s₁ loc₁ h G₁ x₁ r₁ => objK (st := st₁) (P := fun id st => methLJ m (evs r ae args) id st P) h r₁ fun id hid h => ?_)
    have V₁ := V.ext G x₁
    refine opq fun g hg => G₁.rdLK h.out fun l vs k hh hr h => (slotL hm).elim fun B q => hg ?_
    refine ⟨"list", B, PySem.F.plainAttrs_list, q.1, q.2.1, ⟨_, hh, rfl⟩, fun a e => by cases e; exact ⟨_, hh, rfl⟩, callWith_builtin (plainAny hns) (args_snd S h hns Rm G₁ V₁ fun l st₂ ws s₂ loc₂ h _ G₂ x₂ r₂ => ?_)⟩
    show wpAny _ _ (call (.builtin B) (.ref (loc₁ id) :: ws)) _ _ _
    rw [← x₂.at_ id hid]
    exact methL_snd q.2.2 h.out G₂ (Nat.lt_of_lt_of_le hid x₂.le) r₂ (T.after (x₁.trans x₂))
  · refine wpAny_Call_method_late (base_snd hs) (few_ok hns hz) hl rfl (S.ev h Rm G V fun ov st₁ vo s₁ loc₁ h G₁ x₁ r₁ => objK (st := st₁) (P := fun id st => methIJ m (evs r ae args) id st P) h r₁ fun id hid h => ?_)
    have V₁ := V.ext G x₁
    refine opq fun g hg => G₁.rdIK h.out fun l kvs hk _ hr h => (slotI hm).elim fun B q => hg ?_
    refine ⟨"dict", B, PySem.F.plainAttrs_dict, q.1, q.2.1, hk.typeIs, fun a e => by cases e; exact hk.elim fun o h => h.elim fun _ h => h.elim fun _ h => ⟨o, h.1, h.2.1.2.1⟩, callWith_builtin (plainAny hns) (args_snd S h hns Rm G₁ V₁ fun l st₂ ws s₂ loc₂ h _ G₂ x₂ r₂ => ?_)⟩
    show wpAny _ _ (call (.builtin B) (.ref (loc₁ id) :: ws)) _ _ _
    rw [← x₂.at_ id hid]
    exact methI_snd q.2.2 h.out G₂ (Nat.lt_of_lt_of_le hid x₂.le) r₂ (T.after (x₁.trans x₂))

/- a call of a function or a class of the text -/
theorem user_snd (Z : StaticOK X) (S : Snd X r n) (Rm : Room A n) (G : OK X s loc st) (V : EnvOK X env ae s.heap loc st.next) {f : Str} {p pos : Pos} {args : List Expr} (hg : isGlob ae f = true) (hns : args.all notStar = true) (hu : userNames.contains f = true)
    (h : evs r ae args st (thn (callK (r.call f)) P)) (T : Then X s loc st P Q) : wpAny (model PW X.w) A (eval (.Call (.Name f p) args [] pos) env) Q E s :=
  (Z.fn f hu).elim fun fv q => wpAny_Call_NameR (globFn Z hg G V q.1 (callWith_of (P := fun h => X.K.In h) (by rw [plainAny hns]; rfl) (keeps_K q.2) (args_snd S h hns Rm G V fun l st₁ ws s₁ loc₁ h _ G₁ x₁ r₁ => ⟨G₁.kin Z, S.call h.out Rm G₁ r₁ q.1 (T.after x₁)⟩)))

theorem listE_snd (Z : StaticOK X) (S : Snd X r n) (Rm : Room A n) (G : OK X s loc st) (V : EnvOK X env ae s.heap loc st.next) {p pos : Pos} {args : List Expr} (hg : isGlob ae "list" = true) (hns : args.all notStar = true) (h : listE r args ae st P) (T : Then X s loc st P Q) : wpAny (model PW X.w) A (eval (.Call (.Name "list" p) args [] pos) env) Q E s := by
  cases args with
  | nil => exact h.elim
  | cons e es =>
    refine grd_K h fun hes h' => ?_
    obtain rfl := List.isEmpty_iff.mp hes
    refine wpAny_Call_NameR (globBl Z hg G V (fv := .type "list") (by simp [builtinsTab]) (PySem.callWith_type (plainAny hns) ?_))
    rw [starEach_plain (Bool.and_eq_true_iff.mp (List.all_cons.symm.trans hns)).1]
    exact evalArgs_plain (spliced_cons (srcOf_snd Z S h' Rm G V fun src st₁ x s₁ loc₁ h G₁ x₁ sv => grd_K h fun hl h => spliced_nil (listOf_snd Rm h.out G₁ sv hl (T.after x₁))))
theorem bltE_snd (Z : StaticOK X) (S : Snd X r n) (Rm : Room A n) (G : OK X s loc st) (V : EnvOK X env ae s.heap loc st.next) {f : Str} {p pos : Pos} {args : List Expr} (hg : isGlob ae f = true) (hns : args.all notStar = true) (hf : builtin1 f = true) (h : bltE r f args ae st P) (T : Then X s loc st P Q) : wpAny (model PW X.w) A (eval (.Call (.Name f p) args [] pos) env) Q E s := by
  cases args with
  | nil => exact h.elim
  | cons e es =>
    refine grd_K h fun hes h' => ?_
    obtain rfl := List.isEmpty_iff.mp hes
    have one : ∀ {B : String}, (f, Value.builtin B) ∈ builtinsTab → (∀ {id : Nat} {st₁ : ASt} {s₁ : Shared} {loc₁ : Nat → Addr} {Q : Value → Shared → Prop}, sel (f == ("len" : Str)) (pr (lenL id)) (sel (f == ("sum" : Str)) (pr (sumL id)) (grd (f == ("sorted" : Str)) (pr (sortL id)))) st₁ P → OK X s₁ loc₁ st₁ → Then X s₁ loc₁ st₁ P Q → wpAny (model PW X.w) A (call (.builtin B) [.ref (loc₁ id)]) Q E s₁) →
        wpAny (model PW X.w) A (eval (.Call (.Name f p) [e] [] pos) env) Q E s := fun {B} hv k =>
      callBlt_snd Z S hg hv (P := is1 (thn (builtinA f) P)) h' hns Rm G V fun l st₁ ws s₁ loc₁ h _ G₁ x₁ r₁ => is1_K (D := fun ws => wpAny (model PW X.w) A (call (.builtin B) ws []) Q E s₁) h r₁ fun a w h r₁ =>
        objK (st := st₁) (D := fun w => wpAny (model PW X.w) A (call (.builtin B) [w]) Q E s₁) (P := fun id st => sel (f == ("len" : Str)) (pr (lenL id)) (sel (f == ("sum" : Str)) (pr (sumL id)) (grd (f == ("sorted" : Str)) (pr (sortL id)))) st P) h r₁ fun id _ h => k h G₁ (T.after x₁)
    unfold builtin1 at hf
    simp only [Bool.or_eq_true] at hf
    rcases hf with (hf | hf) | hf <;> obtain rfl := strOf hf
    · exact one (by simp [builtinsTab]) fun h G T => len_snd (show wp (lenL _) _ _ from h).out G T
    · exact one (by simp [builtinsTab]) fun h G T => sum_snd (show wp (sumL _) _ _ from h).out Rm G T
    · exact one (by simp [builtinsTab]) fun h G T => sorted_snd (show wp (sortL _) _ _ from h).out G T

theorem call_snd (Z : StaticOK X) (S : Snd X r n) (Rm : Room A n) (G : OK X s loc st) (V : EnvOK X env ae s.heap loc st.next) {fn : Expr} {args : List Expr} {kws : List Keyword} {pos : Pos} (h : callE r fn args kws pos ae st P) (T : Then X s loc st P Q) : wpAny (model PW X.w) A (eval (.Call fn args kws pos) env) Q E s := by
  refine grd_K h fun hb h' => ?_
  have h1 := Bool.and_eq_true_iff.mp hb
  have h2 := Bool.and_eq_true_iff.mp h1.1
  obtain rfl := List.isEmpty_iff.mp h2.1
  clear h
  unfold callN callA at h'
  rcases bindT_cases fn with ⟨f, p, e1, rfl⟩ | ⟨e0, ⟨o, m, p, e1, rfl⟩ | ⟨e1, _⟩⟩
  case inr.inl => exact grd_K h' fun hc h => meth_snd S Rm G V (Bool.and_eq_true_iff.mp hc).1 h2.2 (of_decide_eq_true h1.2) (Bool.and_eq_true_iff.mp hc).2 h T
  case inl =>
    refine grd_K h' fun hg h => sel_K h (fun hf h => ?_) fun _ h => sel_K h (fun hf h => bltE_snd Z S Rm G V hg h2.2 hf h T) fun _ h => grd_K h fun hu h => user_snd Z S Rm G V hg h2.2 hu h T
    obtain rfl := strOf hf
    exact listE_snd Z S Rm G V hg h2.2 h T
  case inr.inr => rw [e0, e1] at h'; exact h'.elim

theorem attr_snd (Z : StaticOK X) (S : Snd X r n) (Rm : Room A n) (G : OK X s loc st) (V : EnvOK X env ae s.heap loc st.next) {o : Expr} {x : Str} {pos : Pos} (hs : notSuper o = true) (h : r.ev o ae st fun ov st => wp (attrGet ov x) st P)
    (T : Then X s loc st P Q) : wpAny (model PW X.w) A (eval (.Attribute o x pos) env) Q E s := by
  refine Attribute_any_ (S.ev h Rm G V fun ov st₁ vo s₁ loc₁ h G₁ x₁ r₁ => attrGet_snd Z h.out G₁ r₁ (T.after x₁)) ?_
  show (do let o' ← attributeBase o x env (eval o env); standAt pos.atName; let r ← holding [o'] (getAttr o' x true); letTemporaryGo o o' r; pure r) = _
  rw [base_snd hs]

theorem cmpF_elim {l : Expr} {ops : List CmpOp} {xs : List Expr} (h : cmpF r l ops xs ae st P) : ∃ op x, ops = [op] ∧ xs = [x] ∧ behindInMarks op x = false ∧ r.ev l ae st fun a st => r.ev x ae st fun b st => cmp op a b st fun c st => P (.bool c) st := by
  cases ops with
  | nil => exact h.elim
  | cons op ops =>
    cases xs with
    | nil => exact h.elim
    | cons x xs =>
      refine grd_K h fun hb h' => ?_
      have h1 := Bool.and_eq_true_iff.mp hb
      have h2 := Bool.and_eq_true_iff.mp h1.1
      exact ⟨op, x, by rw [List.isEmpty_iff.mp h2.1], by rw [List.isEmpty_iff.mp h2.2], by simpa using h1.2, h'⟩
theorem BoolP_K {P : AVal → ASt → Prop} {v : AVal} (h : BoolP (fun c st => P (.bool c) st) v st) : P v st := h.elim fun c q => q.1 ▸ q.2

theorem evF_snd (Z : StaticOK X) (S : Snd X r n) (Rm : Room A n) {e : Expr} (h : evF r e ae st P) (G : OK X s loc st) (V : EnvOK X env ae s.heap loc st.next) (T : Then X s loc st P Q) :
    wpAny (model PW X.w) A (eval e env) Q E s := by
  cases e with
  | Constant c kd pos => exact const_snd h G T
  | Name x pos => exact grd_K h fun hb h => name_snd h (by simpa using hb) G V T
  | Tuple es k pos => exact grd_K h fun hb h => tuple_snd S Rm G V hb h T
  | List es pos => exact grd_K h fun hb h => list_snd S Rm G V hb h T
  | Dict ks vs pos => exact grd_K h fun hb h => dict_snd Z S Rm G V hb h T
  | Attribute o a pos => exact grd_K h fun hb h => attr_snd Z S Rm G V hb h T
  | Subscript o i pos => exact sub_snd S Rm G V h T
  | BinOp l op x pos => exact wpAny_BinOp (S.ev h Rm G V fun a st₁ va s₁ loc₁ h G₁ x₁ r₁ => S.ev h Rm G₁ (V.ext G x₁) fun b st₂ vb s₂ loc₂ h G₂ x₂ r₂ => bin_snd h G₂ (r₁.ext x₂) r₂ (T.after (x₁.trans x₂)))
  | UnaryOp op x pos => exact wpAny_UnaryOp (S.ev h Rm G V fun a st₁ va s₁ loc₁ h G₁ x₁ r₁ => unary_snd h G₁ r₁ (T.after x₁))
  | BoolOp op es pos => rw [arm_eval_BoolOp]; exact bool_snd S Rm h G V T
  | Compare l ops xs pos =>
    obtain ⟨op, x, rfl, rfl, hb, h⟩ := cmpF_elim h
    exact wpAny_Compare1 (S.ev h Rm G V fun a st₁ va s₁ loc₁ h G₁ x₁ r₁ => S.ev h Rm G₁ (V.ext G x₁) fun b st₂ vb s₂ loc₂ h G₂ x₂ r₂ => cmp_snd h Rm G₂ (r₁.ext x₂) r₂ fun a st' v s' loc' h => (T.after (x₁.trans x₂)) a st' v s' loc' (BoolP_K h)) hb
  | IfExp t b o pos =>
    refine wpAny_IfExp (S.tr (P := fun _ c st => BrP c (r.ev b ae st P) (r.ev o ae st P)) h Rm G V fun a c st₂ s₂ loc₂ h _ G₂ x₂ => ?_)
    cases c with
    | true => rw [if_pos rfl]; exact S.ev (h.t rfl) Rm G₂ (V.ext G x₂) (T.after x₂)
    | false => rw [if_neg (by decide)]; exact S.ev (h.f rfl) Rm G₂ (V.ext G x₂) (T.after x₂)
  | ListComp elt gs sc pos =>
    cases gs with
    | nil => exact h.elim
    | cons g gs =>
      refine grd_K h fun hg h' => ?_
      obtain rfl := List.isEmpty_iff.mp hg
      exact comp_snd Z S Rm G V h' T
  | Call fn args kws pos => exact call_snd Z S Rm G V h T
  | _ => exact h.elim

end
end
/-! AS23 -/
section
set_option autoImplicit false
set_option maxRecDepth 100000
open PySem PySem.W PyProof.Rows PySem.Calls

section
variable {X : Cx} {r : Rec} {n : Nat} {A : Around} {E : Value → Shared → Prop} {s : Shared} {loc : Nat → Addr} {st : ASt} {env : Env} {ae : AEnv} {P : AVal → Bool → ASt → Prop} {Q : Bool → Shared → Prop}

theorem evF_tr (Z : StaticOK X) (S : Snd X r n) (Rm : Room A n) {e : Expr} (h : evF r e ae st fun a st => truth a st (P a)) (G : OK X s loc st) (V : EnvOK X env ae s.heap loc st.next) (T : ThenT X s loc st P Q) :
    wpAny (model PW X.w) A (isTrue e env (eval e env)) Q E s := by
  have val : wpAny (model PW X.w) A (eval e env) (fun v s => wpAny (model PW X.w) A (truthy v) Q E s) E s := evF_snd Z S Rm h G V fun a st₁ v s₁ loc₁ h G₁ x₁ r₁ => truth_snd h G₁ r₁ fun b s₂ h t G₂ x₂ => T _ _ _ s₂ loc₁ h t G₂ (x₁.trans x₂)
  cases e with
  | UnaryOp op x p =>
    cases op with
    | Not => exact wpAny_isTrue_Not (S.tr (P := fun _ b st => P (.bool (!b)) (!b) st) h Rm G V fun a b st₁ s₁ loc₁ h _ G₁ x₁ => T (.bool (!b)) (!b) st₁ s₁ loc₁ h (fun _ h => h) G₁ x₁)
    | _ => exact wpAny_isTrue_value val rfl
  | BoolOp op es p => exact wpAny_isTrue_BoolOp (allTrue_snd S Rm h G V T)
  | IfExp t b o p =>
    show wpAny _ A (do if ← isTrue t env (eval t env) then isTrue b env (eval b env) else isTrue o env (eval o env)) Q E s
    refine wpAny_bind (S.tr (P := fun _ c st => BrP c (r.ev b ae st fun a st => truth a st (P a)) (r.ev o ae st fun a st => truth a st (P a))) h Rm G V fun a c st₂ s₂ loc₂ h _ G₂ x₂ => ?_)
    cases c with
    | true => rw [if_pos rfl]; exact S.tr (h.t rfl) Rm G₂ (V.ext G x₂) (T.after x₂)
    | false => rw [if_neg (by decide)]; exact S.tr (h.f rfl) Rm G₂ (V.ext G x₂) (T.after x₂)
  | Compare l ops xs p =>
    obtain ⟨op, x, rfl, rfl, hb, h⟩ := cmpF_elim h
    exact wpAny_isTrue_Compare1 (S.ev h Rm G V fun a st₁ va s₁ loc₁ h G₁ x₁ r₁ => S.ev h Rm G₁ (V.ext G x₁) fun b st₂ vb s₂ loc₂ h G₂ x₂ r₂ => cmp_snd h Rm G₂ (r₁.ext x₂) r₂ fun a st' v s' loc' h G' x' r' => truth_snd (BoolP_K (P := fun a st => truth a st (P a)) h) G' r' fun b s₃ h t G₃ x₃ => T _ _ _ s₃ loc' h t G₃ (((x₁.trans x₂).trans x').trans x₃)) hb
  | _ => exact wpAny_isTrue_value val rfl

end
end
/-! AS24 -/
section
set_option autoImplicit false
set_option maxRecDepth 100000
open PySem PySem.W PyProof.Rows PySem.Calls

theorem zip_lookup {β : Type} : ∀ {names : List Str} {vals : List β}, names.Nodup → names.length = vals.length → ∀ n ∈ names, ((names.zip vals).lookup n).isSome = true
  | [], _, _, _, n, h => by o_facts h
  | x :: names, [], _, h, _, _ => by o_facts h
  | x :: names, v :: vals, hn, hl, n, h => by
    rw [List.zip_cons_cons, List.lookup_cons]
    split
    · rfl
    · rename_i q
      rcases List.mem_cons.mp h with rfl | h
      · simp at q
      · exact zip_lookup (List.nodup_cons.mp hn).2 (by simpa using hl) n h

theorem zip_binds {β : Type} : ∀ {names : List Str} {vals : List β}, names.Nodup → names.length = vals.length → names.filterMap (fun n => ((names.zip vals).lookup n).map (n, ·)) = names.zip vals := by
  intro names vals hn hl
  have key : ∀ (pre : List Str) (pv : List β) (names : List Str) (vals : List β), (pre ++ names).Nodup → pre.length = pv.length → names.length = vals.length →
      names.filterMap (fun n => (((pre ++ names).zip (pv ++ vals)).lookup n).map (n, ·)) = names.zip vals := by
    intro pre pv names
    induction names generalizing pre pv with
    | nil => intro vals _ _ _; simp
    | cons x names ih =>
      intro vals hn hp hl
      cases vals with
      | nil => o_facts hl
      | cons v vals =>
        have hx : ((pre ++ x :: names).zip (pv ++ v :: vals)).lookup x = some v := by
          rw [List.zip_append hp, List.lookup_append]
          have : (pre.zip pv).lookup x = none := by
            rw [List.lookup_eq_none_iff]
            intro p hpm
            have h1 := (List.of_mem_zip hpm).1
            rw [List.nodup_append] at hn
            have := hn.2.2 p.1 h1 x (by simp)
            simpa using fun e : x = p.1 => this e.symm
          rw [this, List.zip_cons_cons, List.lookup_cons]
          simp
        rw [List.filterMap_cons_some (b := (x, v)) (by rw [hx]; rfl), List.zip_cons_cons]
        have := ih (pre ++ [x]) (pv ++ [v]) vals (by simpa using hn) (by simp [hp]) (by simpa using hl)
        simp only [List.append_assoc, List.singleton_append] at this
        rw [this]
  exact key [] [] names vals hn rfl hl

theorem sem_pure_bind {α β : Type} (a : α) (f : α → Sem β) : (pure a >>= f) = f a := rfl

theorem bind_plain {fd : FuncData} {vals : List Value} {as : List Arg} {kd : List (Option Expr)} {df : List Expr} (hp : fd.params = ⟨[], as, none, [], kd, none, df⟩) (hd : fd.defaults = .none) (hl : as.length = vals.length) (hn : (as.map (·.arg)).Nodup) :
    bindArgs fd ⟨vals, []⟩ = pure ((as.map (·.arg)).zip vals) := by
  unfold bindArgs
  rw [hp, hd]
  have h0 : seqItems? .none = pure none := rfl
  have hl' : (as.map (·.arg)).length = vals.length := by simpa using hl
  have h1 : ((as.map (·.arg)).filter fun n => (((as.map (·.arg)).zip vals).lookup n).isNone) = [] := by
    rw [List.filter_eq_nil_iff]
    intro n hm
    have := zip_lookup hn hl' n hm
    simp only [Bool.not_eq_true, Option.isNone_eq_false_iff]
    exact this
  have h2 := zip_binds hn hl'
  have h3 : ¬ (vals.length > (as.map (·.arg)).length) := by lia -abstractProof
  have hlt : ¬ (vals.length > (as.map (·.arg)).length) := by lia -abstractProof
  simp only [List.map_nil, List.nil_append, h0, List.append_nil, List.forIn_nil, sem_pure_bind, Option.getD_none, List.drop_nil, List.length_nil, Nat.sub_zero, hlt, decide_false, Bool.false_and, Bool.false_eq_true, if_false, List.take_length, List.drop_length, List.zip_nil_right, h1, List.isEmpty_nil, Bool.not_true]
  rw [h2]
end
/-! AS25 -/
section
set_option autoImplicit false
set_option maxRecDepth 100000
open PySem PySem.W PyProof.Rows PySem.Calls

/- a function of the text, as the start left it -/
noncomputable def FnSpec (X : Cx) (fa : Addr) (params : Arguments) (b : List Stmt) (sc : Scope) : Prop :=
  ∃ o fd, X.h0.get? fa = some o ∧ o.data = .func fd ∧ fd.params = params ∧ fd.defaults = .none ∧ fd.body = .stmts b ∧ fd.scope = sc ∧ fd.closure = [] ∧ fd.globals = mainGlobals ∧ fd.builtins = builtinsNs ∧ X.h0.CodeRec fd.code fd.qualname

structure StaticF (X : Cx) : Prop where
  fns : ∀ f d, (f == ("Cell" : Str) || f == ("Counted" : Str)) = false → fnOfTab f = some d → ∃ fa, X.mg f = some (.ref fa) ∧ keepIn X.K (.ref fa) = true ∧ FnSpec X fa d.params d.body d.scope
  cls : ∀ c a b sc, (c == ("Cell" : Str) || c == ("Counted" : Str)) = true → initOf c = some (a, b, sc) → ∃ C fI, X.cls c = some C ∧ X.mg c = some (.ref C) ∧ keepIn X.K (.ref C) = true ∧ makesIn X.K C = true ∧ findIn X.K (.ref C) "__init__" = some (some (.ref fI)) ∧
    typeIn X.K (.ref fI) = some (.type "function") ∧ FnSpec X fI a b sc

theorem cellsFrom_mem : ∀ (names : List (Str × NameKind)) (n : Nat) (acc : List (Str × Addr)) (x : Str) (c : Addr), (x, c) ∈ cellsFrom n names acc → (x, c) ∈ acc ∨ (x, NameKind.cell) ∈ names
  | [], _, _, _, _, h => .inl h
  | (y, k) :: r, n, acc, x, c, h => by
    unfold cellsFrom at h
    split at h
    · rename_i hk
      have hk : k = .cell := by simpa using hk
      subst hk
      rcases cellsFrom_mem r _ _ x c h with q | q
      · rcases List.mem_cons.mp q with q | q
        · cases q; exact .inr (.head _)
        · exact .inl q
      · exact .inr (.tail _ q)
    · rcases cellsFrom_mem r _ _ x c h with q | q
      · exact .inl q
      · exact .inr (.tail _ q)

theorem mem_of_lookupA {β : Type} {x : Str} {b : β} : ∀ {l : List (Str × β)}, l.lookup x = some b → (x, b) ∈ l
  | [], h => by o_facts h
  | (y, j) :: l, h => by
    rw [List.lookup_cons] at h
    split at h
    · rename_i q; o_facts h; rw [beq_iff_eq] at q; subst q; exact .head _
    · exact .tail _ (mem_of_lookupA h)

theorem bindL_get (kindOf : Str → Option NameKind) {x : Str} : ∀ (names : List Str) (vals : List Value) (m : Str → Option Value), names.Nodup → names.length = vals.length → kindOf x = some .local → bindL kindOf (names.zip vals) m x = ((names.zip vals).lookup x).or (m x)
  | [], _, m, _, _, _ => by simp [bindL]
  | _ :: _, [], _, _, h, _ => by o_facts h
  | y :: names, v :: vals, m, hn, hl, hk => by
    rw [List.nodup_cons] at hn
    have hl' : names.length = vals.length := by simpa using hl
    rw [List.zip_cons_cons]
    unfold bindL
    rw [bindL_get kindOf names vals _ hn.2 hl' hk, List.lookup_cons]
    by_cases q : x = y
    · subst q
      have hno : (names.zip vals).lookup x = none := by
        rw [List.lookup_eq_none_iff]
        intro p hp
        have := (List.of_mem_zip hp).1
        simpa using fun e : x = p.1 => hn.1 (e ▸ this)
      rw [hno, if_pos hk]
      simp
    · have hb : (x == y) = false := by simp [q]
      rw [hb]
      dsimp only
      cases (names.zip vals).lookup x with
      | some w => rfl
      | none =>
        split <;> simp [q]
theorem bindC_get (kindOf : Str → Option NameKind) {x : Str} : ∀ (names : List Str) (vals : List Value) (m : Str → Option Value), names.Nodup → names.length = vals.length → kindOf x ≠ some .local → bindC kindOf (names.zip vals) m x = ((names.zip vals).lookup x).or (m x)
  | [], _, m, _, _, _ => by simp [bindC]
  | _ :: _, [], _, _, h, _ => by o_facts h
  | y :: names, v :: vals, m, hn, hl, hk => by
    rw [List.nodup_cons] at hn
    have hl' : names.length = vals.length := by simpa using hl
    rw [List.zip_cons_cons]
    unfold bindC
    rw [bindC_get kindOf names vals _ hn.2 hl' hk, List.lookup_cons]
    by_cases q : x = y
    · subst q
      have hno : (names.zip vals).lookup x = none := by
        rw [List.lookup_eq_none_iff]
        intro p hp
        have := (List.of_mem_zip hp).1
        simpa using fun e : x = p.1 => hn.1 (e ▸ this)
      rw [hno, if_neg hk]
      simp
    · have hb : (x == y) = false := by simp [q]
      rw [hb]
      dsimp only
      cases (names.zip vals).lookup x with
      | some w => rfl
      | none =>
        split <;> simp [q]

section
variable {X : Cx} {r : Rec} {n : Nat} {A : Around} {E : Value → Shared → Prop} {s : Shared} {loc : Nat → Addr} {st : ASt}

theorem zip_rel {h : Heap} {N : Nat} {x : Str} {a : AVal} : ∀ {names : List Str} {vs : List Value} {args : List AVal}, VRels X h loc N vs args → (names.zip args).lookup x = some a → ∃ v, (names.zip vs).lookup x = some v ∧ VRel X h loc N v a
  | [], _, _, _, e => by simp at e
  | _ :: _, _, _, .nil, e => by simp at e
  | y :: names, _, _, .cons (v := v) rv rr, e => by
    rw [List.zip_cons_cons, List.lookup_cons] at e
    rw [List.zip_cons_cons, List.lookup_cons]
    split at e
    · o_facts e; exact ⟨_, rfl, rv⟩
    · exact zip_rel rr e

theorem bodyOk_of {ps : List Str} {sc : Scope} (h : bodyOk ps sc = true) : sc.kind = .function ∧ sc.isCoroutine = false ∧ sc.isGenerator = false ∧ ps.Nodup ∧ (∀ x ∈ ps, sc.names.lookup x = some .local ∨ sc.names.lookup x = some .cell) ∧ ∀ x k, (x, k) ∈ sc.names → k ≠ .free ∧ sc.names.lookup x = some k := by
  unfold bodyOk at h
  simp only [Bool.and_eq_true, Bool.not_eq_true'] at h
  obtain ⟨⟨⟨⟨⟨h1, h2⟩, h3⟩, h4⟩, h5⟩, h6⟩ := h
  rw [List.all_eq_true] at h5 h6
  refine ⟨?_, h2, h3, noDup_nodup h4, fun x hx => ?_, fun x k hx => ?_⟩
  · unfold isFn at h1
    split at h1
    · assumption
    · o_facts h1
  · have := h5 x hx
    unfold bindable at this
    split at this
    · rename_i e; exact .inl e
    · rename_i e; exact .inr e
    · cases this
  · have := h6 _ hx
    unfold bodyName at this
    rw [Bool.and_eq_true] at this
    refine ⟨fun q => ?_, by simpa using this.2⟩
    subst q; cases this.1

theorem plain_params {p : Arguments} (h : plainParams p = true) : p = ⟨[], p.args, none, [], p.kw_defaults, none, p.defaults⟩ := by
  obtain ⟨p1, p2, p3, p4, p5, p6, p7⟩ := p
  unfold plainParams at h
  simp only [Bool.and_eq_true, List.isEmpty_iff, Option.isNone_iff_eq_none] at h
  obtain ⟨⟨⟨⟨e1, e2⟩, e3⟩, e4⟩, e5⟩ := h
  subst e1 e2 e3 e4
  rfl
theorem body_snd (S : Snd X r n) (hroom : A.depth < recursionLimit) (Rm : ∀ env, Room (A.deeper env) n) (Z : StaticOK X) {fa : Addr} {params : Arguments} {b : List Stmt} {sc : Scope} {args : List AVal} {vs : List Value} {P : AVal → ASt → Prop} (F : FnSpec X fa params b sc) (h : runBody r params b sc args st P) (G : OK X s loc st) (rv : VRels X s.heap loc st.next vs args)
    {R : Result → Shared → Prop} (T : Then X s loc st P fun v s => R (.ok (.ret v)) s) : codeAny (model PW X.w) A (.call (.ref fa) ⟨vs, []⟩) R s := by
  refine F.elim fun o F => F.elim fun fd F => grd_K h fun hg h' => ?_
  have hsc := F.2.2.2.2.2.1
  subst hsc
  clear h
  have F6 := F.2.2.2.2.2.2
  have hg1 := Bool.and_eq_true_iff.mp hg
  have hg2 := Bool.and_eq_true_iff.mp hg1.2
  have bo := bodyOk_of hg2.2
  have b1 := bo.1
  have b4 := bo.2.2.2.1
  have b6 := bo.2.2.2.2.2
  have hlv : params.args.length = vs.length := by rw [of_decide_eq_true hg1.1, rv.length]
  have hlv' : (params.args.map (·.arg)).length = vs.length := by rw [List.length_map]; exact hlv
  refine codeAny_call_cells (fd := fd) hroom (G.base _ _ F.1) F.2.1 (Z.nolimit.keeps G.base) (F6.2.2.2.keeps G.base) F.2.2.2.2.1 (bind_plain (fd := fd) (vals := vs) (F.2.2.1.trans (plain_params hg2.1)) F.2.2.2.1 hlv b4) F6.1 (fun y hy => ?_) (fun s₁ inC => inC.done.elim fun h₁ q => q.elim fun tk q => ?_) bo.2.1 bo.2.2.1 b1
  · exact (bo.2.2.2.2.1 y.1 (List.of_mem_zip (a := y.1) (b := y.2) hy).1).imp id fun q => ⟨q, cellsFrom_some _ _ _ (.inl q)⟩
  · have hs₁ := q.1
    subst hs₁
    have p₁ := G.keeps (t := tk) q.2
    have x₁ := p₁.2
    have hkd : ∀ x, (callEnvC fd s.heap.objs.size fa).kindOf x = fd.scope.names.lookup x := fun _ => rfl
    have fresh : ∀ c, s.heap.objs.size ≤ c → s.heap.get? c = none := fun c hc => none_ge _ hc
    have fresh0 : ∀ c, s.heap.objs.size ≤ c → X.h0.get? c = none := fun c hc => (G.off (fresh c hc)).1
    have cab : ∀ x c, (callEnvC fd s.heap.objs.size fa).cells.lookup x = some c → s.heap.objs.size < c := fun x c hc => inC.above x c (mem_of_lookupA hc)
    have V : EnvOK X (callEnvC fd s.heap.objs.size fa) { sc := fd.scope, vars := (params.args.map (·.arg)).zip args } h₁ loc st.next := by
      refine ⟨b1, F6.2.1, F6.2.2.1, fun x k hx => .inl hx, ⟨_, inC.toInCall.ns, fun x a hx hl => ?_⟩, fun x hx => ?_, fun x y c hx hy => name_of_addr inC.apart (mem_of_lookupA hx) (mem_of_lookupA hy), (G.off (fresh _ (Nat.le_refl _))).2, fresh0 _ (Nat.le_refl _), fun x c hc => fresh0 c (Nat.le_of_lt (cab x c hc)), fun x c hc => ?_⟩
      · refine (zip_rel rv hx).elim fun v e => ⟨v, ?_, e.2.ext x₁⟩
        rw [bindL_get _ _ _ _ b4 hlv' hl, e.1]; rfl
      · have hcell : fd.scope.names.lookup x = some .cell := hx.elim id fun q => absurd rfl (b6 x _ (mem_of_lookup q)).1
        refine opq fun g hg => (Option.isSome_iff_exists.mp (cellsFrom_some fd.scope.names (s.heap.objs.size + 1) [] (.inl hcell))).elim fun c hc => (inC.cell x c hc).elim fun oc q => hg ⟨c, hc, oc, _, q.1, q.2, fun a ha => (zip_rel rv ha).elim fun v e => ⟨v, ?_, e.2.ext x₁⟩⟩
        rw [bindC_get _ _ _ _ b4 hlv' (by rw [hkd, hcell]; intro q; cases q), e.1]; rfl
      · exact (cellsFrom_mem _ _ _ x c (mem_of_lookupA hc)).elim (fun q => nomatch q) fun q => .inl (b6 x _ q).2
    refine exs_snd S (Rm _) h' p₁.1 V fun o st₂ fl s₂ loc₂ h G₂ x₂ f₂ => ?_
    have x₁₂ : Ext NoW s loc st s₂ loc₂ st₂ := x₁.trans' x₂ (fun _ q => q.elim) fun b q => .inr (q.elim (fun q => q ▸ fresh _ (Nat.le_refl _)) fun q => q.elim fun x q => fresh _ (Nat.le_of_lt (cab x b q)))
    revert h
    exact f₂.K (fun _ h => T _ _ _ s₂ loc₂ h G₂ x₁₂ .none) fun rv' _ h => T _ _ _ s₂ loc₂ h G₂ x₁₂ rv'

end
end
/-! AS26 -/
section
set_option autoImplicit false
set_option maxRecDepth 100000
open PySem PySem.W PyProof.Rows PySem.Calls

section
variable {X : Cx} {r : Rec} {n : Nat} {A : Around} {E : Value → Shared → Prop} {s : Shared} {loc : Nat → Addr} {st : ASt} {env : Env} {ae : AEnv} {P : AVal → ASt → Prop}

theorem initF_snd (Z : StaticOK X) (ZF : StaticF X) (S : Snd X r n) (Rm : Room A (n + 1)) {f : Str} {args : List AVal} {vs : List Value} {fv : Value} {Q : Value → Shared → Prop} (hc : isCls f = true) (h : initF r f args st P) (G : OK X s loc st) (rv : VRels X s.heap loc st.next vs args) (hf : X.mg f = some fv)
    (T : Then X s loc st P Q) : wpAny (model PW X.w) A (call fv vs []) Q E s := by
  refine opq fun g hg => the_K h fun y hi h => (ZF.cls f y.1 y.2.1 y.2.2 hc hi).elim fun C c => c.elim fun fI c => hg ?_
  have c1 := c.1
  have c2 := c.2.1
  have c3 := c.2.2.2
  rw [c2] at hf
  cases hf
  have kin := G.kin Z
  obtain ⟨hh, g, d, t, os⟩ := s
  refine wpAny_call (make_core (makes_of kin c3.1) (looks_findIn kin c3.2.1) (fun self => bind_fn kin self c3.2.2.1) (.inl rfl) ?_)
  have k1 : ∀ b o, hh.get? b = some o → (hh.push emptyDict).get? b = some o := fun b o e => Heap.get?_push_of_some _ e
  have e0 : (hh.push emptyDict).get? hh.objs.size = some emptyDict := Heap.get?_push_size _ rfl
  have o := G.off (size_none hh)
  have p₁ := G.keeps (t := t) k1
  have w := p₁.1.adopt o.2 o.1 (d := .sdict []) ⟨List.nodup_nil, [], 0, e0, .nil⟩
  have k2 : ∀ b o, (hh.push emptyDict).get? b = some o → ((hh.push emptyDict).push (instObj C hh.objs.size)).get? b = some o := fun b o e => Heap.get?_push_of_some _ e
  have p₂ := w.1.keeps (t := t) k2
  have e1 : ((hh.push emptyDict).push (instObj C hh.objs.size)).get? (hh.objs.size + 1) = some (instObj C hh.objs.size) := by
    have := Heap.get?_push_size (hh.push emptyDict) (o := instObj C hh.objs.size) rfl
    rwa [Heap.size_push] at this
  have e2 : locN loc st.next hh.objs.size st.next = hh.objs.size := if_pos rfl
  have rx : VRel X ((hh.push emptyDict).push (instObj C hh.objs.size)) (locN loc st.next hh.objs.size) (st.new (.sdict [])).next (.ref (hh.objs.size + 1)) (.inst f st.next) := .inst (Nat.lt_succ_self _) c1 (by rw [e2]; exact e1)
  have x₁₂ := (w.2.2.2 _ _ _ _ p₁.2 (size_none hh)).trans p₂.2
  have ed := depth_under_make A C vs
  have eu := units_under_make A C vs
  have rd := Rm.depth
  have ru := Rm.units
  refine body_snd (A := A.under (.builtin "type.__call__" ⟨.ref C :: vs, []⟩)) S (by rw [ed]; lia -abstractProof) (fun env => ⟨Rm.handled, by
    show (A.under (.builtin "type.__call__" ⟨.ref C :: vs, []⟩)).depth + 1 + 2 * n < _
    rw [ed]; lia -abstractProof, by
    show (A.under (.builtin "type.__call__" ⟨.ref C :: vs, []⟩)).units + 3 + 20 * n + 100 < _
    rw [eu]; lia -abstractProof⟩) Z c3.2.2.2 h p₂.1 (.cons rx (rv.ext x₁₂)) fun a st' v s' loc' h G' x' r' => grd_K h fun hn h => noneE_of hn r' ▸ ⟨rfl, T _ _ _ s' loc' h G' (x₁₂.trans x') (rx.ext x')⟩

theorem callF_snd (Z : StaticOK X) (ZF : StaticF X) (S : Snd X r n) (Rm : Room A (n + 1)) {f : Str} {args : List AVal} {vs : List Value} {fv : Value} {Q : Value → Shared → Prop} (h : callF r f args st P) (G : OK X s loc st) (rv : VRels X s.heap loc st.next vs args) (hf : X.mg f = some fv)
    (T : Then X s loc st P Q) : wpAny (model PW X.w) A (call fv vs []) Q E s := by
  refine sel_K h (fun hc h => initF_snd Z ZF S Rm hc h G rv hf T) fun hc h => the_K h fun d hd h => (ZF.fns f d hc hd).elim fun fa c => ?_
  rw [c.1] at hf
  cases hf
  exact wpAny_call (body_snd S (by have := Rm.depth; lia -abstractProof) (fun env => Rm.deeper (Nat.le_refl _)) Z c.2.2 h G rv T)

theorem snd_R (Z : StaticOK X) (ZF : StaticF X) : ∀ n, Snd X (R n) n
  | 0 => ⟨fun h => h.elim, fun h => h.elim, fun h => h.elim, fun h => h.elim, fun h => h.elim⟩
  | n + 1 =>
    have S := snd_R Z ZF n
    have le := Nat.le_succ n
    ⟨fun h _ _ _ _ _ _ Rm G V T => evF_snd Z S (Rm.mono le) h G V T, fun h _ _ _ _ _ _ Rm G V T => evF_tr Z S (Rm.mono le) h G V T, fun h _ _ _ _ _ _ Rm G V T => exF_snd Z S (Rm.mono le) h G V T, fun h _ _ _ _ _ _ _ Rm G rv hf T => callF_snd Z ZF S Rm h G rv hf T,
      fun {elt gens sc pos ae st P} h A env s loc E u Q Rm G V hu => by
        cases gens with
        | nil => exact h.elim
        | cons g gs =>
          refine grd_K h fun hg h' => ?_
          obtain rfl := List.isEmpty_iff.mp hg
          exact use_snd Z S (Rm.mono le) G V h' hu⟩

end
end
/-! AS27 -/
section
set_option maxRecDepth 100000
set_option maxHeartbeats 8000000
open PySem PySem.W PyProof.Rows PySem.Calls

noncomputable def clsTab (c : Str) : Option Addr := if c = ("Cell" : Str) then some 63 else if c = ("Counted" : Str) then some 84 else none

noncomputable def theCx (K : Params → Frag) (w : World) (h : Heap) (mg mb : Str → Option Value) : Cx := { w := w, h0 := h, K := K w.params, cls := clsTab, mg := mg, mb := mb }
noncomputable def InitAt (K : Frag) (a : Addr) (c : Str) : Prop := ∃ o, K.lookup a = some o ∧ ∃ fd b, o.data = .func fd ∧ initOf c = some (fd.params, b, fd.scope) ∧ fd.defaults = .none ∧ fd.body = .stmts b ∧ fd.closure = [] ∧ fd.globals = mainGlobals ∧ fd.builtins = builtinsNs ∧ codeIn K fd.code fd.qualname = true
noncomputable def AttrAt (K : Frag) (C : Addr) (x : Str) : Prop := plainGet K C x = true ∧ hasDictIn K C = true ∧ (∃ attr, findIn K (.ref C) x = some attr ∧ noGet K attr = true) ∧
    takerIn K C x = some none ∧ findIn K (.ref C) "__setattr__" = some (some (.builtin "object.__setattr__")) ∧ plainOver K C = true
noncomputable def noneB {α : Type} : Option (Option α) → Bool
  | some none => true
  | _ => false
noncomputable def getB (K : Frag) : Option (Option Value) → Bool
  | some a => noGet K a
  | none => false
noncomputable def osaB : Option (Option Value) → Bool
  | some (some (.builtin s)) => s == "object.__setattr__"
  | _ => false
noncomputable def attrB (K : Frag) (C : Addr) (x : Str) : Bool := plainGet K C x && (hasDictIn K C && (getB K (findIn K (.ref C) x) && (noneB (takerIn K C x) && (osaB (findIn K (.ref C) "__setattr__") && plainOver K C))))
theorem noneB_of {α : Type} {o : Option (Option α)} (h : noneB o = true) : o = some none := by
  unfold noneB at h
  split at h
  · rfl
  · cases h
theorem attrB_of {K : Frag} {C : Addr} {x : Str} (h : attrB K C x = true) : AttrAt K C x := by
  have h1 := Bool.and_eq_true_iff.mp h
  have h2 := Bool.and_eq_true_iff.mp h1.2
  have h3 := Bool.and_eq_true_iff.mp h2.2
  have h4 := Bool.and_eq_true_iff.mp h3.2
  have h5 := Bool.and_eq_true_iff.mp h4.2
  refine ⟨h1.1, h2.1, ?_, noneB_of h4.1, ?_, h5.2⟩
  · have := h3.1
    unfold getB at this
    split at this
    · rename_i a e; exact ⟨a, e, this⟩
    · cases this
  · have := h5.1
    unfold osaB at this
    split at this
    · rename_i s e; rw [e, eq_of_beq this]
    · cases this
/- what the walk asks of the written heap K and the view V that the head gives -/
structure HeadOK (K : Params → Frag) (V : Program) : Prop where
  recs : recsOf V = recsOf PySem.Challenge.pw_pf0208_01
  keep : ∀ p, (recsOf V).all (fun d => match nsIn (K p) mainGlobals d.name with | some (some v) => keepIn (K p) v | _ => false) = true
  cell_name : ∀ p, nsIn (K p) mainGlobals "Cell" = some (some (.ref 63))
  counted_name : ∀ p, nsIn (K p) mainGlobals "Counted" = some (some (.ref 84))
  cell_init : ∀ p, findIn (K p) (.ref 63) "__init__" = some (some (.ref 60))
  counted_init : ∀ p, findIn (K p) (.ref 84) "__init__" = some (some (.ref 81))
  cell_makes : ∀ p, makesIn (K p) 63 = true
  counted_makes : ∀ p, makesIn (K p) 84 = true
  cell_keep : ∀ p, keepIn (K p) (.ref 63) = true
  counted_keep : ∀ p, keepIn (K p) (.ref 84) = true
  cell_fn : ∀ p, typeIn (K p) (.ref 60) = some (.type "function")
  counted_fn : ∀ p, typeIn (K p) (.ref 81) = some (.type "function")
  cell_spec : ∀ p, InitAt (K p) 60 "Cell"
  counted_spec : ∀ p, InitAt (K p) 81 "Counted"
  attr_cell : ∀ p, (attrsOf "Cell").all (attrB (K p) 63) = true
  attr_counted : ∀ p, (attrsOf "Counted").all (attrB (K p) 84) = true
  bl : ∀ p, (builtinsTab.all fun y => noneB (nsIn (K p) mainGlobals y.1)) = true
theorem bl_boot : ∀ f v, (f, v) ∈ builtinsTab → bootBuiltins f = some v ∧ f ≠ ("__name__" : Str) := by
  intro f v h
  simp only [builtinsTab, List.mem_cons, List.not_mem_nil, or_false, Prod.mk.injEq] at h
  rcases h with ⟨rfl, rfl⟩ | ⟨rfl, rfl⟩ | ⟨rfl, rfl⟩ | ⟨rfl, rfl⟩ | ⟨rfl, rfl⟩ | ⟨rfl, rfl⟩ | ⟨rfl, rfl⟩ <;> exact ⟨by kernel_rfl, by decide⟩

theorem the_staticF {K : Params → Frag} {V : Program} (HF : HeadOK K V) {w : World} {h : Heap} {mg mb : Str → Option Value} {loose : List Str} {mean : ExcName → Option Value} (KX : (K w.params).In h) (T : Top V loose mean mg mb h) : StaticF (theCx K w h mg mb) where
  fns := fun f d _ hf => by
    have hm : d ∈ recsOf V := by rw [HF.recs]; exact List.mem_of_find?_eq_some hf
    have hn : d.name = f := by simpa using List.find?_some hf
    refine e5a4 (T.fn d hm) fun a o pm code doc e1 e2 e3 e4 => ?_
    refine ⟨a, hn ▸ e1, ?_, o, _, e2, e3, rfl, rfl, rfl, rfl, rfl, rfl, rfl, e4⟩
    have := List.all_eq_true.mp (HF.keep w.params) d hm
    split at this
    · rename_i v hv
      have := mg_of KX T.g hv
      rw [e1] at this; cases this
      assumption
    · cases this
  cls := fun c a b sc hc hi => by
    have hc : (c == ("Cell" : Str) || c == ("Counted" : Str)) = true := hc
    rw [Bool.or_eq_true, beq_iff_eq, beq_iff_eq] at hc
    rcases hc with rfl | rfl
    · obtain ⟨o, ho, fd, b', h1, h2, h3, h4, h5, h6, h7, h8⟩ := HF.cell_spec w.params
      rw [h2] at hi; o_facts hi
      exact ⟨63, 60, by show clsTab ("Cell" : Str) = some 63; decide, mg_of KX T.g (HF.cell_name _), HF.cell_keep _, HF.cell_makes _, HF.cell_init _, HF.cell_fn _, o, fd, KX _ _ ho, h1, rfl, h3, h4, rfl, h5, h6, h7, codeRec_of KX h8⟩
    · obtain ⟨o, ho, fd, b', h1, h2, h3, h4, h5, h6, h7, h8⟩ := HF.counted_spec w.params
      rw [h2] at hi; o_facts hi
      exact ⟨84, 81, by show clsTab ("Counted" : Str) = some 84; decide, mg_of KX T.g (HF.counted_name _), HF.counted_keep _, HF.counted_makes _, HF.counted_init _, HF.counted_fn _, o, fd, KX _ _ ho, h1, rfl, h3, h4, rfl, h5, h6, h7, codeRec_of KX h8⟩
theorem users_ok : (userNames.all fun f => isCls f || (fnOfTab f).isSome) = true := by kernel_rfl
theorem the_static {K : Params → Frag} {V : Program} (HF : HeadOK K V) {w : World} {h : Heap} {mg mb : Str → Option Value} {loose : List Str} {mean : ExcName → Option Value} (KX : (K w.params).In h) (T : Top V loose mean mg mb h) : StaticOK (theCx K w h mg mb) where
  nolimit := T.nolimit
  g := T.g
  b := T.b
  bl := fun f v hf => by
    refine e0a2 (bl_boot f v hf) fun b c => ?_
    exact ⟨mg_none_of KX T.g (noneB_of (List.all_eq_true.mp (HF.bl w.params) _ hf)), by show mb f = _; rw [T.builtins f c, b]⟩
  kin := KX
  fn := fun f hu => by
    have key := List.all_eq_true.mp users_ok f (List.contains_iff_mem.mp hu)
    cases hc : isCls f with
    | false =>
      rw [hc, Bool.false_or] at key
      exact (Option.isSome_iff_exists.mp key).elim fun d hd => ((the_staticF HF KX T).fns f d hc hd).elim fun fa c => ⟨_, c.1, c.2.1⟩
    | true =>
      have hc : (f == ("Cell" : Str) || f == ("Counted" : Str)) = true := hc
      rw [Bool.or_eq_true, beq_iff_eq, beq_iff_eq] at hc
      rcases hc with rfl | rfl
      · exact ⟨_, mg_of KX T.g (HF.cell_name _), HF.cell_keep _⟩
      · exact ⟨_, mg_of KX T.g (HF.counted_name _), HF.counted_keep _⟩
  cls := fun c C hc x hx => by
    have hc : clsTab c = some C := hc
    unfold clsTab at hc
    split at hc
    · rename_i e; subst e; o_facts hc; exact attrB_of (List.all_eq_true.mp (HF.attr_cell w.params) x hx)
    · split at hc
      · rename_i e; subst e; o_facts hc; exact attrB_of (List.all_eq_true.mp (HF.attr_counted w.params) x hx)
      · o_facts hc
end
/-! AS28 -/
section
set_option maxRecDepth 100000
set_option maxHeartbeats 8000000
open PySem PySem.W PyProof.Rows PySem.Calls

noncomputable def lawFn : Option DefRec := fnOfTab "law"
noncomputable def lawRest : List Stmt := (lawFn.map fun d => d.body.drop 1).getD []
noncomputable def lawScope : Scope := (lawFn.map fun d => d.scope).getD default

/- the script, as the abstract heap has it -/
noncomputable def scriptSt (xs : List Int) : ASt := { next := 1, get := fun _ => ⟨0, .list (xs.map AVal.int)⟩ }

theorem ints_vrels {X : Cx} {h : Heap} {loc : Nat → Addr} {N : Nat} : ∀ {vs : List Value} {xs : List Int}, IntsAre vs xs → VRels X h loc N vs (xs.map AVal.int) := by
  intro vs xs hI
  induction hI with
  | nil => exact .nil
  | cons k t _ ih => exact .cons (.int k t) ih

theorem lawScope_names : (lawScope.names.all fun p => match p.2 with | .cell => false | .free => false | _ => true) = true := by kernel_rfl

theorem law_run {K : Params → Frag} {V : Program} (HF : HeadOK K V) {w : World} {h h₁ : Heap} {mg mb : Str → Option Value} {loose : List Str} {mean : ExcName → Option Value} (KX : (K w.params).In h) (T : Top V loose mean mg mb h) {env : Env} {m : Str → Option Value} {s : Shared} (hs : s.heap = h₁) {A : Around} {N : Nat} (Rm : Room A N)
    (hsc : env.scope = lawScope) (hgl : env.globals = mainGlobals) (hbl : env.builtins = builtinsNs) (hce : env.cells = []) (F : Fr h env.locals h₁ m) {la : Addr} {vals : List Value} {xs : List Int} (hm : m "script" = some (.ref la)) (hL : h₁.IsList la vals.toArray) (hI : IntsAre vals xs) (hz : xs.length ≤ 63)
    {p1 p2 p3 p4 p5 p6 : Pos} {kd : Nat} (H : exs (R N) lawRest { sc := lawScope, vars := [("script", .obj 0)] } (scriptSt xs) fun x _ => x = .ret (.bool true))
    {Q : Flow → Shared → Prop} {E : Value → Shared → Prop} (hQ : ∀ s', (∃ m, s'.heap.Ns env.locals m) → (∀ b o, h.get? b = some o → s'.heap.get? b = some o) → s'.gens = s.gens → s'.os = s.os → Q (.ret (.bool true)) s') :
    wpAny (model PW w) A (execs (.Assign [.Name "script" p1] (.Subscript (.Name "script" p2) (.Slice none (some (.Constant (.int 63) kd p3)) none p4) p5) p6 :: lawRest) env) Q E s := by
  subst hs
  have k1 : env.scope.kind = .function := by rw [hsc]; rfl
  have k2 : env.kindOf "script" = some .local := by show env.scope.names.lookup ("script" : Str) = _; rw [hsc]; rfl
  refine wpAny_execs_cons (wpAny_Assign_Name (Subscript_ (wpAny_Name (wpAny_loadName_local k1 k2 F.ns hm ?_) (by decide))) rfl)
  refine wpAny_Slice (wpAny_pure (wpAny_Constant_int (k := kd) (pos := p3) (wpAny_pure ?_)))
  obtain ⟨ol, hol, hcl, nl, hdl⟩ := hL
  have hold : ∀ b o, s.heap.get? b = some o → (s.heap.push { cls := .type "slice", data := .fields #[.none, .int 63 s.toks, .none] }).get? b = some o := fun b o e => Heap.get?_push_of_some _ e
  have hlen : vals.length = xs.length := (ints_vrels (X := theCx K w h mg mb) (h := h) (loc := fun _ => 0) (N := 0) hI).length.trans (by simp)
  refine tail_any (s := { s with heap := s.heap.push { cls := .type "slice", data := .fields #[.none, .int 63 s.toks, .none] }, toks := s.toks + 1 }) (ops := [.ref s.heap.objs.size, .ref la]) (T := "list") ⟨_, hold _ _ hol, hcl⟩ PySem.F.slot_list_getitem.lookup ?_ rfl
  refine wpAny_getItem_list_slice (items := vals.toArray) ⟨ol, hold _ _ hol, hcl, nl, hdl⟩ (Heap.IsSliceOf.new _ _ _ _) .none (.int 63 s.toks) .none (by intro q; cases q) ?_ (by rw [List.size_toArray, hlen]; exact Nat.le_trans (by lia -abstractProof) million)
  have e : slicePick vals.toArray none (some 63) none = vals.toArray := by
    have := slicePick_upto' vals.toArray 63
    rw [show ((63 : Nat) : Int) = (63 : Int) from rfl] at this
    rw [this, List.toList_toArray, List.take_of_length_le (by lia -abstractProof)]
  rw [e]
  have hkp : (env.scope.kind == .class || (env.scope.kind == .module && env.locals != env.globals)) = false := by rw [k1]; rfl
  refine e3a3 (F.ns) fun oL esL epL hoL hdL hL2 => ?_
  have hold2 : ∀ b o, s.heap.get? b = some o → ((s.heap.push { cls := .type "slice", data := .fields #[.none, .int 63 s.toks, .none] }).push { cls := .type "list", data := .seq vals.toArray }).get? b = some o := fun b o e => Heap.get?_push_of_some _ (hold b o e)
  have hnew := Heap.get?_push_size (s.heap.push { cls := .type "slice", data := .fields #[.none, .int 63 s.toks, .none] }) (o := { cls := .type "list", data := .seq vals.toArray }) rfl
  have hnone : ∀ b, s.heap.objs.size ≤ b → s.heap.get? b = none := fun b hb => none_ge _ hb
  generalize hD : (s.heap.push { cls := .type "slice", data := .fields #[.none, .int 63 s.toks, .none] }).objs.size = D at hnew ⊢
  rw [Heap.size_push] at hD
  have hDn : s.heap.get? D = none := hnone _ (by lia -abstractProof)
  generalize hH : (s.heap.push { cls := .type "slice", data := .fields #[.none, .int 63 s.toks, .none] }).push { cls := .type "list", data := .seq vals.toArray } = H2 at hold2 hnew ⊢
  refine wpAny_storeName_local k2 ⟨oL, esL, epL, hold2 _ _ hoL, hdL, hL2⟩ (fun h' hn hsb => ?_) hkp
  dsimp only
  have hDL : D ≠ env.locals := fun q => by rw [q, hoL] at hDn; o_facts hDn
  have hD' := hsb.extBut D _ hDL hnew
  have base : ∀ b o, h.get? b = some o → h'.get? b = some o := fun b o e => hsb.extBut b o (fun q => by
    have h1 := Heap.lt_size e
    have h2 := F.above
    rw [q] at h1; exact Nat.lt_irrefl _ (Nat.lt_of_lt_of_le h1 h2)) (hold2 b o (F.keep b o e))
  have hz0 : h.get? D = none := by
    cases e : h.get? D with
    | none => rfl
    | some o => have := F.keep _ _ e; rw [hDn] at this; cases this
  have G : OK (theCx K w h mg mb) { s with heap := h', toks := s.toks + 1 + 1 } (fun _ => D) (scriptSt xs) := by
    refine ⟨base, fun i hi => hz0, fun i j hi hj _ => ?_, fun i hi => ⟨vals, _, hD', ints_vrels hI⟩⟩
    have : i < 1 := hi
    have : j < 1 := hj
    lia -abstractProof
  have nocell : ∀ x, env.kindOf x ≠ some .cell ∧ env.kindOf x ≠ some .free := fun x => by
    have e : env.kindOf x = lawScope.names.lookup x := by show env.scope.names.lookup x = _; rw [hsc]
    rw [e]
    have key := List.all_eq_true.mp lawScope_names
    refine ⟨fun q => ?_, fun q => ?_⟩
    · have := key _ (mem_of_lookup q); cases this
    · have := key _ (mem_of_lookup q); cases this
  have V : EnvOK (theCx K w h mg mb) env { sc := lawScope, vars := [("script", .obj 0)] } h' (fun _ => D) (scriptSt xs).next := by
    refine ⟨k1, hgl, hbl, fun x k hx => .inl (by show env.scope.names.lookup x = _; rw [hsc]; exact hx), ⟨_, hn, fun x a hx _ => ?_⟩, fun x hx => ?_, fun x y c hx _ => ?_, fun i _ => hDL, ?_, fun x c hx => ?_, fun x c hx => ?_⟩
    · have hx : List.lookup x [(("script" : Str), AVal.obj 0)] = some a := hx
      rw [List.lookup_cons] at hx
      split at hx
      · rename_i q
        o_facts hx
        have q : x = ("script" : Str) := by simpa using q
        exact ⟨.ref D, if_pos q, VRel.obj (loc := fun _ => D) (id := 0) (Nat.zero_lt_one)⟩
      · o_facts hx
    · rcases hx with q | q
      · exact absurd q (nocell x).1
      · exact absurd q (nocell x).2
    · rw [hce] at hx; o_facts hx
    · show h.get? env.locals = none
      exact none_ge _ F.above
    · rw [hce] at hx; o_facts hx
    · rw [hce] at hx; o_facts hx
  refine exs_snd (snd_R (X := theCx K w h mg mb) (the_static HF KX T) (the_staticF HF KX T) N) Rm H G V fun o st' fl s' loc' h G' x' f' => ?_
  cases h
  cases f' with
  | ret rv hm =>
    cases rv
    exact hQ s' hm G'.base x'.gens x'.os
end
/-! AS29 -/
section
set_option maxRecDepth 100000
set_option maxHeartbeats 8000000
open PySem PySem.W PyProof.Rows PySem.Calls

theorem law_run' {K : Params → Frag} {V : Program} (HF : HeadOK K V) {w : World} {h h₁ : Heap} {mg mb : Str → Option Value} {loose : List Str} {mean : ExcName → Option Value} (KX : (K w.params).In h) (T : Top V loose mean mg mb h) {env : Env} {m : Str → Option Value} {s : Shared} (hs : s.heap = h₁) {A : Around} {N : Nat} (Rm : Room A N)
    {body : List Stmt} {p1 p2 p3 p4 p5 p6 : Pos} {kd : Nat} (hB : body = .Assign [.Name "script" p1] (.Subscript (.Name "script" p2) (.Slice none (some (.Constant (.int 63) kd p3)) none p4) p5) p6 :: lawRest)
    (hsc : env.scope = lawScope) (hgl : env.globals = mainGlobals) (hbl : env.builtins = builtinsNs) (hce : env.cells = []) (F : Fr h env.locals h₁ m) {la : Addr} {vals : List Value} {xs : List Int} (hm : m "script" = some (.ref la)) (hL : h.IsList la vals.toArray) (hI : IntsAre vals xs) (hz : xs.length ≤ 63)
    (H : exs (R N) lawRest { sc := lawScope, vars := [("script", .obj 0)] } (scriptSt xs) fun x _ => x = .ret (.bool true))
    {Q : Flow → Shared → Prop} {E : Value → Shared → Prop} (hQ : ∀ s', (∃ m, s'.heap.Ns env.locals m) → (∀ b o, h.get? b = some o → s'.heap.get? b = some o) → s'.gens = s.gens → s'.os = s.os → Q (.ret (.bool true)) s') :
    wpAny (model PW w) A (execs body env) Q E s := by
  subst hB
  exact law_run HF KX T hs Rm hsc hgl hbl hce F hm (hL.at fun o e => F.keep _ _ e) hI hz H hQ

theorem room60 (env : Env) : Room (callerA.deeper env) 60 := ⟨rfl, by
  have : (callerA.deeper env).depth = 302 := rfl
  rw [this]; decide, by
  have : (callerA.deeper env).units = 7 := rfl
  rw [this]; decide⟩
end
end Mine
namespace Mine
open PySem PySem.W PyProof.Rows
local macro_rules | `(tactic| o_facts $h) => `(tactic| first | (replace $h:ident := Option.some.inj $h:ident; subst $h:ident) | ((fail_if_success (cases $h:ident; done)); cases $h:ident) | (injection $h:ident; done) | cases $h:ident)
/-! P1 -/
section
set_option maxRecDepth 100000
theorem map_some {α β : Type} {o : Option α} {f : α → β} {y : β} (h : o.map f = some y) : ∃ a, o = some a ∧ f a = y := by
  cases o with
  | none => injection h
  | some a => exact ⟨a, rfl, Option.some.inj h⟩

/- the object at id is o -/
noncomputable def ASt.Ob (st : ASt) (id : Nat) (o : AObj) : Prop := id < st.next ∧ st.get id = o
noncomputable def ASt.At (st : ASt) (id : Nat) (d : AData) : Prop := id < st.next ∧ (st.get id).data = d
theorem ASt.Ob.at {st : ASt} {id : Nat} {o : AObj} (h : st.Ob id o) : st.At id o.data := ⟨h.1, by rw [h.2]⟩

section
variable {st : ASt} {Q : AVal → ASt → Prop} {U : Unit → ASt → Prop} {B : Bool → ASt → Prop}
theorem br_t {b : Bool} {A B : Prop} (h : b = true) (k : A) : BrP b A B := ⟨fun _ => k, fun q => by rw [h] at q; cases q⟩
theorem br_f {b : Bool} {A B : Prop} (h : b = false) (k : B) : BrP b A B := ⟨fun q => by rw [h] at q; (cases q), fun _ => k⟩
theorem wp_newD {d : AData} {Q : Nat → ASt → Prop} (q : Q st.next (st.new d)) : newD d st Q := q

/-! access -/
theorem attr_get {c a : Str} {id : Nat} {l : List (Str × AVal)} {v : AVal} (h : (attrsOf c).contains a = true) (hl : st.At id (.sdict l)) (hv : getK a l = some v) (q : Q v st) : wp (attrGet (.inst c id) a) st Q := by
  refine ⟨?_⟩
  show grd _ _ _ _
  rw [h]; with_unfolding_all exact ⟨l, hl, v, hv, q⟩
theorem attr_set {c a : Str} {id : Nat} {l : List (Str × AVal)} {v : AVal} (h : (attrsOf c).contains a = true) (hl : st.At id (.sdict l)) (hz : l.length ≤ 100) (q : U () (st.put id (.sdict (putK a v l)))) : wp (attrSet (.inst c id) a v) st U := by
  refine ⟨?_⟩
  show grd _ _ _ _
  rw [h]; with_unfolding_all exact ⟨l, hl, hz, hl.1, q⟩
theorem item_tup {l : List AVal} {k : Int} {v : AVal} (h : 0 ≤ k ∧ k < 1000) (hv : l[k.toNat]? = some v) (q : Q v st) : wp (itemGet (.tup l) (.int k)) st Q := by with_unfolding_all exact ⟨h, v, hv, q⟩
theorem item_idict {l : List (Int × AVal)} {id : Nat} {k : Int} {v : AVal} (hl : st.At id (.idict l)) (hv : getK k l = some v) (q : Q v st) : wp (itemGet (.obj id) (.int k)) st Q := by with_unfolding_all exact ⟨.inr ⟨l, hl, v, hv, q⟩⟩
theorem item_list {l : List AVal} {id : Nat} {k : Int} {v : AVal} (hl : st.At id (.list l)) (h : 0 ≤ k ∧ k < 1000) (hv : l[k.toNat]? = some v) (q : Q v st) : wp (itemGet (.obj id) (.int k)) st Q := by with_unfolding_all exact ⟨.inl ⟨l, hl, h, v, hv, q⟩⟩
theorem item_sdict {l : List (Str × AVal)} {id : Nat} {k : Str} {v : AVal} (hl : st.At id (.sdict l)) (hv : getK k l = some v) (q : Q v st) : wp (itemGet (.obj id) (.str k)) st Q := by with_unfolding_all exact ⟨l, hl, v, hv, q⟩
theorem set_idict {l : List (Int × AVal)} {id : Nat} {k : Int} {v : AVal} (hl : st.At id (.idict l)) (hz : l.length ≤ 1000000) (q : U () (st.put id (.idict (putK k v l)))) : wp (itemSet (.obj id) (.int k) v) st U := by with_unfolding_all exact ⟨.inr ⟨l, hl, hz, hl.1, q⟩⟩
theorem set_list {l : List AVal} {id : Nat} {k : Int} {v : AVal} (hl : st.At id (.list l)) (hz : 0 ≤ k ∧ k < l.length ∧ l.length ≤ 1000) (q : U () (st.put id (.list (l.set k.toNat v)))) : wp (itemSet (.obj id) (.int k) v) st U := by with_unfolding_all exact ⟨.inl ⟨l, hl, hz, hl.1, q⟩⟩
theorem set_sdict {l : List (Str × AVal)} {id : Nat} {k : Str} {v : AVal} (hl : st.At id (.sdict l)) (hz : l.length ≤ 100) (q : U () (st.put id (.sdict (putK k v l)))) : wp (itemSet (.obj id) (.str k) v) st U := by with_unfolding_all exact ⟨l, hl, hz, hl.1, q⟩
theorem del_idict {l : List (Int × AVal)} {id : Nat} {k : Int} (hl : st.At id (.idict l)) (hz : (getK k l).isSome ∧ l.length ≤ 1000000) (q : U () (st.put id (.idict (delK k l)))) : wp (itemDel (.obj id) (.int k)) st U := by with_unfolding_all exact ⟨l, hl, hz, hl.1, q⟩
theorem truth_l {id : Nat} {l : List AVal} (hl : st.At id (.list l)) (hz : l.length ≤ 1000000) (q : B (!l.isEmpty) st) : wp (fullL id) st B := by with_unfolding_all exact ⟨l, hl, hz, q⟩
theorem in_idict {id : Nat} {l : List (Int × AVal)} {k : Int} (hl : st.At id (.idict l)) (q : B (getK k l).isSome st) : wp (inD id k) st B := by with_unfolding_all exact ⟨l, hl, q⟩
theorem isL_at {id : Nat} {l : List AVal} (hl : st.At id (.list l)) (q : U () st) : wp (isL id) st U := by with_unfolding_all exact ⟨l, hl, q⟩
theorem isI_at {id : Nat} {l : List (Int × AVal)} (hl : st.At id (.idict l)) (q : U () st) : wp (isI id) st U := by with_unfolding_all exact ⟨l, hl, q⟩

theorem m_append {l : List AVal} {id : Nat} {v : AVal} (hl : st.At id (.list l)) (hz : l.length ≤ 1000000) (q : Q .none (st.put id (.list (l ++ [v])))) : wp (methL id "append" [v]) st Q := by with_unfolding_all exact ⟨l, hl, hz, hl.1, q⟩
theorem m_extend {l m : List AVal} {id j : Nat} (hl : st.At id (.list l)) (hm : st.At j (.list m)) (hj : j ≠ id) (hz : l.length + m.length ≤ 1000000) (q : Q .none (st.put id (.list (l ++ m)))) : wp (methL id "extend" [.obj j]) st Q := by with_unfolding_all exact ⟨l, hl, hj, m, hm, hz, hl.1, q⟩
theorem m_remove {l : List AVal} {id : Nat} {k : Int} (hl : st.At id (.list l)) (hz : (l.all isIntA && l.any (eqIntA k) && decide (l.length ≤ 1000000)) = true) (q : Q .none (st.put id (.list (l.eraseP (eqIntA k))))) : wp (methL id "remove" [.int k]) st Q := by with_unfolding_all exact ⟨l, hl, hz, hl.1, q⟩
theorem m_pop {l : List AVal} {id : Nat} {v : AVal} (hl : st.At id (.list (l ++ [v]))) (hz : (l ++ [v]).length ≤ 1000000) (q : Q v (st.put id (.list l))) : wp (methL id "pop" []) st Q :=
by
  have e : (l ++ [v]).dropLast = l := List.dropLast_concat
  have e2 : (l ++ [v]).getLast? = some v := by simp
  with_unfolding_all exact ⟨l ++ [v], hl, v, e2, hz, hl.1, by rw [e]; exact q⟩
theorem m_get {l : List (Int × AVal)} {id : Nat} {k : Int} {d : AVal} (hl : st.At id (.idict l)) (q : Q ((getK k l).getD d) st) : wp (methI id "get" [.int k, d]) st Q := by with_unfolding_all exact ⟨l, hl, q⟩
theorem m_get1 {l : List (Int × AVal)} {id : Nat} {k : Int} (hl : st.At id (.idict l)) (q : Q ((getK k l).getD .none) st) : wp (methI id "get" [.int k]) st Q := by with_unfolding_all exact ⟨l, hl, q⟩
theorem m_popk {l : List (Int × AVal)} {id : Nat} {k : Int} {v : AVal} (hl : st.At id (.idict l)) (hv : getK k l = some v) (hz : l.length ≤ 1000000) (q : Q v (st.put id (.idict (delK k l)))) : wp (methI id "pop" [.int k]) st Q := by with_unfolding_all exact ⟨l, hl, v, hv, hz, hl.1, q⟩
theorem add_lists {i j : Nat} {l m : List AVal} (hl : st.At i (.list l)) (hm : st.At j (.list m)) (hz : l.length + m.length ≤ 1000000) (q : wp (newO (.list (l ++ m))) st Q) : wp (addL i j) st Q := by with_unfolding_all exact ⟨l, hl, m, hm, hz, q.out⟩
theorem take_list {i : Nat} {l : List AVal} {n : Int} (hl : st.At i (.list l)) (h : 0 ≤ n ∧ n ≤ 1000 ∧ l.length ≤ 1000000) (q : wp (newO (.list (l.take n.toNat))) st Q) : wp (takeL i n) st Q := by with_unfolding_all exact ⟨l, hl, h, q.out⟩
theorem back_list {i : Nat} {l : List AVal} (hl : st.At i (.list l)) (h : l.length ≤ 1000000) (q : wp (newO (.list l.reverse)) st Q) : wp (backL i (-1)) st Q := by with_unfolding_all exact ⟨l, hl, ⟨rfl, h⟩, q.out⟩

/-! calls -/
/- the text's functions, read off row by row: quicker to look up than recsOf, which asks of each that it is alone -/
noncomputable def tabL : List DefRec := PySem.Challenge.pw_pf0208_01.main.body.filterMap fun st => match st with
  | .FunctionDef name a b _ _ _ sc _ _ pos => some ⟨name, a, b, sc, pos⟩
  | _ => none
noncomputable def tabOf (f : Str) : Option DefRec := tabL.find? fun d => d.name == f
theorem tabL_eq : tabL = recsOf PySem.Challenge.pw_pf0208_01 := by kernel_rfl
theorem tabOf_eq (f : Str) : fnOfTab f = tabOf f := by unfold fnOfTab tabOf; rw [tabL_eq]
theorem call_f {n : Nat} {f nm : Str} {pr : Arguments} {bd : List Stmt} {sc : Scope} {ps : Pos} {ns : List Str} {args : List AVal} (hd : tabOf f = some ⟨nm, pr, bd, sc, ps⟩) (hc : isCls f = false) (hn : pr.args.map (·.arg) = ns) (hp : (decide (ns.length = args.length) && (plainParams pr && bodyOk ns sc)) = true)
  (k : exs (R n) bd { sc := sc, vars := ns.zip args } st (thn outK Q)) : wp ((R (n + 1)).call f args) st Q := by
  subst hn
  refine ⟨?_⟩
  show sel (isCls f) _ _ st Q
  rw [hc]
  with_unfolding_all refine ⟨_, (tabOf_eq f).trans hd, ?_⟩
  show grd _ _ _ _
  rw [List.length_map] at hp
  rw [hp]; exact k
theorem call_init {n : Nat} {f : Str} {pr : Arguments} {bd : List Stmt} {sc : Scope} {ns : List Str} {args : List AVal} (hc : isCls f = true) (hi : initOf f = some (pr, bd, sc)) (hn : pr.args.map (·.arg) = ns) (hp : (decide (ns.length = args.length + 1) && (plainParams pr && bodyOk ns sc)) = true)
  (k : newD (.sdict []) st fun id st' => exs (R n) bd { sc := sc, vars := ns.zip (.inst f id :: args) } st' (thn outK (thn (instK f id) Q))) : wp ((R (n + 1)).call f args) st Q := by
  subst hn
  refine ⟨?_⟩
  show sel (isCls f) _ _ st Q
  rw [hc]
  with_unfolding_all refine ⟨_, hi, ?_⟩
  show grd _ _ _ _
  rw [List.length_map] at hp
  rw [show (decide (pr.args.length = (AVal.inst f st.next :: args).length) && (plainParams pr && bodyOk (pr.args.map (·.arg)) sc)) = true from hp]; exact k
end
end
/-! P2 -/
section
set_option maxRecDepth 100000

inductive K where
  | array | object | ref
  deriving DecidableEq
noncomputable def encK : K → Str
  | .array => "array"
  | .object => "object"
  | .ref => "ref"
inductive V where
  | int (n : Int) | cell (n : Int)
  deriving DecidableEq
noncomputable def enc : V → AVal
  | .int n => .tup [.str "int", .int n]
  | .cell n => .tup [.str "cell", .int n]
structure C where
  sort : K
  count : Int
  slots : List (Int × V)
  colour : Str
  buf : Bool
  hasD : Bool
  isD : Bool
  fr : Bool
inductive L where
  | copy (a b : Int) | free (n : Int) | destruct (n : Int)
  deriving DecidableEq
noncomputable def encL : L → AVal
  | .copy a b => .tup [.str "copy", .int a, .int b]
  | .free n => .tup [.str "free", .int n]
  | .destruct n => .tup [.str "destruct", .int n]
structure HS where
  cells : List (Int × C)
  vars : List (Int × V)
  log : List L
  last : Int
  buffer : List Int
  freed : Int

/-! lists of pairs -/
section
variable {κ α β : Type} [DecidableEq κ]
theorem getK_mapv {f : κ → α → β} {k : κ} : ∀ {l : List (κ × α)}, getK k (l.map fun p => (p.1, f p.1 p.2)) = (getK k l).map (f k)
  | [] => rfl
  | (j, v) :: r => by
    show (if j = k then some (f j v) else getK k _) = ((if j = k then some v else getK k r) : Option α).map (f k)
    by_cases q : j = k
    · rw [if_pos q, if_pos q, q]; rfl
    · rw [if_neg q, if_neg q]; exact getK_mapv
theorem putK_mapv {f : κ → α → β} {k : κ} {v : α} : ∀ {l : List (κ × α)}, putK k (f k v) (l.map fun p => (p.1, f p.1 p.2)) = (putK k v l).map fun p => (p.1, f p.1 p.2)
  | [] => rfl
  | (j, w) :: r => by
    show (if j = k then (j, f k v) :: _ else (j, f j w) :: putK k _ _) = (if j = k then (j, v) :: r else (j, w) :: putK k v r).map _
    by_cases q : j = k
    · rw [if_pos q, if_pos q, q]; rfl
    · rw [if_neg q, if_neg q, putK_mapv]; rfl
theorem delK_mapv {f : κ → α → β} {k : κ} {l : List (κ × α)} : delK k (l.map fun p => (p.1, f p.1 p.2)) = (delK k l).map fun p => (p.1, f p.1 p.2) := by
  unfold delK; rw [List.filter_map]; rfl
theorem getK_putK {k j : κ} {v : α} : ∀ {l : List (κ × α)}, getK j (putK k v l) = if j = k then some v else getK j l
  | [] => by
    show (if k = j then some v else none) = _
    by_cases q : j = k
    · rw [if_pos q, if_pos q.symm]
    · rw [if_neg q, if_neg fun e => q e.symm]; rfl
  | (i, w) :: r => by
    show getK j (if i = k then (i, v) :: r else (i, w) :: putK k v r) = if j = k then some v else if i = j then some w else getK j r
    by_cases q : i = k
    · rw [if_pos q]
      show (if i = j then some v else getK j r) = _
      by_cases q2 : j = k
      · rw [if_pos (q.trans q2.symm), if_pos q2]
      · rw [if_neg (fun e => q2 (e.symm.trans q)), if_neg q2, if_neg (fun e => q2 (e.symm.trans q))]
    · rw [if_neg q]
      show (if i = j then some w else getK j (putK k v r)) = _
      by_cases q2 : i = j
      · rw [if_pos q2, if_neg (fun e => q (q2.trans e)), if_pos q2]
      · rw [if_neg q2, getK_putK, if_neg q2]
theorem getK_delK {k j : κ} : ∀ {l : List (κ × α)}, getK j (delK k l) = if j = k then none else getK j l
  | [] => by show none = _; by_cases q : j = k <;> simp [q, getK]
  | (i, w) :: r => by
    have ih := getK_delK (k := k) (j := j) (l := r)
    unfold delK at ih ⊢
    by_cases q : i = k
    · rw [List.filter_cons_of_neg (by simpa using q), ih]
      by_cases q2 : j = k
      · rw [if_pos q2, if_pos q2]
      · rw [if_neg q2, if_neg q2]
        show _ = if i = j then _ else _
        rw [if_neg (fun e => q2 (e.symm.trans q))]
    · rw [List.filter_cons_of_pos (by simpa using q)]
      show (if i = j then some w else getK j _) = if j = k then none else if i = j then some w else getK j r
      rw [ih]
      by_cases q2 : i = j
      · rw [if_pos q2, if_neg (fun e => q (q2.trans e)), if_pos q2]
      · rw [if_neg q2, if_neg q2]
theorem putK_new {k : κ} {v : α} : ∀ {l : List (κ × α)}, getK k l = none → putK k v l = l ++ [(k, v)]
  | [], _ => rfl
  | (j, w) :: r, h => by
    by_cases q : j = k
    · subst q; simp [getK] at h
    · rw [getK, if_neg q] at h
      show (if j = k then _ else (j, w) :: putK k v r) = _
      rw [if_neg q, putK_new h]; rfl
theorem putK_old {k : κ} {v : α} : ∀ {l : List (κ × α)}, getK k l = some v → putK k v l = l
  | (j, w) :: r, h => by
    by_cases q : j = k
    · rw [getK, if_pos q] at h; o_facts h
      show (if j = k then (j, w) :: r else _) = _
      rw [if_pos q]
    · rw [getK, if_neg q] at h
      show (if j = k then _ else (j, w) :: putK k v r) = _
      rw [if_neg q, putK_old h]
theorem getK_mem {k : κ} {v : α} : ∀ {l : List (κ × α)}, getK k l = some v → (k, v) ∈ l
  | (j, w) :: r, h => by
    by_cases q : j = k
    · rw [getK, if_pos q] at h; o_facts h; subst q; exact .head _
    · rw [getK, if_neg q] at h; exact .tail _ (getK_mem h)
theorem length_putK_le {k : κ} {v : α} : ∀ {l : List (κ × α)}, (putK k v l).length ≤ l.length + 1
  | [] => Nat.le_refl _
  | (j, w) :: r => by
    show (if j = k then (j, v) :: r else (j, w) :: putK k v r).length ≤ _
    by_cases q : j = k
    · rw [if_pos q]; exact Nat.le_succ _
    · rw [if_neg q]; exact Nat.succ_le_succ (length_putK_le (l := r))
end

/-! the counted heap, as it lies -/
structure HIds where
  root : Nat
  cells : Nat
  vars : Nat
  log : Nat
  buffer : Nat
  plan : Nat
  tables : Nat
structure Loc where
  cell : Int → Nat
  slot : Int → Nat
inductive Tag where
  | root | cells | vars | log | buffer | tables | cell (n : Int) | slot (n : Int)
  deriving DecidableEq
noncomputable def Tag.id (X : HIds) (loc : Loc) : Tag → Nat
  | .root => X.root
  | .cells => X.cells
  | .vars => X.vars
  | .log => X.log
  | .buffer => X.buffer
  | .tables => X.tables
  | .cell n => loc.cell n
  | .slot n => loc.slot n
noncomputable def encV (_ : Int) (v : V) : AVal := enc v
noncomputable def instA (loc : Loc) (n : Int) (_ : C) : AVal := .inst "Cell" (loc.cell n)
noncomputable def encM (l : List (Int × V)) : List (Int × AVal) := l.map fun p => (p.1, encV p.1 p.2)
noncomputable def cellL (s : Nat) (n : Int) (c : C) : List (Str × AVal) := [("sort", .str (encK c.sort)), ("number", .int n), ("count", .int c.count), ("slots", .obj s), ("colour", .str c.colour), ("is_buffered", .bool c.buf), ("has_destructor", .bool c.hasD), ("is_destructed", .bool c.isD), ("is_freed", .bool c.fr), ("weak", .none)]
noncomputable def rootL (X : HIds) (last freed : Int) : List (Str × AVal) := [("cells", .obj X.cells), ("vars", .obj X.vars), ("log", .obj X.log), ("last", .int last), ("buffer", .obj X.buffer), ("full", .int 1000), ("freed", .int freed), ("plan", .obj X.plan), ("tables", .obj X.tables)]
noncomputable def cellsA (loc : Loc) (l : List (Int × C)) : List (Int × AVal) := l.map fun p => (p.1, instA loc p.1 p.2)
noncomputable def content (X : HIds) (loc : Loc) (H : HS) : Tag → Option AData
  | .root => some (.sdict (rootL X H.last H.freed))
  | .cells => some (.idict (cellsA loc H.cells))
  | .vars => some (.idict (encM H.vars))
  | .log => some (.list (H.log.map encL))
  | .buffer => some (.list (H.buffer.map AVal.int))
  | .tables => some (.list [])
  | .cell n => (getK n H.cells).map fun c => .sdict (cellL (loc.slot n) n c)
  | .slot n => (getK n H.cells).map fun c => .idict (encM c.slots)

abbrev Frm := Nat → AObj → Prop
noncomputable def Frm.add (F : Frm) (i : Nat) (o : AObj) : Frm := fun j p => F j p ∨ (j = i ∧ p = o)

structure Rep (X : HIds) (loc : Loc) (H : HS) (F : Frm) (st : ASt) : Prop where
  dat : ∀ t d, content X loc H t = some d → st.At (t.id X loc) d
  inj : ∀ t t', (content X loc H t).isSome → (content X loc H t').isSome → t.id X loc = t'.id X loc → t = t'
  frame : ∀ i o, F i o → st.Ob i o
  off : ∀ i o, F i o → ∀ t, (content X loc H t).isSome → t.id X loc ≠ i

theorem At_put_self {st : ASt} {i : Nat} {d : AData} (h : i < st.next) : (st.put i d).At i d := ⟨h, by show (if i = i then (⟨_, d⟩ : AObj) else _).data = d; rw [if_pos rfl]⟩
theorem At_put_ne {st : ASt} {i j : Nat} {d d' : AData} (h : st.At j d') (q : j ≠ i) : (st.put i d).At j d' := ⟨h.1, by show (if j = i then (⟨_, d⟩ : AObj) else _).data = d'; rw [if_neg q]; exact h.2⟩
theorem Ob_put_ne {st : ASt} {i j : Nat} {d : AData} {o : AObj} (h : st.Ob j o) (q : j ≠ i) : (st.put i d).Ob j o := ⟨h.1, by show (if j = i then (⟨_, d⟩ : AObj) else _) = o; rw [if_neg q]; exact h.2⟩
theorem At_new {st : ASt} {j : Nat} {d d' : AData} (h : st.At j d') : (st.new d).At j d' := ⟨Nat.lt_succ_of_lt h.1, by show (if j = st.next then (⟨_, d⟩ : AObj) else _).data = d'; rw [if_neg (Nat.ne_of_lt h.1)]; exact h.2⟩
theorem Ob_new {st : ASt} {j : Nat} {d : AData} {o : AObj} (h : st.Ob j o) : (st.new d).Ob j o := ⟨Nat.lt_succ_of_lt h.1, by show (if j = st.next then (⟨_, d⟩ : AObj) else _) = o; rw [if_neg (Nat.ne_of_lt h.1)]; exact h.2⟩
theorem Ob_new_self {st : ASt} {d : AData} : (st.new d).Ob st.next ⟨0, d⟩ := ⟨Nat.lt_succ_self _, by show (if st.next = st.next then (⟨_, d⟩ : AObj) else _) = _; rw [if_pos rfl]⟩

section
variable {X : HIds} {loc : Loc} {H H' : HS} {F F' : Frm} {st : ASt}

theorem Rep.mono (r : Rep X loc H F st) (h : ∀ i o, F' i o → F i o) : Rep X loc H F' st := ⟨r.dat, r.inj, fun i o q => r.frame i o (h i o q), fun i o q => r.off i o (h i o q)⟩
theorem Rep.drop {i : Nat} {o : AObj} (r : Rep X loc H (F.add i o) st) : Rep X loc H F st := r.mono fun _ _ h => .inl h
theorem Rep.new {d : AData} (r : Rep X loc H F st) : Rep X loc H (F.add st.next ⟨0, d⟩) (st.new d) := by
  refine ⟨fun t d' h => At_new (r.dat t d' h), r.inj, fun i o h => ?_, fun i o h t ht => ?_⟩
  · rcases h with h | ⟨rfl, rfl⟩
    · exact Ob_new (r.frame _ _ h)
    · exact Ob_new_self
  · rcases h with h | ⟨rfl, rfl⟩
    · exact r.off _ _ h t ht
    · obtain ⟨d', hd⟩ := Option.isSome_iff_exists.mp ht
      exact Nat.ne_of_lt (r.dat t d' hd).1
theorem Rep.put {t : Tag} {d : AData} (r : Rep X loc H F st) (h1 : (content X loc H t).isSome) (h2 : ∀ t', t' ≠ t → content X loc H' t' = content X loc H t') (h3 : content X loc H' t = some d) : Rep X loc H' F (st.put (t.id X loc) d) := by
  have live : ∀ t', (content X loc H' t').isSome → (content X loc H t').isSome := fun t' h => by
    by_cases q : t' = t
    · rw [q]; exact h1
    · rw [← h2 t' q]; exact h
  refine ⟨fun t' d' h => ?_, fun t1 t2 h1 h2 e => r.inj t1 t2 (live _ h1) (live _ h2) e, fun i o h => ?_, fun i o h t' ht => r.off i o h t' (live _ ht)⟩
  · by_cases q : t' = t
    · subst q
      rw [h3] at h; o_facts h
      obtain ⟨d', hd⟩ := Option.isSome_iff_exists.mp h1
      exact At_put_self (r.dat t' d' hd).1
    · rw [h2 t' q] at h
      exact At_put_ne (r.dat t' d' h) fun e => q (r.inj t' t (by rw [h]; rfl) h1 e)
  · exact Ob_put_ne (r.frame i o h) fun e => r.off i o h t h1 e.symm

noncomputable def HS.setC (H : HS) (n : Int) (c : C) : HS := { H with cells := putK n c H.cells }

theorem Rep.root (r : Rep X loc H F st) : st.At X.root (.sdict (rootL X H.last H.freed)) := r.dat .root _ rfl
theorem Rep.cells (r : Rep X loc H F st) : st.At X.cells (.idict (cellsA loc H.cells)) := r.dat .cells _ rfl
theorem Rep.vars (r : Rep X loc H F st) : st.At X.vars (.idict (encM H.vars)) := r.dat .vars _ rfl
theorem Rep.log (r : Rep X loc H F st) : st.At X.log (.list (H.log.map encL)) := r.dat .log _ rfl
theorem Rep.buffer (r : Rep X loc H F st) : st.At X.buffer (.list (H.buffer.map AVal.int)) := r.dat .buffer _ rfl
theorem Rep.tables (r : Rep X loc H F st) : st.At X.tables (.list []) := r.dat .tables _ rfl
theorem Rep.cell {n : Int} {c : C} (r : Rep X loc H F st) (h : getK n H.cells = some c) : st.At (loc.cell n) (.sdict (cellL (loc.slot n) n c)) := r.dat (.cell n) _ (by show (getK n H.cells).map _ = _; rw [h]; rfl)
theorem Rep.slot {n : Int} {c : C} (r : Rep X loc H F st) (h : getK n H.cells = some c) : st.At (loc.slot n) (.idict (encM c.slots)) := r.dat (.slot n) _ (by show (getK n H.cells).map _ = _; rw [h]; rfl)

theorem Rep.put_cell {n : Int} {c c' : C} {d : AData} (r : Rep X loc H F st) (h : getK n H.cells = some c) (hs : c'.slots = c.slots) (hd : d = .sdict (cellL (loc.slot n) n c')) : Rep X loc (H.setC n c') F (st.put (loc.cell n) d) := by
  refine r.put (t := .cell n) (by show ((getK n H.cells).map _).isSome = true; rw [h]; rfl) (fun t' q => ?_) ?_
  · cases t' with
    | cells =>
      show some (AData.idict (cellsA loc (putK n c' H.cells))) = some (AData.idict (cellsA loc H.cells))
      unfold cellsA
      rw [← putK_mapv, putK_old]
      rw [getK_mapv, h]; rfl
    | cell m =>
      show (getK m (putK n c' H.cells)).map _ = (getK m H.cells).map _
      rw [getK_putK, if_neg fun e => q (by rw [e])]
    | slot m =>
      show (getK m (putK n c' H.cells)).map _ = (getK m H.cells).map _
      rw [getK_putK]
      by_cases e : m = n
      · subst e; rw [if_pos rfl, h]; show some (AData.idict (encM c'.slots)) = some (AData.idict (encM c.slots)); rw [hs]
      · rw [if_neg e]
    | _ => rfl
  · show (getK n (putK n c' H.cells)).map _ = some d
    rw [getK_putK, if_pos rfl, hd]; rfl

theorem Rep.put_root {a b : Int} {d : AData} (r : Rep X loc H F st) (hd : d = .sdict (rootL X a b)) : Rep X loc { H with last := a, freed := b } F (st.put X.root d) := by
  subst hd
  refine r.put (t := .root) rfl (fun t' q => ?_) rfl
  cases t' <;> first | rfl | exact absurd rfl q
theorem Rep.put_vars {l : List (Int × V)} {d : AData} (r : Rep X loc H F st) (hd : d = .idict (encM l)) : Rep X loc { H with vars := l } F (st.put X.vars d) := by
  subst hd
  refine r.put (t := .vars) rfl (fun t' q => ?_) rfl
  cases t' <;> first | rfl | exact absurd rfl q
theorem Rep.put_log {l : List L} {d : AData} (r : Rep X loc H F st) (hd : d = .list (l.map encL)) : Rep X loc { H with log := l } F (st.put X.log d) := by
  subst hd
  refine r.put (t := .log) rfl (fun t' q => ?_) rfl
  cases t' <;> first | rfl | exact absurd rfl q
theorem Rep.put_buffer {l : List Int} {d : AData} (r : Rep X loc H F st) (hd : d = .list (l.map AVal.int)) : Rep X loc { H with buffer := l } F (st.put X.buffer d) := by
  subst hd
  refine r.put (t := .buffer) rfl (fun t' q => ?_) rfl
  cases t' <;> first | rfl | exact absurd rfl q
theorem Rep.put_slot {n : Int} {c : C} {l : List (Int × V)} {d : AData} (r : Rep X loc H F st) (h : getK n H.cells = some c) (hd : d = .idict (encM l)) : Rep X loc (H.setC n { c with slots := l }) F (st.put (loc.slot n) d) := by
  subst hd
  refine r.put (t := .slot n) (by show ((getK n H.cells).map _).isSome = true; rw [h]; rfl) (fun t' q => ?_) ?_
  · cases t' with
    | cells =>
      show some (AData.idict (cellsA loc (putK n _ H.cells))) = some (AData.idict (cellsA loc H.cells))
      unfold cellsA
      rw [← putK_mapv, putK_old]
      rw [getK_mapv, h]; rfl
    | cell m =>
      show (getK m (putK n _ H.cells)).map _ = (getK m H.cells).map _
      rw [getK_putK]
      by_cases e : m = n
      · subst e; rw [if_pos rfl, h]; rfl
      · rw [if_neg e]
    | slot m =>
      show (getK m (putK n _ H.cells)).map _ = (getK m H.cells).map _
      rw [getK_putK, if_neg fun e => q (by rw [e])]
    | _ => rfl
  · show (getK n (putK n _ H.cells)).map _ = some _
    rw [getK_putK, if_pos rfl]; rfl

theorem At_det {st : ASt} {i : Nat} {d d' : AData} (h : st.At i d) (h' : st.At i d') : d = d' := h.2.symm.trans h'.2

/- a new cell gets its place -/
noncomputable def Loc.upd (loc : Loc) (n : Int) (a b : Nat) : Loc := { cell := fun m => if m = n then a else loc.cell m, slot := fun m => if m = n then b else loc.slot m }
theorem Rep.add_cell {n : Int} {c : C} {a b va vb : Nat} {d : AData} (r : Rep X loc H ((F.add a ⟨va, .sdict (cellL b n c)⟩).add b ⟨vb, .idict (encM c.slots)⟩) st) (hn : getK n H.cells = none) (hFa : ∀ o, ¬ F a o) (hFb : ∀ o, ¬ F b o)
    (hd : d = .idict (putK n (.inst "Cell" a) (cellsA loc H.cells))) : Rep X (loc.upd n a b) { H with cells := putK n c H.cells } F (st.put X.cells d) := by
  subst hd
  have oa := r.frame a _ (.inl (.inr ⟨rfl, rfl⟩))
  have ob := r.frame b _ (.inr ⟨rfl, rfl⟩)
  have fa := r.off a _ (.inl (.inr ⟨rfl, rfl⟩))
  have fb := r.off b _ (.inr ⟨rfl, rfl⟩)
  have hab : a ≠ b := fun e => by subst e; have := At_det oa.at ob.at; cases this
  have same : ∀ t : Tag, t ≠ .cell n → t ≠ .slot n → t.id X (loc.upd n a b) = t.id X loc := fun t h1 h2 => by
    cases t with
    | cell m => exact if_neg fun e => h1 (by rw [e])
    | slot m => exact if_neg fun e => h2 (by rw [e])
    | _ => rfl
  have cn : (Tag.cell n).id X (loc.upd n a b) = a := if_pos rfl
  have sn : (Tag.slot n).id X (loc.upd n a b) = b := if_pos rfl
  have cont : ∀ t : Tag, t ≠ .cell n → t ≠ .slot n → t ≠ .cells → content X (loc.upd n a b) { H with cells := putK n c H.cells } t = content X loc H t := fun t h1 h2 h3 => by
    cases t with
    | cells => exact absurd rfl h3
    | cell m =>
      have e : m ≠ n := fun e => h1 (by rw [e])
      show (getK m (putK n c H.cells)).map _ = (getK m H.cells).map _
      rw [getK_putK, if_neg e]
      have : (loc.upd n a b).slot m = loc.slot m := if_neg e
      rw [this]
    | slot m =>
      show (getK m (putK n c H.cells)).map _ = (getK m H.cells).map _
      rw [getK_putK, if_neg fun e => h2 (by rw [e])]
    | _ => rfl
  have live : ∀ t : Tag, t ≠ .cell n → t ≠ .slot n → (content X (loc.upd n a b) { H with cells := putK n c H.cells } t).isSome → (content X loc H t).isSome := fun t h1 h2 h => by
    by_cases q : t = .cells
    · subst q; rfl
    · rwa [cont t h1 h2 q] at h
  have hca : a ≠ X.cells := fun e => fa .cells rfl e.symm
  have hcb : b ≠ X.cells := fun e => fb .cells rfl e.symm
  refine ⟨fun t d' h => ?_, fun t t' h h' e => ?_, fun i o h => ?_, fun i o h t ht => ?_⟩
  · by_cases q1 : t = .cell n
    · subst q1
      rw [cn]
      refine At_put_ne ?_ hca
      have e : content X (loc.upd n a b) { H with cells := putK n c H.cells } (.cell n) = some (.sdict (cellL b n c)) := by
        show (getK n (putK n c H.cells)).map _ = _
        rw [getK_putK, if_pos rfl]
        have : (loc.upd n a b).slot n = b := if_pos rfl
        rw [this]; rfl
      rw [e] at h; o_facts h; exact oa.at
    · by_cases q2 : t = .slot n
      · subst q2
        rw [sn]
        refine At_put_ne ?_ hcb
        have e : content X (loc.upd n a b) { H with cells := putK n c H.cells } (.slot n) = some (.idict (encM c.slots)) := by
          show (getK n (putK n c H.cells)).map _ = _
          rw [getK_putK, if_pos rfl]; rfl
        rw [e] at h; o_facts h; exact ob.at
      · rw [same t q1 q2]
        by_cases q3 : t = .cells
        · subst q3
          have e : content X (loc.upd n a b) { H with cells := putK n c H.cells } .cells = some (.idict (putK n (.inst "Cell" a) (cellsA loc H.cells))) := by
            show some (AData.idict (cellsA (loc.upd n a b) (putK n c H.cells))) = _
            have e1 : cellsA (loc.upd n a b) H.cells = cellsA loc H.cells := by
              refine List.map_congr_left fun p hp => ?_
              have : p.1 ≠ n := fun e => by
                obtain ⟨m, cm⟩ := p
                subst e
                have key : ∀ l : List (Int × C), (m, cm) ∈ l → getK m l ≠ none := fun l => by
                  induction l with
                  | nil => intro h; o_facts h
                  | cons x l ih =>
                    obtain ⟨j, v⟩ := x
                    intro h e
                    by_cases q : j = m
                    · rw [getK, if_pos q] at e; o_facts e
                    · rw [getK, if_neg q] at e
                      rcases List.mem_cons.mp h with h | h
                      · o_facts h; exact q rfl
                      · exact ih h e
                exact key _ hp hn
              show (p.1, AVal.inst "Cell" ((loc.upd n a b).cell p.1)) = (p.1, AVal.inst "Cell" (loc.cell p.1))
              have : (loc.upd n a b).cell p.1 = loc.cell p.1 := if_neg this
              rw [this]
            have e2 : instA (loc.upd n a b) n c = .inst "Cell" a := by show AVal.inst "Cell" ((loc.upd n a b).cell n) = _; rw [show (loc.upd n a b).cell n = a from if_pos rfl]
            have e3 : cellsA (loc.upd n a b) (putK n c H.cells) = putK n (instA (loc.upd n a b) n c) (cellsA (loc.upd n a b) H.cells) := putK_mapv.symm
            rw [e3, e2, e1]
          rw [e] at h; o_facts h
          exact At_put_self (r.dat .cells _ rfl).1
        · rw [cont t q1 q2 q3] at h
          exact At_put_ne (r.dat t d' h) fun e => q3 (r.inj t .cells (by rw [h]; rfl) rfl e)
  · by_cases q1 : t = .cell n
    · subst q1
      by_cases q1' : t' = .cell n
      · exact q1'.symm
      · by_cases q2' : t' = .slot n
        · subst q2'; rw [cn, sn] at e; exact absurd e hab
        · rw [cn, same t' q1' q2'] at e
          exact absurd e.symm (fa t' (live t' q1' q2' h'))
    · by_cases q2 : t = .slot n
      · subst q2
        by_cases q1' : t' = .cell n
        · subst q1'; rw [cn, sn] at e; exact absurd e.symm hab
        · by_cases q2' : t' = .slot n
          · exact q2'.symm
          · rw [sn, same t' q1' q2'] at e
            exact absurd e.symm (fb t' (live t' q1' q2' h'))
      · by_cases q1' : t' = .cell n
        · subst q1'; rw [cn, same t q1 q2] at e; exact absurd e (fa t (live t q1 q2 h))
        · by_cases q2' : t' = .slot n
          · subst q2'; rw [sn, same t q1 q2] at e; exact absurd e (fb t (live t q1 q2 h))
          · rw [same t q1 q2, same t' q1' q2'] at e
            exact r.inj t t' (live t q1 q2 h) (live t' q1' q2' h') e
  · exact Ob_put_ne (r.frame i o (.inl (.inl h))) fun e => r.off i o (.inl (.inl h)) .cells rfl e.symm
  · by_cases q1 : t = .cell n
    · subst q1; rw [cn]; exact fun e => hFa o (e ▸ h)
    · by_cases q2 : t = .slot n
      · subst q2; rw [sn]; exact fun e => hFb o (e ▸ h)
      · rw [same t q1 q2]; exact r.off i o (.inl (.inl h)) t (live t q1 q2 ht)

theorem Rep.del_cell {n : Int} {d : AData} (r : Rep X loc H F st) (hd : d = .idict (delK n (cellsA loc H.cells))) : Rep X loc { H with cells := delK n H.cells } F (st.put X.cells d) := by
  subst hd
  have live : ∀ t : Tag, (content X loc { H with cells := delK n H.cells } t).isSome → (content X loc H t).isSome ∧ (t ≠ .cells → content X loc { H with cells := delK n H.cells } t = content X loc H t) := fun t h => by
    cases t with
    | cells => exact ⟨rfl, fun q => absurd rfl q⟩
    | cell m =>
      have h : ((getK m (delK n H.cells)).map fun c => AData.sdict (cellL (loc.slot m) m c)).isSome = true := h
      show ((getK m H.cells).map fun c => AData.sdict (cellL (loc.slot m) m c)).isSome = true ∧ (_ → (getK m (delK n H.cells)).map (fun c => AData.sdict (cellL (loc.slot m) m c)) = (getK m H.cells).map fun c => AData.sdict (cellL (loc.slot m) m c))
      rw [getK_delK] at h ⊢
      by_cases e : m = n
      · rw [if_pos e] at h; o_facts h
      · rw [if_neg e] at h ⊢; exact ⟨h, fun _ => rfl⟩
    | slot m =>
      have h : ((getK m (delK n H.cells)).map fun c => AData.idict (encM c.slots)).isSome = true := h
      show ((getK m H.cells).map fun c => AData.idict (encM c.slots)).isSome = true ∧ (_ → (getK m (delK n H.cells)).map (fun c => AData.idict (encM c.slots)) = (getK m H.cells).map fun c => AData.idict (encM c.slots))
      rw [getK_delK] at h ⊢
      by_cases e : m = n
      · rw [if_pos e] at h; o_facts h
      · rw [if_neg e] at h ⊢; exact ⟨h, fun _ => rfl⟩
    | _ => exact ⟨rfl, fun _ => rfl⟩
  refine ⟨fun t d' h => ?_, fun t1 t2 h1 h2 e => r.inj t1 t2 (live _ h1).1 (live _ h2).1 e, fun i o h => ?_, fun i o h t' ht => r.off i o h t' (live _ ht).1⟩
  · by_cases q : t = .cells
    · subst q
      have e : content X loc { H with cells := delK n H.cells } .cells = some (.idict (delK n (cellsA loc H.cells))) := by
        show some (AData.idict (cellsA loc (delK n H.cells))) = _
        unfold cellsA; rw [delK_mapv]
      rw [e] at h; o_facts h
      exact At_put_self (r.dat .cells _ rfl).1
    · have l := live t (by rw [h]; rfl)
      rw [l.2 q] at h
      exact At_put_ne (r.dat t d' h) fun e => q (r.inj t .cells l.1 rfl e)
  · exact Ob_put_ne (r.frame i o h) fun e => r.off i o h .cells rfl e.symm

/- a cell's slots give way to a new table -/
theorem Rep.new_slots {n : Int} {c : C} {b vb : Nat} {l : List (Int × V)} {d : AData} (r : Rep X loc H (F.add b ⟨vb, .idict (encM l)⟩) st) (h : getK n H.cells = some c) (hFb : ∀ o, ¬ F b o)
    (hd : d = .sdict (cellL b n c)) : Rep X { loc with slot := fun m => if m = n then b else loc.slot m } (H.setC n { c with slots := l }) F (st.put (loc.cell n) d) := by
  subst hd
  have ob := r.frame b _ (.inr ⟨rfl, rfl⟩)
  have fb := r.off b _ (.inr ⟨rfl, rfl⟩)
  have cl : (content X loc H (.cell n)).isSome := by show ((getK n H.cells).map _).isSome = true; rw [h]; rfl
  have same : ∀ t : Tag, t ≠ .slot n → t.id X { loc with slot := fun m => if m = n then b else loc.slot m } = t.id X loc := fun t h2 => by
    cases t with
    | slot m => exact if_neg fun e => h2 (by rw [e])
    | _ => rfl
  have sn : (Tag.slot n).id X { loc with slot := fun m => if m = n then b else loc.slot m } = b := if_pos rfl
  have cont : ∀ t : Tag, t ≠ .cell n → t ≠ .slot n → content X { loc with slot := fun m => if m = n then b else loc.slot m } (H.setC n { c with slots := l }) t = content X loc H t := fun t h1 h2 => by
    cases t with
    | cells =>
      show some (AData.idict (cellsA loc (putK n _ H.cells))) = some (AData.idict (cellsA loc H.cells))
      unfold cellsA
      rw [← putK_mapv, putK_old]
      rw [getK_mapv, h]; rfl
    | cell m =>
      have e : m ≠ n := fun e => h1 (by rw [e])
      show (getK m (putK n _ H.cells)).map (fun c => AData.sdict (cellL (if m = n then b else loc.slot m) m c)) = (getK m H.cells).map _
      rw [getK_putK, if_neg e, if_neg e]
    | slot m =>
      show (getK m (putK n _ H.cells)).map _ = (getK m H.cells).map _
      rw [getK_putK, if_neg fun e => h2 (by rw [e])]
    | _ => rfl
  have e1 : content X { loc with slot := fun m => if m = n then b else loc.slot m } (H.setC n { c with slots := l }) (.cell n) = some (.sdict (cellL b n c)) := by
    show (getK n (putK n _ H.cells)).map (fun c => AData.sdict (cellL (if n = n then b else loc.slot n) n c)) = _
    rw [getK_putK, if_pos rfl, if_pos rfl]; rfl
  have e2 : content X { loc with slot := fun m => if m = n then b else loc.slot m } (H.setC n { c with slots := l }) (.slot n) = some (.idict (encM l)) := by
    show (getK n (putK n _ H.cells)).map _ = _
    rw [getK_putK, if_pos rfl]; rfl
  have live : ∀ t : Tag, t ≠ .slot n → (content X { loc with slot := fun m => if m = n then b else loc.slot m } (H.setC n { c with slots := l }) t).isSome → (content X loc H t).isSome := fun t h2 h => by
    by_cases q : t = .cell n
    · subst q; exact cl
    · rwa [cont t q h2] at h
  have hcb : b ≠ loc.cell n := fun e => fb (.cell n) cl e.symm
  refine ⟨fun t d' h => ?_, fun t t' h h' e => ?_, fun i o h => ?_, fun i o h t ht => ?_⟩
  · by_cases q1 : t = .slot n
    · subst q1
      rw [sn]; rw [e2] at h; o_facts h
      exact At_put_ne ob.at hcb
    · rw [same t q1]
      by_cases q2 : t = .cell n
      · subst q2
        rw [e1] at h; o_facts h
        obtain ⟨d0, hd0⟩ := Option.isSome_iff_exists.mp cl
        exact At_put_self (r.dat (.cell n) _ hd0).1
      · rw [cont t q2 q1] at h
        exact At_put_ne (r.dat t d' h) fun e => q2 (r.inj t (.cell n) (by rw [h]; rfl) cl e)
  · by_cases q1 : t = .slot n
    · subst q1
      by_cases q1' : t' = .slot n
      · exact q1'.symm
      · rw [sn, same t' q1'] at e; exact absurd e.symm (fb t' (live t' q1' h'))
    · by_cases q1' : t' = .slot n
      · subst q1'; rw [sn, same t q1] at e; exact absurd e (fb t (live t q1 h))
      · rw [same t q1, same t' q1'] at e
        exact r.inj t t' (live t q1 h) (live t' q1' h') e
  · exact Ob_put_ne (r.frame i o (.inl h)) fun e => r.off i o (.inl h) (.cell n) cl e.symm
  · by_cases q1 : t = .slot n
    · subst q1; rw [sn]; exact fun e => hFb o (e ▸ h)
    · rw [same t q1]; exact r.off i o (.inl h) t (live t q1 ht)
end
end
/-! P3 -/
section
set_option maxRecDepth 100000
set_option autoImplicit false

/-! values -/
noncomputable def V.isCell : V → Bool
  | .cell _ => true
  | .int _ => false
noncomputable def V.num : V → Int
  | .cell n => n
  | .int n => n
noncomputable def V.tag : V → Str
  | .cell _ => "cell"
  | .int _ => "int"
noncomputable def HS.cellOf (H : HS) : V → Option C
  | .cell n => getK n H.cells
  | .int _ => none
noncomputable def HS.isRef (H : HS) (v : V) : Bool := match H.cellOf v with
  | some c => decide (c.sort = .ref)
  | none => false

theorem isRef_some {H : HS} {v : V} {c : C} (h : H.cellOf v = some c) : H.isRef v = decide (c.sort = .ref) := by unfold HS.isRef; rw [h]
theorem isRef_none {H : HS} {v : V} (h : H.cellOf v = none) : H.isRef v = false := by unfold HS.isRef; rw [h]
theorem cellOf_get {H : HS} {v : V} {c : C} (h : H.cellOf v = some c) : getK v.num H.cells = some c := by
  cases v
  · o_facts h
  · exact h

section
variable {st : ASt} {B : Bool → ASt → Prop}
theorem str_beq (x y : Str) : PyData.eqv (.str x) (.str y) = decide (x = y) := by rw [PyData.eqv]; rfl
theorem int_beq (x y : Int) : PyData.eqv (.int x) (.int y) = decide (x = y) := by rw [PyData.eqv]; rfl
theorem aeq_of {a b : AVal} {x y : PyData} {c : Bool} (ha : dataOf st 8 a = some x) (hb : dataOf st 8 b = some y) (hx : x.canLay0 = true) (hy : y.canLay0 = true) (hc : PyData.eqv x y = c) (q : B c st) : wp (aeq a b) st B :=
  ⟨x, y, ha, hb, by rw [hx, hy]; rfl, by rw [hc]; exact q⟩
theorem canLay_str {a : Str} (h : PyData.strOk a = true) : (PyData.str a).canLay0 = true := by rw [PyData.canLay0]; exact h
theorem aeq_int {a b : Int} (q : B (decide (a = b)) st) : wp (aeq (.int a) (.int b)) st B := aeq_of rfl rfl (by rw [PyData.canLay0]) (by rw [PyData.canLay0]) (int_beq a b) q
theorem aeq_str {a b : Str} (ha : PyData.strOk a = true) (hb : PyData.strOk b = true) (q : B (decide (a = b)) st) : wp (aeq (.str a) (.str b)) st B := aeq_of rfl rfl (canLay_str ha) (canLay_str hb) (str_beq a b) q
theorem aeq_lit {a b : Str} {c : Bool} (hx : (PyData.strOk a && PyData.strOk b) = true) (hc : decide (a = b) = c) (q : B c st) : wp (aeq (.str a) (.str b)) st B :=
  aeq_str (Bool.and_eq_true_iff.mp hx).1 (Bool.and_eq_true_iff.mp hx).2 (by rw [hc]; exact q)
theorem encK_ok (a : K) : PyData.strOk (encK a) = true := by cases a <;> decide +kernel
theorem encK_eq (a b : K) : decide (encK a = encK b) = decide (a = b) := by cases a <;> cases b <;> decide +kernel
theorem aeq_sort {a b : K} (q : B (decide (a = b)) st) : wp (aeq (.str (encK a)) (.str (encK b))) st B := aeq_str (encK_ok a) (encK_ok b) (by rw [encK_eq]; exact q)
theorem aeq_ref {a : K} (q : B (decide (a = .ref)) st) : wp (aeq (.str (encK a)) (.str "ref")) st B := aeq_sort (b := .ref) q
theorem aeq_object {a : K} (q : B (decide (a = .object)) st) : wp (aeq (.str (encK a)) (.str "object")) st B := aeq_sort (b := .object) q
theorem V.tag_ok (v : V) : PyData.strOk v.tag = true := by
  cases v
  · show PyData.strOk ("int" : Str) = true; decide +kernel
  · show PyData.strOk ("cell" : Str) = true; decide +kernel
theorem aeq_tagc {v : V} (q : B v.isCell st) : wp (aeq (.str v.tag) (.str "cell")) st B :=
  aeq_str (V.tag_ok v) (by decide +kernel) (by cases v <;> exact q)
theorem aeq_tagi {v : V} (q : B (!v.isCell) st) : wp (aeq (.str v.tag) (.str "int")) st B :=
  aeq_str (V.tag_ok v) (by decide +kernel) (by cases v <;> exact q)
noncomputable def V.dat : V → PyData
  | .int n => .tuple [.str "int", .int n]
  | .cell n => .tuple [.str "cell", .int n]
theorem V.dat_ok (v : V) : v.dat.canLay0 = true := by
  cases v <;> · simp only [V.dat, PyData.canLay0, PyData.canLayAll0]; decide +kernel
theorem V.eq_of {a b : Int} (f : Int → V) (hf : ∀ {a b}, f a = f b → a = b) : (a == b) = decide (f a = f b) := by
  by_cases q : a = b
  · subst q; rw [beq_self_eq_true, decide_eq_true rfl]
  · rw [beq_eq_false_iff_ne.mpr q, decide_eq_false fun h => q (hf h)]
theorem V.dat_eq (v w : V) : PyData.eqv v.dat w.dat = decide (v = w) := by
  cases v <;> cases w <;> simp only [V.dat, PyData.eqv, PyData.eqvAll, Bool.and_true]
  · rw [show (("int" : Str) == ("int" : Str)) = true by decide +kernel]
    exact V.eq_of V.int fun h => by cases h; rfl
  · rw [show (("int" : Str) == ("cell" : Str)) = false by decide +kernel]
    exact (decide_eq_false fun h => by cases h).symm
  · rw [show (("cell" : Str) == ("int" : Str)) = false by decide +kernel]
    exact (decide_eq_false fun h => by cases h).symm
  · rw [show (("cell" : Str) == ("cell" : Str)) = true by decide +kernel]
    exact V.eq_of V.cell fun h => by cases h; rfl
theorem dataOf_enc (n : Nat) (v : V) : dataOf st (n + 2) (enc v) = some v.dat := by cases v <;> rfl
theorem aeq_enc {v w : V} (q : B (decide (v = w)) st) : wp (aeq (enc v) (enc w)) st B := aeq_of (dataOf_enc 6 v) (dataOf_enc 6 w) v.dat_ok w.dat_ok (V.dat_eq v w) q
end

/- names with their values are kept, new ones may have come -/
structure Sub (e e' : AEnv) : Prop where
  sc : e.sc = e'.sc
  vars : ∀ x v, e.vars.lookup x = some v → e'.vars.lookup x = some v
theorem lookup_setv {x y : Str} {v : AVal} : ∀ {l : List (Str × AVal)}, (setv x v l).lookup y = if y = x then some v else l.lookup y
  | [] => by
    show List.lookup y [(x, v)] = _
    rw [List.lookup_cons]
    by_cases q : y = x
    · subst q; simp
    · rw [if_neg q]
      have : (y == x) = false := by simpa using q
      rw [this]
  | (z, w) :: r => by
    show List.lookup y (if z == x then (z, v) :: r else (z, w) :: setv x v r) = _
    by_cases q : z = x
    · subst q
      rw [if_pos (by simp), List.lookup_cons]
      by_cases q2 : y = z
      · subst q2; simp
      · have : (y == z) = false := by simpa using q2
        rw [this, if_neg q2, List.lookup_cons, this]
    · rw [if_neg (by simpa using q), List.lookup_cons, lookup_setv, List.lookup_cons]
      by_cases q2 : y = z
      · subst q2; simp [q]
      · have : (y == z) = false := by simpa using q2
        rw [this]
theorem Sub.refl {e : AEnv} : Sub e e := ⟨rfl, fun _ _ h => h⟩
theorem Sub.set {e e' : AEnv} {x : Str} {v : AVal} (hx : e.vars.lookup x = none) (h : Sub e e') : Sub e (e'.upd x v) :=
  ⟨h.sc, fun y w q => by
    show (setv x v e'.vars).lookup y = _
    rw [lookup_setv]
    by_cases e : y = x
    · subst e; rw [hx] at q; cases q
    · rw [if_neg e]; exact h.vars y w q⟩

/-! loops: K is what the loop asks behind a turn -/
section
variable {n : Nat} {st : ASt} {Q : AVal → ASt → Prop} {B : Bool → ASt → Prop} {U : Unit → ASt → Prop} {r : Rec} {src : Src} {ver : Nat} {t elt : Expr} {ifs : List Expr} {body : List Stmt} {P : Out → ASt → Prop}
theorem forLoop_inv (I : List AVal → AEnv → ASt → Prop)
  (step : ∀ v vs env st, I (v :: vs) env st → src.watch st = ver ∧ ∀ K : Out → ASt → Prop, (∀ e env s, Sub e env → I vs e s → K (.next env) s) → (∀ v s, P (.ret v) s → K (.ret v) s) → assignT r t env v st (thn (exs r body) K))
  (fin : ∀ env st, I [] env st → src.watch st = ver ∧ P (.next env) st) : ∀ {items : List AVal} {env : AEnv} {st : ASt}, I items env st → forLoop r src ver t body items env st P
  | [], env, st, h => fin env st h
  | v :: vs, env, st, h => ⟨(step v vs env st h).1, (step v vs env st h).2 (thn (thenO (weak (forLoop r src ver t body vs))) P) (fun e _ _ hs hI => ⟨e, hs.sc, hs.vars, forLoop_inv I step fin hI⟩) fun _ _ h => h⟩
theorem forLoop_at {env : AEnv} (J : List AVal → ASt → Prop) {items : List AVal} (h0 : J items st)
  (step : ∀ v vs s, J (v :: vs) s → src.watch s = ver ∧ ∀ K : Out → ASt → Prop, (∀ env' s, Sub env env' → J vs s → K (.next env') s) → (∀ v s, P (.ret v) s → K (.ret v) s) → assignT r t env v s (thn (exs r body) K))
  (fin : ∀ s, J [] s → src.watch s = ver ∧ P (.next env) s) : wp (forLoop r src ver t body items env) st P :=
  .mk <| forLoop_inv (fun vs e s => e = env ∧ J vs s) (fun v vs e s h => by obtain ⟨rfl, h⟩ := h; exact ⟨(step v vs s h).1, fun K hn hr => (step v vs s h).2 K (fun env' s hs hJ => hn e env' s hs ⟨rfl, hJ⟩) hr⟩)
    (fun e s h => by obtain ⟨rfl, h⟩ := h; exact fin s h) ⟨rfl, h0⟩
theorem forLoop_nil {env : AEnv} (h : src.watch st = ver) (q : P (.next env) st) : wp (forLoop r src ver t body [] env) st P := ⟨h, q⟩
theorem compLoop_nil {Q : List AVal → ASt → Prop} {env : AEnv} (h : src.watch st = ver) (q : Q [] st) : wp (compLoop r src ver t elt ifs [] env) st Q := ⟨h, q⟩
theorem compLoop_at {Q : List AVal → ASt → Prop} {env : AEnv} (g : AVal → Option AVal) (hw : src.watch st = ver) {items : List AVal}
  (step : ∀ v ∈ items, ∀ (KY : AEnv → AVal → ASt → Prop) (KN : AEnv → ASt → Prop), (∀ e y, Sub env e → g v = some y → KY e y st) → (∀ e, Sub env e → g v = none → KN e st) → assignT r t env v st fun e s => tests r e ifs s fun b s => BrP b (r.ev elt e s (KY e)) (KN e s))
  (q : Q (items.filterMap g) st) : wp (compLoop r src ver t elt ifs items env) st Q := by
  induction items generalizing Q with
  | nil => exact ⟨hw, q⟩
  | cons v vs ih =>
    have ih := fun {Q} => ih (Q := Q) fun w hw => step w (.tail _ hw)
    refine ⟨hw, step v (.head _) (fun e y s => weak (compLoop r src ver t elt ifs vs) e s fun ys s => Q (y :: ys) s) (fun e s => weak (compLoop r src ver t elt ifs vs) e s Q) (fun e y hs hg => ?_) fun e hs hg => ?_⟩
    · rw [List.filterMap_cons, hg] at q
      exact ⟨env, hs.sc, hs.vars, (ih q).out⟩
    · rw [List.filterMap_cons, hg] at q
      exact ⟨env, hs.sc, hs.vars, (ih q).out⟩
theorem while_at {env : AEnv} {b : List Stmt} (I : Nat → AEnv → ASt → Prop) {m : Nat} (h0 : I m env st)
  (go : ∀ m env st, I (m + 1) env st → ∀ K : Out → ASt → Prop, (∀ e env s, Sub e env → I m e s → K (.next env) s) → (∀ v s, P (.ret v) s → K (.ret v) s) → r.ev t env st fun v s => truth v s fun c s => BrP c (exs r b env s K) (P (.next env) s))
  (stop : ∀ env st, I 0 env st → ∀ G : ASt → Prop, r.ev t env st fun v s => truth v s fun c s => BrP c (G s) (P (.next env) s)) : wp (whileM r t b env) st P := by
  refine ⟨⟨m + 1, ?_⟩⟩
  induction m generalizing env st with
  | zero => exact stop env st h0 _
  | succ m ih => exact go m env st h0 (thn (thenO (weak (whileN r t b (m + 1)))) P) (fun e _ _ hs hI => ⟨e, hs.sc, hs.vars, ih hI⟩) fun _ _ h => h

theorem while_fix {env : AEnv} {b : List Stmt} (J : Nat → ASt → Prop) {m : Nat} (h0 : J m st)
  (go : ∀ m s, J (m + 1) s → ∀ K : Out → ASt → Prop, (∀ e s, Sub env e → J m s → K (.next e) s) → (∀ v s, P (.ret v) s → K (.ret v) s) → r.ev t env s fun v s => truth v s fun c s => BrP c (exs r b env s K) (P (.next env) s))
  (stop : ∀ s, J 0 s → ∀ G : ASt → Prop, r.ev t env s fun v s => truth v s fun c s => BrP c (G s) (P (.next env) s)) : wp (whileM r t b env) st P :=
  while_at (fun m e s => e = env ∧ J m s) ⟨rfl, h0⟩ (fun m e s h K hn hr => by obtain ⟨rfl, h⟩ := h; exact go m s h K (fun e' s hs hJ => hn e e' s hs ⟨rfl, hJ⟩) hr) fun e s h G => by obtain ⟨rfl, h⟩ := h; exact stop s h G

/-! sources -/
variable {S : Src → ASt → Prop} {L : List AVal → ASt → Prop}
theorem loi_l {id : Nat} {l : List AVal} (h : st.At id (.list l)) (q : S (.lst id) st) : wp (lstOrKeys id) st S := by with_unfolding_all exact ⟨.inl ⟨l, h, q⟩⟩
theorem loi_k {id : Nat} {l : List (Int × AVal)} (h : st.At id (.idict l)) (q : S (.keys id) st) : wp (lstOrKeys id) st S := by with_unfolding_all exact ⟨.inr ⟨l, h, q⟩⟩
theorem its_keys {id : Nat} {l : List (Int × AVal)} (h : st.At id (.idict l)) (q : L (l.map fun p => .int p.1) st) : wp (srcItems (.keys id)) st L := by with_unfolding_all exact ⟨l, h, q⟩
theorem its_values {id : Nat} {l : List (Int × AVal)} (h : st.At id (.idict l)) (q : L (l.map fun p => p.2) st) : wp (srcItems (.values id)) st L := by with_unfolding_all exact ⟨l, h, q⟩
theorem its_items {id : Nat} {l : List (Int × AVal)} (h : st.At id (.idict l)) (q : L (l.map fun p => .tup [.int p.1, p.2]) st) : wp (srcItems (.items id)) st L := by with_unfolding_all exact ⟨l, h, q⟩
theorem its_lst {id : Nat} {l : List AVal} (h : st.At id (.list l)) (q : L l st) : wp (srcItems (.lst id)) st L := by with_unfolding_all exact ⟨l, h, q⟩
theorem its_rev {id : Nat} {l : List AVal} (h : st.At id (.list l)) (q : L l.reverse st) : wp (srcItems (.rev id)) st L := by with_unfolding_all exact ⟨l, h, q⟩
theorem its_enum {id : Nat} {l : List AVal} (h : st.At id (.list l)) (q : L (l.zipIdx.map fun p => .tup [.int (p.2 : Int), p.1]) st) : wp (srcItems (.enum id)) st L := by with_unfolding_all exact ⟨l, h, q⟩
theorem its_range {a b : Int} (h : (0 ≤ a ∧ a ≤ 1000) ∧ -1000 ≤ b ∧ b ≤ 1000) (q : L ((List.range (b - a).toNat).map fun (k : Nat) => .int (a + (k : Int))) st) : wp (srcItems (.range a b)) st L := by with_unfolding_all exact ⟨h, q⟩
theorem its_z {src : Src} (h : wp (srcItems src) st fun l s => l.length ≤ 1000000 ∧ L l s) : wp (srcItemsZ src) st L := by with_unfolding_all exact ⟨h.out⟩

/-! typed access -/
theorem item_v0 {v : V} (q : Q (.str v.tag) st) : wp (itemGet (enc v) (.int 0)) st Q := by
  cases v <;> exact item_tup (by decide) rfl q
theorem item_v1c {n : Int} (q : Q (.int n) st) : wp (itemGet (enc (.cell n)) (.int 1)) st Q := item_tup (by decide) rfl q
theorem item_v1 {v : V} (q : Q (.int v.num) st) : wp (itemGet (enc v) (.int 1)) st Q := by
  cases v <;> exact item_tup (by decide) rfl q
theorem getK_encM {k : Int} {l : List (Int × V)} : getK k (encM l) = (getK k l).map enc := getK_mapv (f := encV)
theorem putK_encM {k : Int} {v : V} {l : List (Int × V)} : putK k (enc v) (encM l) = encM (putK k v l) := putK_mapv (f := encV)
theorem delK_encM {k : Int} {l : List (Int × V)} : delK k (encM l) = encM (delK k l) := delK_mapv (f := encV)
theorem len_encM {l : List (Int × V)} : (encM l).length = l.length := List.length_map _
theorem item_m {l : List (Int × V)} {id : Nat} {k : Int} {v : V} (hl : st.At id (.idict (encM l))) (hv : getK k l = some v) (q : Q (enc v) st) : wp (itemGet (.obj id) (.int k)) st Q :=
  item_idict hl (by rw [getK_encM, hv]; rfl) q
theorem in_m {l : List (Int × V)} {id : Nat} {k : Int} (hl : st.At id (.idict (encM l))) (q : B (getK k l).isSome st) : wp (inD id k) st B :=
  in_idict hl (by rw [getK_encM, Option.isSome_map]; exact q)
theorem get_mv {l : List (Int × V)} {id : Nat} {k : Int} {d : V} (hl : st.At id (.idict (encM l))) (q : Q (enc ((getK k l).getD d)) st) : wp (methI id "get" [.int k, enc d]) st Q :=
  m_get hl (by
    have : (getK k (encM l)).getD (enc d) = enc ((getK k l).getD d) := by
      rw [getK_encM]; cases getK k l <;> rfl
    rw [this]; exact q)
theorem get_m {l : List (Int × V)} {id : Nat} {k i : Int} (hl : st.At id (.idict (encM l))) (q : Q (enc ((getK k l).getD (.int i))) st) : wp (methI id "get" [.int k, .tup [.str "int", .int i]]) st Q :=
  get_mv (d := .int i) hl q
end

/-! typed writes on the heap -/
section
variable {X : HIds} {loc : Loc} {H : HS} {F : Frm} {st : ASt} {U : Unit → ASt → Prop} {Q : AVal → ASt → Prop} {n : Int} {c : C}
theorem item_cells (r : Rep X loc H F st) (h : getK n H.cells = some c) (q : Q (.inst "Cell" (loc.cell n)) st) : wp (itemGet (.obj X.cells) (.int n)) st Q :=
  item_idict r.cells (by unfold cellsA; rw [getK_mapv, h]; rfl) q
theorem get_cells_s (r : Rep X loc H F st) (h : getK n H.cells = some c) (q : Q (.inst "Cell" (loc.cell n)) st) : wp (methI X.cells "get" [.int n]) st Q :=
  m_get1 r.cells (by unfold cellsA; rw [getK_mapv, h]; exact q)
theorem get_cells_n (r : Rep X loc H F st) (h : getK n H.cells = none) (q : Q .none st) : wp (methI X.cells "get" [.int n]) st Q :=
  m_get1 r.cells (by unfold cellsA; rw [getK_mapv, h]; exact q)
theorem set_count {k : Int} (r : Rep X loc H F st) (h : getK n H.cells = some c) (q : ∀ st', Rep X loc (H.setC n { c with count := k }) F st' → (∀ m, (getK m H.cells).isSome → st'.get (loc.slot m) = st.get (loc.slot m)) → U () st') : wp (attrSet (.inst "Cell" (loc.cell n)) "count" (.int k)) st U :=
  attr_set rfl (r.cell h) (by show (10 : Nat) ≤ 100; decide) (q _ (r.put_cell h rfl rfl) fun m hm => by
    refine if_neg fun e => ?_
    have := r.inj (.slot m) (.cell n) (by show ((getK m H.cells).map _).isSome = true; rw [Option.isSome_map]; exact hm) (by show ((getK n H.cells).map _).isSome = true; rw [h]; rfl) e
    cases this)
theorem set_colour {k : Str} (r : Rep X loc H F st) (h : getK n H.cells = some c) (q : ∀ st', Rep X loc (H.setC n { c with colour := k }) F st' → U () st') : wp (attrSet (.inst "Cell" (loc.cell n)) "colour" (.str k)) st U :=
  attr_set rfl (r.cell h) (by show (10 : Nat) ≤ 100; decide) (q _ (r.put_cell h rfl rfl))
theorem set_buf {k : Bool} (r : Rep X loc H F st) (h : getK n H.cells = some c) (q : ∀ st', Rep X loc (H.setC n { c with buf := k }) F st' → U () st') : wp (attrSet (.inst "Cell" (loc.cell n)) "is_buffered" (.bool k)) st U :=
  attr_set rfl (r.cell h) (by show (10 : Nat) ≤ 100; decide) (q _ (r.put_cell h rfl rfl))
theorem set_hasD {k : Bool} (r : Rep X loc H F st) (h : getK n H.cells = some c) (q : ∀ st', Rep X loc (H.setC n { c with hasD := k }) F st' → U () st') : wp (attrSet (.inst "Cell" (loc.cell n)) "has_destructor" (.bool k)) st U :=
  attr_set rfl (r.cell h) (by show (10 : Nat) ≤ 100; decide) (q _ (r.put_cell h rfl rfl))
theorem set_isD {k : Bool} (r : Rep X loc H F st) (h : getK n H.cells = some c) (q : ∀ st', Rep X loc (H.setC n { c with isD := k }) F st' → U () st') : wp (attrSet (.inst "Cell" (loc.cell n)) "is_destructed" (.bool k)) st U :=
  attr_set rfl (r.cell h) (by show (10 : Nat) ≤ 100; decide) (q _ (r.put_cell h rfl rfl))
theorem set_fr {k : Bool} (r : Rep X loc H F st) (h : getK n H.cells = some c) (q : ∀ st', Rep X loc (H.setC n { c with fr := k }) F st' → U () st') : wp (attrSet (.inst "Cell" (loc.cell n)) "is_freed" (.bool k)) st U :=
  attr_set rfl (r.cell h) (by show (10 : Nat) ≤ 100; decide) (q _ (r.put_cell h rfl rfl))
theorem set_weak (r : Rep X loc H F st) (h : getK n H.cells = some c) (q : ∀ st', Rep X loc (H.setC n c) F st' → U () st') : wp (attrSet (.inst "Cell" (loc.cell n)) "weak" .none) st U :=
  attr_set rfl (r.cell h) (by show (10 : Nat) ≤ 100; decide) (q _ (r.put_cell h rfl rfl))
theorem set_last {k : Int} (r : Rep X loc H F st) (q : ∀ st', Rep X loc { H with last := k } F st' → U () st') : wp (attrSet (.inst "Counted" X.root) "last" (.int k)) st U :=
  attr_set rfl r.root (by show (9 : Nat) ≤ 100; decide) (q _ (r.put_root (a := k) (b := H.freed) rfl))
theorem set_freed {k : Int} (r : Rep X loc H F st) (q : ∀ st', Rep X loc { H with freed := k } F st' → U () st') : wp (attrSet (.inst "Counted" X.root) "freed" (.int k)) st U :=
  attr_set rfl r.root (by show (9 : Nat) ≤ 100; decide) (q _ (r.put_root (a := H.last) (b := k) rfl))
theorem log_append {l : L} (r : Rep X loc H F st) (hz : H.log.length ≤ 1000000) (q : ∀ st', Rep X loc { H with log := H.log ++ [l] } F st' → Q .none st') : wp (methL X.log "append" [encL l]) st Q :=
  m_append r.log (by rw [List.length_map]; exact hz) (q _ (r.put_log (by rw [List.map_append]; rfl)))
theorem buf_append {m : Int} (r : Rep X loc H F st) (hz : H.buffer.length ≤ 1000000) (q : ∀ st', Rep X loc { H with buffer := H.buffer ++ [m] } F st' → Q .none st') : wp (methL X.buffer "append" [.int m]) st Q :=
  m_append r.buffer (by rw [List.length_map]; exact hz) (q _ (r.put_buffer (by rw [List.map_append]; rfl)))
theorem buf_remove {m : Int} (r : Rep X loc H F st) (hm : m ∈ H.buffer) (hz : H.buffer.length ≤ 1000000) (q : ∀ st', Rep X loc { H with buffer := H.buffer.erase m } F st' → Q .none st') : wp (methL X.buffer "remove" [.int m]) st Q := by
  have e : ∀ l : List Int, (l.map AVal.int).eraseP (eqIntA m) = (l.erase m).map AVal.int := fun l => by
    induction l with
    | nil => rfl
    | cons a l ih =>
      rw [List.map_cons, List.eraseP_cons, List.erase_cons]
      show (bif (a == m) then _ else _) = _
      cases q : (a == m)
      · show _ :: _ = _; rw [ih]; rfl
      · rfl
  refine m_remove r.buffer ?_ (by rw [e]; exact q _ (r.put_buffer rfl))
  rw [List.length_map, decide_eq_true hz, Bool.and_true, Bool.and_eq_true]
  refine ⟨List.all_eq_true.mpr fun x hx => ?_, List.any_eq_true.mpr ⟨.int m, List.mem_map.mpr ⟨m, hm, rfl⟩, by show (m == m) = true; simp⟩⟩
  refine e1a2 (List.mem_map.mp hx) fun i _ e2_ => ?_; subst e2_; rfl
theorem set_vars {k : Int} {v : V} (r : Rep X loc H F st) (hz : H.vars.length ≤ 1000000) (q : ∀ st', Rep X loc { H with vars := putK k v H.vars } F st' → U () st') : wp (itemSet (.obj X.vars) (.int k) (enc v)) st U :=
  set_idict r.vars (by rw [len_encM]; exact hz) (q _ (r.put_vars (by rw [putK_encM])))
theorem set_slot {k : Int} {v : V} (r : Rep X loc H F st) (h : getK n H.cells = some c) (hz : c.slots.length ≤ 1000000) (q : ∀ st', Rep X loc (H.setC n { c with slots := putK k v c.slots }) F st' → (∀ m, m ≠ n → (getK m H.cells).isSome → st'.get (loc.slot m) = st.get (loc.slot m)) → U () st') : wp (itemSet (.obj (loc.slot n)) (.int k) (enc v)) st U :=
  set_idict (r.slot h) (by rw [len_encM]; exact hz) (q _ (r.put_slot h (by rw [putK_encM])) fun m hm hs => by
    refine if_neg fun e => ?_
    have := r.inj (.slot m) (.slot n) (by show ((getK m H.cells).map _).isSome = true; rw [Option.isSome_map]; exact hs) (by show ((getK n H.cells).map _).isSome = true; rw [h]; rfl) e
    cases this; exact hm rfl)
theorem new_d {Q : Nat → ASt → Prop} {d : AData} (r : Rep X loc H F st) (q : ∀ id st', Rep X loc H (F.add id ⟨0, d⟩) st' → (∀ o, ¬ F id o) → st' = st.new d → Q id st') : newD d st Q :=
  wp_newD (q _ _ r.new (fun o h => Nat.lt_irrefl _ (r.frame _ o h).1) rfl)
theorem wp_new {d : AData} (r : Rep X loc H F st) (q : ∀ id st', Rep X loc H (F.add id ⟨0, d⟩) st' → (∀ o, ¬ F id o) → st' = st.new d → Q (.obj id) st') : wp (newO d) st Q := ⟨new_d r q⟩
theorem mk_new (r : Rep X loc H F st) (q : ∀ id st', Rep X loc H (F.add id ⟨0, .idict []⟩) st' → (∀ o, ¬ F id o) → st' = st.new (.idict []) → Q (.obj id) st') : wp (mkI []) st Q := by with_unfolding_all exact ⟨[], rfl, rfl, (wp_new r q).out⟩
/- a temporary gets new data -/
theorem Rep.put_tmp {i : Nat} {o : AObj} {d : AData} (r : Rep X loc H (F.add i o) st) (hF : ∀ o, ¬ F i o) : Rep X loc H (F.add i ⟨o.ver + 1, d⟩) (st.put i d) := by
  have oi := r.frame i o (.inr ⟨rfl, rfl⟩)
  refine ⟨fun t d' h => At_put_ne (r.dat t d' h) (r.off i o (.inr ⟨rfl, rfl⟩) t (by rw [h]; rfl)), r.inj, fun j p h => ?_, fun j p h t ht => ?_⟩
  · rcases h with h | ⟨rfl, rfl⟩
    · exact Ob_put_ne (r.frame j p (.inl h)) fun e => hF p (e ▸ h)
    · exact ⟨oi.1, by show (if j = j then (⟨_, d⟩ : AObj) else _) = _; rw [if_pos rfl, oi.2]⟩
  · rcases h with h | ⟨rfl, rfl⟩
    · exact r.off j p (.inl h) t ht
    · exact r.off j o (.inr ⟨rfl, rfl⟩) t ht
end

inductive Pl where
  | vars | slots (n : Int)
noncomputable def HS.pl (H : HS) : Pl → Option (List (Int × V))
  | .vars => some H.vars
  | .slots n => (getK n H.cells).map (·.slots)
noncomputable def HS.setPl (H : HS) (p : Pl) (l : List (Int × V)) : HS := match p with
  | .vars => { H with vars := l }
  | .slots n => match getK n H.cells with
    | some c => H.setC n { c with slots := l }
    | none => H
noncomputable def Pl.id (X : HIds) (loc : Loc) : Pl → Nat
  | .vars => X.vars
  | .slots n => loc.slot n
theorem Rep.pl {X : HIds} {loc : Loc} {H : HS} {F : Frm} {st : ASt} {p : Pl} {l : List (Int × V)} (r : Rep X loc H F st) (h : H.pl p = some l) : st.At (p.id X loc) (.idict (encM l)) := by
  cases p with
  | vars => o_facts h; exact r.vars
  | slots n =>
    have h : (getK n H.cells).map (·.slots) = some l := h
    cases e : getK n H.cells with
    | none => rw [e] at h; o_facts h
    | some c => rw [e] at h; o_facts h; exact r.slot e
theorem Rep.put_pl {X : HIds} {loc : Loc} {H : HS} {F : Frm} {st : ASt} {p : Pl} {l l' : List (Int × V)} (r : Rep X loc H F st) (h : H.pl p = some l) : Rep X loc (H.setPl p l') F (st.put (p.id X loc) (.idict (encM l'))) := by
  cases p with
  | vars => exact r.put_vars rfl
  | slots n =>
    have h : (getK n H.cells).map (·.slots) = some l := h
    cases e : getK n H.cells with
    | none => rw [e] at h; o_facts h
    | some c =>
      have := r.put_slot (l := l') e rfl
      show Rep X loc (match getK n H.cells with | some c => H.setC n { c with slots := l' } | none => H) F _
      rw [e]; exact this

section
variable {X : HIds} {loc : Loc} {H H' : HS} {F : Frm} {st : ASt} {n : Nat} {v w : V} {c : C} {Q : AVal → ASt → Prop} {U : Unit → ASt → Prop} {p : Pl} {k : Int}

theorem item_pl {l : List (Int × V)} (r : Rep X loc H F st) (h : H.pl p = some l) (hv : getK k l = some v) (q : Q (enc v) st) : wp (itemGet (.obj (p.id X loc)) (.int k)) st Q := item_m (r.pl h) hv q
theorem in_pl {B : Bool → ASt → Prop} {l : List (Int × V)} (r : Rep X loc H F st) (h : H.pl p = some l) (q : B (getK k l).isSome st) : wp (inD (p.id X loc) k) st B := in_m (r.pl h) q
theorem set_pl {l : List (Int × V)} (r : Rep X loc H F st) (h : H.pl p = some l) (hz : l.length ≤ 1000000) (q : ∀ st', Rep X loc (H.setPl p (putK k v l)) F st' → U () st') : wp (itemSet (.obj (p.id X loc)) (.int k) (enc v)) st U :=
  set_idict (r.pl h) (by rw [len_encM]; exact hz) (by rw [putK_encM]; exact q _ (r.put_pl h))
theorem pop_pl {l : List (Int × V)} (r : Rep X loc H F st) (h : H.pl p = some l) (hv : getK k l = some v) (hz : l.length ≤ 1000000) (q : ∀ st', Rep X loc (H.setPl p (delK k l)) F st' → Q (enc v) st') : wp (methI (p.id X loc) "pop" [.int k]) st Q :=
  m_popk (r.pl h) (by rw [getK_encM, hv]; rfl) (by rw [len_encM]; exact hz) (by rw [delK_encM]; exact q _ (r.put_pl h))

end
theorem Rep.top {X : HIds} {loc : Loc} {H : HS} {F : Frm} {st : ASt} {i vr : Nat} {d : AData} (r : Rep X loc H (F.add i ⟨vr, d⟩) st) : st.At i d := (r.frame i _ (.inr ⟨rfl, rfl⟩)).at
theorem Rep.top2 {X : HIds} {loc : Loc} {H : HS} {F : Frm} {st : ASt} {i j vr : Nat} {d : AData} {o : AObj} (r : Rep X loc H ((F.add i ⟨vr, d⟩).add j o) st) : st.At i d := (r.frame i _ (.inl (.inr ⟨rfl, rfl⟩))).at
theorem Rep.mid {X : HIds} {loc : Loc} {H : HS} {F : Frm} {st : ASt} {i j : Nat} {o o' : AObj} (r : Rep X loc H ((F.add i o).add j o') st) : Rep X loc H (F.add j o') st := r.mono fun _ _ h => h.elim (fun h => .inl (.inl h)) .inr
theorem Frm.sub {F : Frm} {i j : Nat} {o : AObj} (h : ∀ p, ¬ (F.add i o) j p) : ∀ p, ¬ F j p := fun p q => h p (.inl q)
theorem isSome_t {α : Type} {o : Option α} {a : α} (h : o = some a) : o.isSome = true := by rw [h]; rfl
theorem isSome_f {α : Type} {o : Option α} (h : o = none) : o.isSome = false := by rw [h]; rfl

/- an attribute of a temporary -/
theorem set_tmp {X : HIds} {loc : Loc} {H : HS} {F : Frm} {st : ASt} {U : Unit → ASt → Prop} {i vr : Nat} {l : List (Str × AVal)} {c a : Str} {v : AVal} (r : Rep X loc H (F.add i ⟨vr, .sdict l⟩) st) (hF : ∀ o, ¬ F i o) (h : (attrsOf c).contains a = true) (hz : l.length ≤ 100) (q : ∀ st', Rep X loc H (F.add i ⟨vr + 1, .sdict (putK a v l)⟩) st' → U () st') : wp (attrSet (.inst c i) a v) st U :=
  attr_set h (r.frame _ _ (.inr ⟨rfl, rfl⟩)).at hz (q _ (r.put_tmp hF))
theorem Rep.swap {X : HIds} {loc : Loc} {H : HS} {F : Frm} {st : ASt} {i j : Nat} {o p : AObj} (r : Rep X loc H ((F.add i o).add j p) st) : Rep X loc H ((F.add j p).add i o) st :=
  r.mono fun _ _ h => h.elim (fun h => h.elim (fun h => .inl (.inl h)) .inr) fun h => .inl (.inr h)

end
/-! ready-made steps -/
set_option hygiene false
local macro_rules | `(tactic| walk_at "sub") => `(tactic| ((repeat refine Sub.set (by with_unfolding_all rfl) ?_); exact Sub.refl))
local macro_rules | `(tactic| walk_at "stop") => `(tactic| with_unfolding_all refine (?_ : wp _ _ _))
local macro_rules | `(tactic| walk_at "init") => `(tactic| refine call_init (by rfl) (by rfl) (by rfl) (by rfl) ?_)
local macro_rules | `(tactic| walk_at "fn") => `(tactic| refine call_f (by rfl) (by decide +kernel) (by rfl) (by rfl) ?_)
section
set_option maxRecDepth 100000
set_option autoImplicit false
section
variable {X : HIds} {loc : Loc} {H : HS} {F : Frm} {st : ASt} {n : Nat} {v : V} {c : C} {Q : AVal → ASt → Prop}
theorem ok_cell_of_s (r : Rep X loc H F st) (h : H.cellOf v = some c) (q : Q (.inst "Cell" (loc.cell v.num)) st) : wp ((R (n + 6)).call "cell_of" [.inst "Counted" X.root, enc v]) st Q := by
  cases v
  · o_facts h
  rename_i m
  have h : getK m H.cells = some c := h
  walk_at "fn"
  with_unfolding_all refine item_v0 ?_
  with_unfolding_all refine aeq_tagc ?_
  with_unfolding_all refine br_t rfl ?_
  with_unfolding_all refine attr_get rfl (Rep.root ‹_›) rfl ?_
  with_unfolding_all refine isI_at (Rep.cells ‹_›) ?_
  with_unfolding_all refine item_v1c ?_
  with_unfolding_all refine get_cells_s ‹_› ‹_› ?_
  exact q
theorem ok_cell_of_n (r : Rep X loc H F st) (h : H.cellOf v = none) (q : Q .none st) : wp ((R (n + 6)).call "cell_of" [.inst "Counted" X.root, enc v]) st Q := by
  walk_at "fn"
  cases v
  · with_unfolding_all refine item_v0 ?_; with_unfolding_all refine aeq_tagc ?_; with_unfolding_all refine br_f rfl ?_; exact q
  · rename_i m
    have h : getK m H.cells = none := h
    with_unfolding_all refine item_v0 ?_; with_unfolding_all refine aeq_tagc ?_; with_unfolding_all refine br_t rfl ?_; with_unfolding_all refine attr_get rfl (Rep.root ‹_›) rfl ?_; with_unfolding_all refine isI_at (Rep.cells ‹_›) ?_; with_unfolding_all refine item_v1c ?_; with_unfolding_all refine get_cells_n ‹_› ‹_› ?_; exact q
end
end
/-! P4 -/
section
set_option maxRecDepth 100000
set_option autoImplicit false

noncomputable def HS.inner (H : HS) (v : V) : Option V := if H.isRef v then (H.cellOf v).bind fun c => getK 0 c.slots else some v
noncomputable def HS.var (H : HS) (x : Int) : V := (getK x H.vars).getD (.int 0)
noncomputable def HS.valueOf (H : HS) (x : Int) : Option V := H.inner (H.var x)
noncomputable def HS.gain (H : HS) (v : V) : HS := match H.cellOf v with
  | some c => H.setC v.num { c with count := c.count + 1 }
  | none => H
noncomputable def newC (k : K) : C := ⟨k, 0, [], "black", false, false, false, false⟩
noncomputable def HS.newCell (H : HS) (k : K) : Option HS := if (getK (H.last + 1) H.cells).isNone ∧ H.cells.length ≤ 1000000 then some { H with last := H.last + 1, cells := putK (H.last + 1) (newC k) H.cells } else none

noncomputable def HS.replaced (H : HS) (p : Pl) (k : Int) (v : V) : Option (HS × List V) := (H.pl p).bind fun l => if l.length ≤ 1000000 then some (H.setPl p (putK k v l), (getK k l).toList) else none
noncomputable def HS.takenOut (H : HS) (p : Pl) (k : Int) : Option (HS × List V) := (H.pl p).bind fun l => match getK k l with
  | some v => if l.length ≤ 1000000 then some (H.setPl p (delK k l), [v]) else none
  | none => some (H, [])
noncomputable def HS.written (H : HS) (p : Pl) (k : Int) (v : V) : Option (HS × List V) := (H.pl p).bind fun l => match getK k l with
  | some w => if H.isRef w then H.replaced (.slots w.num) 0 v else H.replaced p k v
  | none => H.replaced p k v

section
variable {X : HIds} {loc : Loc} {H H' : HS} {F : Frm} {st : ASt} {n : Nat} {v w : V} {c : C} {Q : AVal → ASt → Prop} {U : Unit → ASt → Prop} {p : Pl} {k : Int}


theorem ok_is_ref (r : Rep X loc H F st) (q : Q (.bool (H.isRef v)) st) : wp ((R (n + 10)).call "is_ref" [.inst "Counted" X.root, enc v]) st Q := by
  walk_at "fn"
  cases h : H.cellOf v with
  | none => rw [isRef_none h] at q; with_unfolding_all refine ok_cell_of_n ‹_› ‹_› ?_; with_unfolding_all refine br_f rfl ?_; exact q
  | some c => rw [isRef_some h] at q; have h2 := cellOf_get h; with_unfolding_all refine ok_cell_of_s ‹_› ‹_› ?_; with_unfolding_all refine br_t rfl ?_; with_unfolding_all refine attr_get rfl (Rep.cell ‹_› ‹_›) rfl ?_; with_unfolding_all refine aeq_ref ?_; exact q


theorem ok_inner (r : Rep X loc H F st) (h : H.inner v = some w) (q : Q (enc w) st) : wp ((R (n + 14)).call "inner" [.inst "Counted" X.root, enc v]) st Q := by
  walk_at "fn"
  unfold HS.inner at h
  cases hr : H.isRef v with
  | false => rw [hr] at h; o_facts h; with_unfolding_all refine ok_is_ref ‹_› ?_; with_unfolding_all refine br_f ‹_› ?_; exact q
  | true =>
    rw [hr, if_pos rfl] at h
    cases hc : H.cellOf v with
    | none => rw [hc] at h; o_facts h
    | some c =>
      rw [hc] at h
      have h : getK 0 c.slots = some w := h
      have h2 := cellOf_get hc
      with_unfolding_all refine ok_is_ref ‹_› ?_; with_unfolding_all refine br_t ‹_› ?_; with_unfolding_all refine attr_get rfl (Rep.root ‹_›) rfl ?_; with_unfolding_all refine item_v1 ?_; with_unfolding_all refine item_cells ‹_› ‹_› ?_; with_unfolding_all refine attr_get rfl (Rep.cell ‹_› ‹_›) rfl ?_; with_unfolding_all refine item_m (Rep.slot ‹_› ‹_›) ‹_› ?_; exact q

theorem ok_value_of {x : Int} (r : Rep X loc H F st) (h : H.valueOf x = some w) (q : Q (enc w) st) : wp ((R (n + 18)).call "value_of" [.inst "Counted" X.root, .int x]) st Q := by
  walk_at "fn"
  with_unfolding_all refine attr_get rfl (Rep.root ‹_›) rfl ?_
  with_unfolding_all refine isI_at (Rep.vars ‹_›) ?_
  with_unfolding_all refine get_m (Rep.vars ‹_›) ?_
  walk_at "stop"
  exact ok_inner r h q

theorem ok_gain (r : Rep X loc H F st) (q : ∀ st', Rep X loc (H.gain v) F st' → (∀ m, (getK m H.cells).isSome → st'.get (loc.slot m) = st.get (loc.slot m)) → Q (enc v) st') : wp ((R (n + 10)).call "gain" [.inst "Counted" X.root, enc v]) st Q := by
  walk_at "fn"
  cases hc : H.cellOf v with
  | none =>
    have e : H.gain v = H := by unfold HS.gain; rw [hc]
    rw [e] at q
    with_unfolding_all refine ok_cell_of_n ‹_› ‹_› ?_; with_unfolding_all refine br_f rfl ?_; exact q _ r fun _ _ => rfl
  | some c =>
    have e : H.gain v = H.setC v.num { c with count := c.count + 1 } := by unfold HS.gain; rw [hc]
    rw [e] at q
    have h2 := cellOf_get hc
    with_unfolding_all refine ok_cell_of_s ‹_› ‹_› ?_
    with_unfolding_all refine br_t rfl ?_
    with_unfolding_all refine attr_get rfl (Rep.cell ‹_› ‹_›) rfl ?_
    walk_at "stop"
    refine set_count r h2 fun st' r' hk => ?_
    skip; exact q _ r' hk

theorem ok_replaced {r : HS × List V} (r0 : Rep X loc H F st) (h : H.replaced p k v = some r) (q : ∀ id st', Rep X loc r.1 (F.add id ⟨0, .list (r.2.map enc)⟩) st' → (∀ o, ¬ F id o) → Q (.obj id) st') : wp ((R (n + 10)).call "replaced" [.obj (p.id X loc), .int k, enc v]) st Q := by
  walk_at "fn"
  unfold HS.replaced at h
  cases hl : H.pl p with
  | none => rw [hl] at h; o_facts h
  | some l =>
    rw [hl] at h
    have h : (if l.length ≤ 1000000 then some (H.setPl p (putK k v l), (getK k l).toList) else none) = some r := h
    by_cases hz : l.length ≤ 1000000
    · rw [if_pos hz] at h; o_facts h
      cases hk : getK k l with
      | none =>
        rw [hk] at q
        with_unfolding_all refine in_pl ‹_› ‹_› ?_
        with_unfolding_all refine br_f (isSome_f ‹_›) ?_
        with_unfolding_all refine wp_new ‹_› (fun _ _ _ _ _ => ?_)
        with_unfolding_all refine set_pl ‹_› ‹_› ‹_› (fun _ _ => ?_)
        exact q _ _ (by assumption) (by assumption)
      | some w =>
        rw [hk] at q
        with_unfolding_all refine in_pl ‹_› ‹_› ?_
        with_unfolding_all refine br_t (isSome_t ‹_›) ?_
        with_unfolding_all refine item_m (Rep.pl ‹_› ‹_›) ‹_› ?_
        with_unfolding_all refine wp_new ‹_› (fun _ _ _ _ _ => ?_)
        with_unfolding_all refine set_pl ‹_› ‹_› ‹_› (fun _ _ => ?_)
        exact q _ _ (by assumption) (by assumption)
    · rw [if_neg hz] at h; o_facts h

theorem ok_taken_out {r : HS × List V} (r0 : Rep X loc H F st) (h : H.takenOut p k = some r) (q : ∀ id st', Rep X loc r.1 (F.add id ⟨0, .list (r.2.map enc)⟩) st' → (∀ o, ¬ F id o) → Q (.obj id) st') : wp ((R (n + 10)).call "taken_out" [.obj (p.id X loc), .int k]) st Q := by
  walk_at "fn"
  unfold HS.takenOut at h
  cases hl : H.pl p with
  | none => rw [hl] at h; o_facts h
  | some l =>
    rw [hl, Option.bind_some] at h
    cases hk : getK k l with
    | none =>
      rw [hk] at h; o_facts h
      with_unfolding_all refine in_pl ‹_› ‹_› ?_
      with_unfolding_all refine br_f (isSome_f ‹_›) ?_
      with_unfolding_all refine wp_new ‹_› (fun _ _ _ _ _ => ?_)
      exact q _ _ (by assumption) (by assumption)
    | some w =>
      rw [hk] at h
      have h : (if l.length ≤ 1000000 then some (H.setPl p (delK k l), [w]) else none) = some r := h
      by_cases hz : l.length ≤ 1000000
      · rw [if_pos hz] at h; o_facts h
        with_unfolding_all refine in_pl ‹_› ‹_› ?_
        with_unfolding_all refine br_t (isSome_t ‹_›) ?_
        with_unfolding_all refine isI_at (Rep.pl ‹_› ‹_›) ?_
        with_unfolding_all refine pop_pl ‹_› ‹_› ‹_› ‹_› (fun _ _ => ?_)
        with_unfolding_all refine wp_new ‹_› (fun _ _ _ _ _ => ?_)
        exact q _ _ (by assumption) (by assumption)
      · rw [if_neg hz] at h; o_facts h


theorem ok_written {r : HS × List V} (r0 : Rep X loc H F st) (h : H.written p k v = some r) (q : ∀ id st', Rep X loc r.1 (F.add id ⟨0, .list (r.2.map enc)⟩) st' → (∀ o, ¬ F id o) → Q (.obj id) st') : wp ((R (n + 16)).call "written" [.inst "Counted" X.root, .obj (p.id X loc), .int k, enc v]) st Q := by
  walk_at "fn"
  unfold HS.written at h
  cases hl : H.pl p with
  | none => rw [hl] at h; o_facts h
  | some l =>
    rw [hl, Option.bind_some] at h
    cases hk : getK k l with
    | none =>
      rw [hk] at h
      with_unfolding_all refine in_pl ‹_› ‹_› ?_
      with_unfolding_all refine br_f (isSome_f ‹_›) ?_
      with_unfolding_all refine br_f (isSome_f ‹_›) ?_
      walk_at "stop"
      refine ok_replaced r0 h fun id st' r' hF => ?_
      exact q _ _ (by assumption) (by assumption)
    | some w =>
      rw [hk] at h
      have h : (if H.isRef w then H.replaced (.slots w.num) 0 v else H.replaced p k v) = some r := h
      cases hw : H.isRef w with
      | false =>
        rw [hw] at h
        with_unfolding_all refine in_pl ‹_› ‹_› ?_
        with_unfolding_all refine br_t (isSome_t ‹_›) ?_
        with_unfolding_all refine item_m (Rep.pl ‹_› ‹_›) ‹_› ?_
        with_unfolding_all refine ok_is_ref ‹_› ?_
        with_unfolding_all refine br_f ‹_› ?_
        walk_at "stop"
        refine ok_replaced r0 h fun id st' r' hF => ?_
        exact q _ _ (by assumption) (by assumption)
      | true =>
        rw [hw] at h
        cases hc : H.cellOf w with
        | none => rw [isRef_none hc] at hw; o_facts hw
        | some c =>
          have h2 := cellOf_get hc
          with_unfolding_all refine in_pl ‹_› ‹_› ?_
          with_unfolding_all refine br_t (isSome_t ‹_›) ?_
          with_unfolding_all refine item_m (Rep.pl ‹_› ‹_›) ‹_› ?_
          with_unfolding_all refine ok_is_ref ‹_› ?_
          with_unfolding_all refine br_t ‹_› ?_
          with_unfolding_all refine attr_get rfl (Rep.root ‹_›) rfl ?_
          with_unfolding_all refine item_m (Rep.pl ‹_› ‹_›) ‹_› ?_
          with_unfolding_all refine item_v1 ?_
          with_unfolding_all refine item_cells ‹_› ‹_› ?_
          with_unfolding_all refine attr_get rfl (Rep.cell ‹_› ‹_›) rfl ?_
          walk_at "stop"
          refine ok_replaced (p := .slots w.num) r0 h fun id st' r' hF => ?_
          exact q _ _ (by assumption) (by assumption)

noncomputable def HS.hasElements (H : HS) (x : Int) : Option Bool := (H.valueOf x).map V.isCell
theorem ok_has_elements {x : Int} {b : Bool} (r : Rep X loc H F st) (h : H.hasElements x = some b) (q : Q (.bool b) st) : wp ((R (n + 24)).call "has_elements" [.inst "Counted" X.root, .int x]) st Q := by
  walk_at "fn"
  unfold HS.hasElements at h
  cases hv : H.valueOf x with
  | none => rw [hv] at h; o_facts h
  | some v => rw [hv] at h; o_facts h; with_unfolding_all refine ok_value_of ‹_› ‹_› ?_; with_unfolding_all refine item_v0 ?_; with_unfolding_all refine aeq_tagc ?_; exact q

noncomputable def HS.inCopy (H : HS) (n : Int) (v : V) : Option V := match H.cellOf v with
  | none => some v
  | some h => if h.sort ≠ .ref then some v else if h.count > 1 then some v else (getK 0 h.slots).map fun w => if w = .cell n then v else w
theorem ok_in_copy {m : Int} {c : C} (r : Rep X loc H F st) (hm : getK m H.cells = some c) (h : H.inCopy m v = some w) (q : Q (enc w) st) : wp ((R (n + 14)).call "in_copy" [.inst "Counted" X.root, .inst "Cell" (loc.cell m), enc v]) st Q := by
  walk_at "fn"
  unfold HS.inCopy at h
  cases hc : H.cellOf v with
  | none => rw [hc] at h; o_facts h; with_unfolding_all refine ok_cell_of_n ‹_› ‹_› ?_; with_unfolding_all refine br_t rfl ?_; with_unfolding_all refine br_t rfl ?_; exact q
  | some d =>
    rw [hc] at h
    have h : (if d.sort ≠ .ref then some v else if d.count > 1 then some v else (getK 0 d.slots).map fun w => if w = .cell m then v else w) = some w := h
    have h2 := cellOf_get hc
    by_cases hs : d.sort ≠ .ref
    · rw [if_pos hs] at h; o_facts h
      have hs' : (!decide (d.sort = .ref)) = true := by simpa using hs
      with_unfolding_all refine ok_cell_of_s ‹_› ‹_› ?_; with_unfolding_all refine br_f rfl ?_; with_unfolding_all refine attr_get rfl (Rep.cell ‹_› ‹_›) rfl ?_; with_unfolding_all refine aeq_ref ?_; with_unfolding_all refine br_t ‹_› ?_; with_unfolding_all refine br_t ‹_› ?_; exact q
    · rw [if_neg hs] at h
      have hs' : (!decide (d.sort = .ref)) = false := by simpa using hs
      by_cases hn : d.count > 1
      · rw [if_pos hn] at h; o_facts h
        have hn' : decide (d.count > 1) = true := by simpa using hn
        with_unfolding_all refine ok_cell_of_s ‹_› ‹_› ?_; with_unfolding_all refine br_f rfl ?_; with_unfolding_all refine attr_get rfl (Rep.cell ‹_› ‹_›) rfl ?_; with_unfolding_all refine aeq_ref ?_; with_unfolding_all refine br_f ‹_› ?_; with_unfolding_all refine attr_get rfl (Rep.cell ‹_› ‹_›) rfl ?_; with_unfolding_all refine br_t ‹_› ?_; with_unfolding_all refine br_t ‹_› ?_; exact q
      · rw [if_neg hn] at h
        have hn' : decide (d.count > 1) = false := by simpa using hn
        cases hg : getK 0 d.slots with
        | none => rw [hg] at h; o_facts h
        | some w' =>
          rw [hg] at h
          have h : some (if w' = .cell m then v else w') = some w := h
          with_unfolding_all refine ok_cell_of_s ‹_› ‹_› ?_
          with_unfolding_all refine br_f rfl ?_
          with_unfolding_all refine attr_get rfl (Rep.cell ‹_› ‹_›) rfl ?_
          with_unfolding_all refine aeq_ref ?_
          with_unfolding_all refine br_f ‹_› ?_
          with_unfolding_all refine attr_get rfl (Rep.cell ‹_› ‹_›) rfl ?_
          with_unfolding_all refine br_f ‹_› ?_
          with_unfolding_all refine attr_get rfl (Rep.cell ‹_› ‹_›) rfl ?_
          with_unfolding_all refine item_m (Rep.slot ‹_› ‹_›) ‹_› ?_
          with_unfolding_all refine attr_get rfl (Rep.cell ‹_› ‹_›) rfl ?_
          walk_at "stop"
          refine aeq_enc (w := .cell m) ?_
          by_cases hw : w' = .cell m
          · rw [if_pos hw] at h; o_facts h
            have hw' : decide (w' = .cell m) = true := by simpa using hw
            with_unfolding_all refine br_t ‹_› ?_; exact q
          · have hw' : decide (w' = .cell m) = false := by simpa using hw
            rw [if_neg hw] at h; o_facts h
            with_unfolding_all refine br_f ‹_› ?_; with_unfolding_all refine attr_get rfl (Rep.cell ‹_› ‹_›) rfl ?_; with_unfolding_all refine item_m (Rep.slot ‹_› ‹_›) ‹_› ?_; exact q
end
end
/-! P5 -/
section
set_option maxRecDepth 100000
set_option autoImplicit false

section
variable {X : HIds} {loc : Loc} {H H' : HS} {F : Frm} {st : ASt} {n : Nat} {v w : V} {c : C} {Q : AVal → ASt → Prop} {U : Unit → ASt → Prop} {p : Pl} {k : Int}


theorem ok_Cell {k : K} {m : Int} (r : Rep X loc H F st) (q : ∀ a b va st', Rep X loc H ((F.add a ⟨va, .sdict (cellL b m (newC k))⟩).add b ⟨0, .idict []⟩) st' → (∀ o, ¬ F a o) → (∀ o, ¬ F b o) → Q (.inst "Cell" a) st') : wp ((R (n + 6)).call "Cell" [.str (encK k), .int m]) st Q := by
  walk_at "init"
  refine new_d r fun a st1 r1 hFa _ => ?_
  walk_at "stop"
  refine set_tmp r1 hFa rfl (by decide) fun st2 r2 => ?_
  walk_at "stop"
  refine set_tmp r2 hFa rfl (by show (1 : Nat) ≤ 100; decide) fun st3 r3 => ?_
  walk_at "stop"
  refine set_tmp r3 hFa rfl (by show (2 : Nat) ≤ 100; decide) fun st4 r4 => ?_
  walk_at "stop"
  refine mk_new r4 fun b st5 r5 hFb _ => ?_
  have hab : ∀ o, ¬ (F.add b ⟨0, .idict []⟩) a o := fun o h => h.elim (hFa o) fun h => hFb _ (.inr ⟨h.1.symm, rfl⟩)
  have r5 := r5.swap
  walk_at "stop"
  refine set_tmp r5 hab rfl (by show (3 : Nat) ≤ 100; decide) fun st6 r6 => ?_
  walk_at "stop"
  refine set_tmp r6 hab rfl (by show (4 : Nat) ≤ 100; decide) fun st7 r7 => ?_
  walk_at "stop"
  refine set_tmp r7 hab rfl (by show (5 : Nat) ≤ 100; decide) fun st8 r8 => ?_
  walk_at "stop"
  refine set_tmp r8 hab rfl (by show (6 : Nat) ≤ 100; decide) fun st9 r9 => ?_
  walk_at "stop"
  refine set_tmp r9 hab rfl (by show (7 : Nat) ≤ 100; decide) fun st10 r10 => ?_
  walk_at "stop"
  refine set_tmp r10 hab rfl (by show (8 : Nat) ≤ 100; decide) fun st11 r11 => ?_
  walk_at "stop"
  refine set_tmp r11 hab rfl (by show (9 : Nat) ≤ 100; decide) fun st12 r12 => ?_
  skip
  exact q a b _ _ r12.swap hFa (fun o h => hFb o (.inl h))

theorem newCell_last {k : K} (h : H.newCell k = some H') : H'.last = H.last + 1 := by
  unfold HS.newCell at h
  split at h
  · o_facts h; rfl
  · o_facts h
theorem newCell_get {k : K} (h : H.newCell k = some H') : getK H'.last H'.cells = some (newC k) ∧ getK H'.last H.cells = none := by
  unfold HS.newCell at h
  split at h
  · rename_i q
    o_facts h
    refine ⟨?_, Option.isNone_iff_eq_none.mp q.1⟩
    show getK (H.last + 1) (putK (H.last + 1) (newC k) H.cells) = _
    rw [getK_putK, if_pos rfl]
  · o_facts h
theorem set_cells {a b va : Nat} {m : Int} {c : C} {loc : Loc} (r : Rep X loc H ((F.add a ⟨va, .sdict (cellL b m c)⟩).add b ⟨0, .idict (encM c.slots)⟩) st) (hn : getK m H.cells = none) (hz : H.cells.length ≤ 1000000) (hFa : ∀ o, ¬ F a o) (hFb : ∀ o, ¬ F b o) (q : ∀ st', Rep X (loc.upd m a b) { H with cells := putK m c H.cells } F st' → U () st') : wp (itemSet (.obj X.cells) (.int m) (.inst "Cell" a)) st U :=
  set_idict r.cells (by unfold cellsA; rw [List.length_map]; exact hz) (q _ (r.add_cell hn hFa hFb rfl))

theorem ok_new_cell {k : K} (r : Rep X loc H F st) (h : H.newCell k = some H') (q : ∀ loc' st', Rep X loc' H' F st' → (∀ m, m ≠ H'.last → loc'.cell m = loc.cell m ∧ loc'.slot m = loc.slot m) → Q (enc (.cell H'.last)) st') : wp ((R (n + 10)).call "new_cell" [.inst "Counted" X.root, .str (encK k)]) st Q := by
  unfold HS.newCell at h
  split at h
  · rename_i hh
    o_facts h
    walk_at "fn"
    with_unfolding_all refine attr_get rfl (Rep.root ‹_›) rfl ?_
    walk_at "stop"
    refine set_last r fun st1 r1 => ?_
    with_unfolding_all refine attr_get rfl (Rep.root ‹_›) rfl ?_
    walk_at "stop"
    refine ok_Cell r1 fun a b va st2 r2 hFa hFb => ?_
    with_unfolding_all refine attr_get rfl (Rep.root ‹_›) rfl ?_
    with_unfolding_all refine attr_get rfl (Rep.root ‹_›) rfl ?_
    walk_at "stop"
    refine set_cells (c := newC k) r2 (Option.isNone_iff_eq_none.mp hh.1) hh.2 hFa hFb fun st3 r3 => ?_
    with_unfolding_all refine attr_get rfl (Rep.root ‹_›) rfl ?_
    exact q _ _ r3 fun m hm => ⟨if_neg hm, if_neg hm⟩
  · o_facts h

noncomputable def HS.setVar (H : HS) (x : Int) (v : V) : Option HS := if H.vars.length ≤ 1000000 then some { H with vars := putK x v H.vars } else none
noncomputable def HS.refIn (H : HS) (x : Int) : Option (HS × V) := if H.isRef (H.var x) then some (H, H.var x) else
  (H.newCell .ref).bind fun H1 => (((H1.setC H1.last { newC .ref with slots := [(0, H.var x)] }).gain (.cell H1.last)).setVar x (.cell H1.last)).map fun H2 => (H2, .cell H1.last)

theorem ok_ref_in {x : Int} {y : HS × V} (r : Rep X loc H F st) (h : H.refIn x = some y) (q : ∀ loc' st', Rep X loc' y.1 F st' → Q (enc y.2) st') : wp ((R (n + 18)).call "ref_in" [.inst "Counted" X.root, .obj X.vars, .int x]) st Q := by
  unfold HS.refIn at h
  walk_at "fn"
  cases hr : H.isRef (H.var x) with
  | true =>
    have hr' : H.isRef ((getK x H.vars).getD (.int 0)) = true := hr
    rw [hr, if_pos rfl] at h; o_facts h
    with_unfolding_all refine isI_at (Rep.vars ‹_›) ?_
    with_unfolding_all refine get_m (Rep.vars ‹_›) ?_
    with_unfolding_all refine ok_is_ref ‹_› ?_
    with_unfolding_all refine br_t ‹_› ?_
    exact q _ _ r
  | false =>
    have hr' : H.isRef ((getK x H.vars).getD (.int 0)) = false := hr
    rw [hr, if_neg (by decide)] at h
    cases hn : H.newCell .ref with
    | none => rw [hn] at h; o_facts h
    | some H1 =>
      rw [hn, Option.bind_some] at h
      have hg := newCell_get hn
      with_unfolding_all refine isI_at (Rep.vars ‹_›) ?_
      with_unfolding_all refine get_m (Rep.vars ‹_›) ?_
      with_unfolding_all refine ok_is_ref ‹_› ?_
      with_unfolding_all refine br_f ‹_› ?_
      walk_at "stop"
      refine ok_new_cell (k := .ref) r hn fun loc1 st1 r1 _ => ?_
      with_unfolding_all refine attr_get rfl (Rep.root ‹_›) rfl ?_
      with_unfolding_all refine item_v1c ?_
      walk_at "stop"
      refine item_cells (n := H1.last) r1 hg.1 ?_
      walk_at "stop"
      refine attr_get rfl (r1.cell hg.1) rfl ?_
      walk_at "stop"
      refine set_slot (v := H.var x) r1 hg.1 (by decide) fun st2 r2 _ => ?_
      with_unfolding_all refine ok_gain ‹_› (fun _ _ _ => ?_)
      walk_at "stop"
      rename_i st3 r3 _
      unfold HS.setVar at h
      have e : (H1.setC H1.last { newC .ref with slots := putK 0 (H.var x) (newC .ref).slots }) = H1.setC H1.last { newC .ref with slots := [(0, H.var x)] } := rfl
      rw [e] at r3
      generalize (H1.setC H1.last { newC .ref with slots := [(0, H.var x)] }).gain (.cell H1.last) = H3 at r3 h
      by_cases hz : H3.vars.length ≤ 1000000
      · rw [if_pos hz] at h; o_facts h
        refine set_vars (v := .cell H1.last) r3 hz fun st4 r4 => ?_
        skip
        exact q _ _ r4
      · rw [if_neg hz] at h; o_facts h

theorem gain_keys {a : Int} : (getK a (H.gain v).cells).isSome = (getK a H.cells).isSome := by
  unfold HS.gain
  cases hc : H.cellOf v with
  | none => rfl
  | some c =>
    show (getK a (putK v.num _ H.cells)).isSome = _
    rw [getK_putK]
    by_cases q : a = v.num
    · rw [if_pos q, q, cellOf_get hc]; rfl
    · rw [if_neg q]
noncomputable def HS.copyStep (a m : Int) (H : HS) (key : Int) : Option HS := (getK a H.cells).bind fun c => (getK key c.slots).bind fun v => (H.inCopy a v).bind fun w => (getK m (H.gain w).cells).bind fun cm => if cm.slots.length ≤ 1000000 then some ((H.gain w).setC m { cm with slots := putK key w cm.slots }) else none
noncomputable def HS.copied (H : HS) (a : Int) : Option (HS × Int) := (getK a H.cells).bind fun c => (H.newCell .array).bind fun H1 => if H1.log.length ≤ 1000000 then ((c.slots.map (·.1)).foldlM (HS.copyStep a H1.last) { H1 with log := H1.log ++ [.copy a H1.last] }).map fun H3 => (H3, H1.last) else none

theorem ok_copied {a : Int} {c : C} {y : HS × Int} (r : Rep X loc H F st) (hc : getK a H.cells = some c) (h : H.copied a = some y) (q : ∀ loc' st', Rep X loc' y.1 F st' → Q (enc (.cell y.2)) st') : wp ((R (n + 24)).call "copied" [.inst "Counted" X.root, .inst "Cell" (loc.cell a)]) st Q := by
  unfold HS.copied at h
  rw [hc, Option.bind_some] at h
  cases hn : H.newCell .array with
  | none => rw [hn] at h; o_facts h
  | some H1 =>
    rw [hn, Option.bind_some] at h
    by_cases hz : H1.log.length ≤ 1000000
    · rw [if_pos hz] at h
      have hg := newCell_get hn
      have ham : a ≠ H1.last := fun e => by rw [e, hg.2] at hc; o_facts hc
      have hc1 : getK a H1.cells = some c := by
        unfold HS.newCell at hn
        split at hn
        · o_facts hn
          show getK a (putK (H.last + 1) _ _) = _
          rw [getK_putK, if_neg ham]; exact hc
        · o_facts hn
      walk_at "fn"
      walk_at "stop"
      refine ok_new_cell (k := .array) r hn fun loc1 st1 r1 hl => ?_
      rw [← (hl a ham).1]
      with_unfolding_all refine attr_get rfl (Rep.root ‹_›) rfl ?_
      with_unfolding_all refine isL_at (Rep.log ‹_›) ?_
      with_unfolding_all refine attr_get rfl (Rep.cell ‹_› ‹_›) rfl ?_
      with_unfolding_all refine item_v1c ?_
      walk_at "stop"
      refine log_append (l := .copy a H1.last) r1 hz fun st2 r2 => ?_
      with_unfolding_all refine attr_get rfl (Rep.cell ‹_› ‹_›) rfl ?_
      with_unfolding_all refine loi_k (Rep.slot ‹_› ‹_›) ?_
      with_unfolding_all refine its_keys (Rep.slot ‹_› ‹_›) ?_
      walk_at "stop"
      first | obtain ⟨H3, hf, rfl⟩ := map_some h | (refine bind_K h fun H3 hf h => ?_; o_facts h)
      have hc2 : getK a ({ H1 with log := H1.log ++ [.copy a H1.last] } : HS).cells = some c := hc1
      walk_at "stop"
      have hk : ((encM c.slots).map fun p => AVal.int p.1) = (c.slots.map (·.1)).map AVal.int := by unfold encM; rw [List.map_map, List.map_map]; rfl
      rw [hk]
      refine forLoop_at (fun vs s => ∃ (ks : List Int) (H' : HS), vs = ks.map AVal.int ∧ Rep X loc1 H' F s ∧ s.get (loc1.slot a) = st2.get (loc1.slot a) ∧ ks.foldlM (HS.copyStep a H1.last) H' = some H3) ⟨_, _, rfl, r2, rfl, hf⟩ ?_ ?_
      · intro v vs s h_; refine e2a4 (h_) fun ks H' hv r' hs hk => ?_
        cases ks with
        | nil => o_facts hv
        | cons key ks =>
        rw [List.map_cons] at hv
        o_facts hv
        rw [List.foldlM_cons] at hk
        refine bind_K hk fun Hn hst hk => ?_
        unfold HS.copyStep at hst
        refine bind_K hst fun ca h1 hst => ?_
        refine bind_K hst fun v h2 hst => ?_
        refine bind_K hst fun w h3 hst => ?_
        refine bind_K hst fun cm h4 hst => ?_
        by_cases hz2 : cm.slots.length ≤ 1000000
        · rw [if_pos hz2] at hst
          cases hst
          refine ⟨by show (s.get _).ver = _; rw [hs]; rfl, fun K hn _ => ?_⟩
          with_unfolding_all refine attr_get rfl (Rep.cell ‹_› ‹_›) rfl ?_
          with_unfolding_all refine item_m (Rep.slot ‹_› ‹_›) ‹_› ?_
          with_unfolding_all refine ok_in_copy ‹_› ‹_› ‹_› ?_
          with_unfolding_all refine ok_gain ‹_› (fun _ _ _ => ?_)
          with_unfolding_all refine attr_get rfl (Rep.root ‹_›) rfl ?_
          with_unfolding_all refine item_v1c ?_
          with_unfolding_all refine item_cells ‹_› ‹_› ?_
          with_unfolding_all refine attr_get rfl (Rep.cell ‹_› ‹_›) rfl ?_
          walk_at "stop"
          rename_i s1 r1 hg1
          refine set_slot r1 h4 hz2 fun s2 r2 hg2 => ?_
          refine hn _ s2 (by walk_at "sub") ⟨ks, _, rfl, r2, ?_, hk⟩
          rw [hg2 a ham ?_, hg1 a (by rw [h1]; rfl), hs]
          rw [gain_keys, h1]; rfl
        · rw [if_neg hz2] at hst; o_facts hst
      · intro s h_; refine e2a4 (h_) fun ks H' hv r' hs hk => ?_
        cases ks with
        | cons => o_facts hv
        | nil =>
        o_facts hk
        refine ⟨by show (s.get _).ver = _; rw [hs]; rfl, ?_⟩
        skip
        exact q _ _ r'
    · rw [if_neg hz] at h; o_facts h
end
end
/-! P6 -/
section
set_option maxRecDepth 100000
set_option autoImplicit false

noncomputable def HS.container (H : HS) (x : Int) : Option (HS × Int × List V) := (H.valueOf x).bind fun v => (getK v.num H.cells).bind fun c => if c.sort = .object then some (H, v.num, []) else if c.count = 1 then some (H, v.num, []) else (H.copied v.num).bind fun y => (getK y.2 y.1.cells).bind fun _ => ((y.1.gain (.cell y.2)).written .vars x (.cell y.2)).map fun z => (z.1, y.2, z.2)
noncomputable def HS.setInt (H : HS) (x i : Int) : Option (HS × List V) := H.written .vars x (.int i)
noncomputable def HS.newArray (H : HS) (x : Int) : Option (HS × List V) := (H.newCell .array).bind fun H1 => (H1.gain (.cell H1.last)).written .vars x (.cell H1.last)
noncomputable def HS.newObject (H : HS) (x : Int) (b : Bool) : Option (HS × List V) := (H.newCell .object).bind fun H1 => (getK H1.last (H1.gain (.cell H1.last)).cells).bind fun c => ((H1.gain (.cell H1.last)).setC H1.last { c with hasD := b }).written .vars x (.cell H1.last)
noncomputable def HS.assign (H : HS) (x y : Int) : Option (HS × List V) := (H.valueOf y).bind fun v => (H.gain v).written .vars x v
noncomputable def joinL (l : List V) (z : HS × List V) : Option (HS × List V) := if l.length + z.2.length ≤ 1000000 then some (z.1, l ++ z.2) else none
noncomputable def HS.put (H : HS) (x k y : Int) : Option (HS × List V) := (H.hasElements x).bind fun b => if b = true then (H.valueOf y).bind fun v => ((H.gain v).container x).bind fun z => (z.1.written (.slots z.2.1) k v).bind (joinL z.2.2) else some (H, [])
noncomputable def HS.take (H : HS) (x y k : Int) : Option (HS × List V) := (H.hasElements y).bind fun b => (if b = true then (H.valueOf y).bind fun w => (H.cellOf w).bind fun c => H.inner ((getK k c.slots).getD (.int 0)) else some (.int 0)).bind fun v => (H.gain v).written .vars x v
noncomputable def HS.makeRef (H : HS) (x y : Int) : Option (HS × List V) := (H.refIn y).bind fun z => (z.1.gain z.2).replaced .vars x z.2
noncomputable def HS.putRef (H : HS) (x k y : Int) : Option (HS × List V) := (H.hasElements x).bind fun b => if b = true then (H.refIn y).bind fun w => ((w.1.gain w.2).container x).bind fun z => (z.1.replaced (.slots z.2.1) k w.2).bind (joinL z.2.2) else some (H, [])
noncomputable def HS.unset (H : HS) (x : Int) : Option (HS × List V) := H.takenOut .vars x
noncomputable def HS.unsetAt (H : HS) (x k : Int) : Option (HS × List V) := (H.hasElements x).bind fun b => if b = true then (H.container x).bind fun z => (z.1.takenOut (.slots z.2.1) k).bind (joinL z.2.2) else some (H, [])

section
variable {X : HIds} {loc : Loc} {H H' : HS} {F : Frm} {st : ASt} {n : Nat} {v w : V} {c : C} {Q : AVal → ASt → Prop} {U : Unit → ASt → Prop} {p : Pl} {k : Int} {r : HS × List V}


theorem written_pl {z : HS × List V} (h : H.written p k v = some z) : ∃ l, H.pl p = some l := by
  unfold HS.written at h
  cases e : H.pl p with
  | none => rw [e] at h; o_facts h
  | some l => exact ⟨l, rfl⟩
theorem replaced_pl {z : HS × List V} (h : H.replaced p k v = some z) : ∃ l, H.pl p = some l := by
  unfold HS.replaced at h
  cases e : H.pl p with
  | none => rw [e] at h; o_facts h
  | some l => exact ⟨l, rfl⟩
theorem takenOut_pl {z : HS × List V} (h : H.takenOut p k = some z) : ∃ l, H.pl p = some l := by
  unfold HS.takenOut at h
  cases e : H.pl p with
  | none => rw [e] at h; o_facts h
  | some l => exact ⟨l, rfl⟩
theorem pl_slots {m : Int} (h : ∃ l, H.pl (.slots m) = some l) : ∃ c, getK m H.cells = some c := by
  refine e1a1 (h) fun l h => ?_
  have h : (getK m H.cells).map (·.slots) = some l := h
  cases e : getK m H.cells with
  | none => rw [e] at h; o_facts h
  | some c => exact ⟨c, rfl⟩

theorem ok_container {x : Int} {y : HS × Int × List V} (r0 : Rep X loc H F st) (h : H.container x = some y) (q : ∀ loc' id st', Rep X loc' y.1 (F.add id ⟨0, .list (y.2.2.map enc)⟩) st' → (∀ o, ¬ F id o) → Q (.tup [.inst "Cell" (loc'.cell y.2.1), .obj id]) st') : wp ((R (n + 29)).call "container" [.inst "Counted" X.root, .int x]) st Q := by
  unfold HS.container at h
  refine bind_K h fun v hv h => ?_
  refine bind_K h fun c hc h => ?_
  walk_at "fn"
  by_cases hs : c.sort = .object
  · rw [if_pos hs] at h; o_facts h
    have hs' : decide (c.sort = .object) = true := by simpa using hs
    with_unfolding_all refine attr_get rfl (Rep.root ‹_›) rfl ?_
    with_unfolding_all refine ok_value_of ‹_› ‹_› ?_
    with_unfolding_all refine item_v1 ?_
    with_unfolding_all refine item_cells ‹_› ‹_› ?_
    with_unfolding_all refine attr_get rfl (Rep.cell ‹_› ‹_›) rfl ?_
    with_unfolding_all refine aeq_object ?_
    with_unfolding_all refine br_t ‹_› ?_
    with_unfolding_all refine br_t ‹_› ?_
    with_unfolding_all refine wp_new ‹_› (fun _ _ _ _ _ => ?_)
    exact q _ _ _ (by assumption) (by assumption)
  · rw [if_neg hs] at h
    have hs' : decide (c.sort = .object) = false := by simpa using hs
    by_cases hn : c.count = 1
    · rw [if_pos hn] at h; o_facts h
      have hn' : decide (c.count = 1) = true := by simpa using hn
      with_unfolding_all refine attr_get rfl (Rep.root ‹_›) rfl ?_
      with_unfolding_all refine ok_value_of ‹_› ‹_› ?_
      with_unfolding_all refine item_v1 ?_
      with_unfolding_all refine item_cells ‹_› ‹_› ?_
      with_unfolding_all refine attr_get rfl (Rep.cell ‹_› ‹_›) rfl ?_
      with_unfolding_all refine aeq_object ?_
      with_unfolding_all refine br_f ‹_› ?_
      with_unfolding_all refine attr_get rfl (Rep.cell ‹_› ‹_›) rfl ?_
      with_unfolding_all refine aeq_int ?_
      with_unfolding_all refine br_t ‹_› ?_
      with_unfolding_all refine wp_new ‹_› (fun _ _ _ _ _ => ?_)
      exact q _ _ _ (by assumption) (by assumption)
    · rw [if_neg hn] at h
      have hn' : decide (c.count = 1) = false := by simpa using hn
      refine bind_K h fun z hd h => ?_
      refine bind_K h fun cz he h => ?_
      first | obtain ⟨u, hw, rfl⟩ := map_some h | (refine bind_K h fun u hw h => ?_; o_facts h)
      with_unfolding_all refine attr_get rfl (Rep.root ‹_›) rfl ?_
      with_unfolding_all refine ok_value_of ‹_› ‹_› ?_
      with_unfolding_all refine item_v1 ?_
      with_unfolding_all refine item_cells ‹_› ‹_› ?_
      with_unfolding_all refine attr_get rfl (Rep.cell ‹_› ‹_›) rfl ?_
      with_unfolding_all refine aeq_object ?_
      with_unfolding_all refine br_f ‹_› ?_
      with_unfolding_all refine attr_get rfl (Rep.cell ‹_› ‹_›) rfl ?_
      with_unfolding_all refine aeq_int ?_
      with_unfolding_all refine br_f ‹_› ?_
      walk_at "stop"
      refine ok_copied r0 hc hd fun loc1 st1 r1 => ?_
      with_unfolding_all refine attr_get rfl (Rep.root ‹_›) rfl ?_
      with_unfolding_all refine item_v1c ?_
      with_unfolding_all refine item_cells ‹_› ‹_› ?_
      with_unfolding_all refine attr_get rfl (Rep.root ‹_›) rfl ?_
      walk_at "stop"
      refine ok_gain (v := .cell z.2) r1 fun st2 r2 _ => ?_
      walk_at "stop"
      refine ok_written (p := .vars) r2 hw fun id st3 r3 hF => ?_
      skip
      exact q _ _ _ r3 hF

theorem ok_set_int {x i : Int} (r0 : Rep X loc H F st) (h : H.setInt x i = some r) (q : ∀ loc' id st', Rep X loc' r.1 (F.add id ⟨0, .list (r.2.map enc)⟩) st' → (∀ o, ¬ F id o) → Q (.obj id) st') : wp ((R (n + 20)).call "set_int" [.inst "Counted" X.root, .int x, .int i]) st Q := by
  walk_at "fn"
  with_unfolding_all refine attr_get rfl (Rep.root ‹_›) rfl ?_
  walk_at "stop"
  exact ok_written (p := .vars) (v := .int i) r0 h fun id st1 r1 hF => q _ _ _ r1 hF

theorem ok_new_array {x : Int} (r0 : Rep X loc H F st) (h : H.newArray x = some r) (q : ∀ loc' id st', Rep X loc' r.1 (F.add id ⟨0, .list (r.2.map enc)⟩) st' → (∀ o, ¬ F id o) → Q (.obj id) st') : wp ((R (n + 20)).call "new_array" [.inst "Counted" X.root, .int x]) st Q := by
  unfold HS.newArray at h
  refine bind_K h fun H1 hn h => ?_
  walk_at "fn"
  with_unfolding_all refine attr_get rfl (Rep.root ‹_›) rfl ?_
  walk_at "stop"
  refine ok_new_cell (k := .array) r0 hn fun loc1 st1 r1 _ => ?_
  walk_at "stop"
  refine ok_gain (v := .cell H1.last) r1 fun st2 r2 _ => ?_
  walk_at "stop"
  exact ok_written (p := .vars) r2 h fun id st1 r1 hF => q _ _ _ r1 hF

theorem ok_new_object {x : Int} {b : Bool} (r0 : Rep X loc H F st) (h : H.newObject x b = some r) (q : ∀ loc' id st', Rep X loc' r.1 (F.add id ⟨0, .list (r.2.map enc)⟩) st' → (∀ o, ¬ F id o) → Q (.obj id) st') : wp ((R (n + 20)).call "new_object" [.inst "Counted" X.root, .int x, .bool b]) st Q := by
  unfold HS.newObject at h
  refine bind_K h fun H1 hn h => ?_
  refine bind_K h fun c hc h => ?_
  walk_at "fn"
  walk_at "stop"
  refine ok_new_cell (k := .object) r0 hn fun loc1 st1 r1 _ => ?_
  walk_at "stop"
  refine ok_gain (v := .cell H1.last) r1 fun st2 r2 _ => ?_
  with_unfolding_all refine attr_get rfl (Rep.root ‹_›) rfl ?_
  with_unfolding_all refine item_v1c ?_
  with_unfolding_all refine item_cells ‹_› ‹_› ?_
  walk_at "stop"
  refine set_hasD r2 hc fun st3 r3 => ?_
  with_unfolding_all refine attr_get rfl (Rep.root ‹_›) rfl ?_
  walk_at "stop"
  exact ok_written (p := .vars) r3 h fun id st1 r1 hF => q _ _ _ r1 hF

theorem ok_assign {x y : Int} (r0 : Rep X loc H F st) (h : H.assign x y = some r) (q : ∀ loc' id st', Rep X loc' r.1 (F.add id ⟨0, .list (r.2.map enc)⟩) st' → (∀ o, ¬ F id o) → Q (.obj id) st') : wp ((R (n + 28)).call "assign" [.inst "Counted" X.root, .int x, .int y]) st Q := by
  unfold HS.assign at h
  refine bind_K h fun v hn h => ?_
  walk_at "fn"
  with_unfolding_all refine attr_get rfl (Rep.root ‹_›) rfl ?_
  with_unfolding_all refine ok_value_of ‹_› ‹_› ?_
  walk_at "stop"
  refine ok_gain r0 fun st2 r2 _ => ?_
  walk_at "stop"
  exact ok_written (p := .vars) r2 h fun id st1 r1 hF => q _ _ _ r1 hF

theorem ok_take {x y : Int} (r0 : Rep X loc H F st) (h : H.take x y k = some r) (q : ∀ loc' id st', Rep X loc' r.1 (F.add id ⟨0, .list (r.2.map enc)⟩) st' → (∀ o, ¬ F id o) → Q (.obj id) st') : wp ((R (n + 32)).call "take" [.inst "Counted" X.root, .int x, .int y, .int k]) st Q := by
  unfold HS.take at h
  refine bind_K h fun b hn h => ?_
  walk_at "fn"
  cases b with
  | false =>
    rw [if_neg (by decide), Option.bind_some] at h
    with_unfolding_all refine ok_has_elements ‹_› ‹_› ?_
    with_unfolding_all refine br_f rfl ?_
    with_unfolding_all refine attr_get rfl (Rep.root ‹_›) rfl ?_
    walk_at "stop"
    refine ok_gain (v := .int 0) r0 fun st2 r2 _ => ?_
    walk_at "stop"
    exact ok_written (p := .vars) r2 h fun id st1 r1 hF => q _ _ _ r1 hF
  | true =>
    rw [if_pos rfl] at h
    refine bind_K h fun u hi h => ?_
    refine bind_K hi fun w hv hi => ?_
    refine bind_K hi fun c hw hi => ?_
    have hc := cellOf_get hw
    with_unfolding_all refine ok_has_elements ‹_› ‹_› ?_
    with_unfolding_all refine br_t rfl ?_
    with_unfolding_all refine ok_value_of ‹_› ‹_› ?_
    with_unfolding_all refine ok_cell_of_s ‹_› ‹_› ?_
    with_unfolding_all refine attr_get rfl (Rep.cell ‹_› ‹_›) rfl ?_
    with_unfolding_all refine isI_at (Rep.slot ‹_› ‹_›) ?_
    with_unfolding_all refine get_m (Rep.slot ‹_› ‹_›) ?_
    with_unfolding_all refine ok_inner ‹_› ‹_› ?_
    with_unfolding_all refine attr_get rfl (Rep.root ‹_›) rfl ?_
    walk_at "stop"
    refine ok_gain r0 fun st2 r2 _ => ?_
    walk_at "stop"
    exact ok_written (p := .vars) r2 h fun id st1 r1 hF => q _ _ _ r1 hF

theorem ok_make_ref {x y : Int} (r0 : Rep X loc H F st) (h : H.makeRef x y = some r) (q : ∀ loc' id st', Rep X loc' r.1 (F.add id ⟨0, .list (r.2.map enc)⟩) st' → (∀ o, ¬ F id o) → Q (.obj id) st') : wp ((R (n + 32)).call "make_ref" [.inst "Counted" X.root, .int x, .int y]) st Q := by
  unfold HS.makeRef at h
  refine bind_K h fun z hn h => ?_
  walk_at "fn"
  with_unfolding_all refine attr_get rfl (Rep.root ‹_›) rfl ?_
  with_unfolding_all refine attr_get rfl (Rep.root ‹_›) rfl ?_
  walk_at "stop"
  refine ok_ref_in r0 hn fun loc1 st1 r1 => ?_
  walk_at "stop"
  refine ok_gain r1 fun st2 r2 _ => ?_
  walk_at "stop"
  exact ok_replaced (p := .vars) r2 h fun id st1 r1 hF => q _ _ _ r1 hF

theorem ok_unset {x : Int} (r0 : Rep X loc H F st) (h : H.unset x = some r) (q : ∀ loc' id st', Rep X loc' r.1 (F.add id ⟨0, .list (r.2.map enc)⟩) st' → (∀ o, ¬ F id o) → Q (.obj id) st') : wp ((R (n + 20)).call "unset" [.inst "Counted" X.root, .int x]) st Q := by
  walk_at "fn"
  with_unfolding_all refine attr_get rfl (Rep.root ‹_›) rfl ?_
  walk_at "stop"
  exact ok_taken_out (p := .vars) r0 h fun id st1 r1 hF => q _ _ _ r1 hF

/- the two lists of losses put together -/
theorem ok_join {ls : List V} {z : HS × List V} {i j : Nat} {st' : ASt} {loc' : Loc} (r1 : Rep X loc' z.1 ((F.add i ⟨0, .list (ls.map enc)⟩).add j ⟨0, .list (z.2.map enc)⟩) st') (h : joinL ls z = some r) (q : ∀ loc' id st', Rep X loc' r.1 (F.add id ⟨0, .list (r.2.map enc)⟩) st' → (∀ o, ¬ F id o) → Q (.obj id) st') : wp (addL i j) st' Q := by
  unfold joinL at h
  by_cases hz : ls.length + z.2.length ≤ 1000000
  · rw [if_pos hz] at h; o_facts h
    refine add_lists (r1.frame _ _ (.inl (.inr ⟨rfl, rfl⟩))).at (r1.frame _ _ (.inr ⟨rfl, rfl⟩)).at (by rw [List.length_map, List.length_map]; exact hz) ?_
    refine wp_new r1 fun id st2 r2 hF _ => ?_
    rw [← List.map_append] at r2
    exact q _ _ _ r2.mid.mid (Frm.sub (Frm.sub hF))
  · rw [if_neg hz] at h; o_facts h

theorem ok_put {x y : Int} (r0 : Rep X loc H F st) (h : H.put x k y = some r) (q : ∀ loc' id st', Rep X loc' r.1 (F.add id ⟨0, .list (r.2.map enc)⟩) st' → (∀ o, ¬ F id o) → Q (.obj id) st') : wp ((R (n + 33)).call "put" [.inst "Counted" X.root, .int x, .int k, .int y]) st Q := by
  unfold HS.put at h
  refine bind_K h fun b hn h => ?_
  walk_at "fn"
  cases b with
  | false =>
    rw [if_neg (by decide)] at h; o_facts h
    with_unfolding_all refine ok_has_elements ‹_› ‹_› ?_
    with_unfolding_all refine br_t rfl ?_
    with_unfolding_all refine wp_new ‹_› (fun _ _ _ _ _ => ?_)
    exact q _ _ _ (by assumption) (by assumption)
  | true =>
    rw [if_pos rfl] at h
    refine bind_K h fun v hv h => ?_
    refine bind_K h fun z hc h => ?_
    refine bind_K h fun u hw h => ?_
    refine e1a1 (pl_slots (written_pl hw)) fun cz hz => ?_
    with_unfolding_all refine ok_has_elements ‹_› ‹_› ?_
    with_unfolding_all refine br_f rfl ?_
    with_unfolding_all refine ok_value_of ‹_› ‹_› ?_
    walk_at "stop"
    refine ok_gain r0 fun st2 r2 _ => ?_
    walk_at "stop"
    refine ok_container r2 hc fun loc3 i st3 r3 hF3 => ?_
    with_unfolding_all refine attr_get rfl (Rep.cell ‹_› ‹_›) rfl ?_
    walk_at "stop"
    refine ok_written (p := .slots z.2.1) r3 hw fun j st4 r4 hF4 => ?_
    walk_at "stop"
    exact ok_join r4 h q

theorem ok_put_ref {x y : Int} (r0 : Rep X loc H F st) (h : H.putRef x k y = some r) (q : ∀ loc' id st', Rep X loc' r.1 (F.add id ⟨0, .list (r.2.map enc)⟩) st' → (∀ o, ¬ F id o) → Q (.obj id) st') : wp ((R (n + 33)).call "put_ref" [.inst "Counted" X.root, .int x, .int k, .int y]) st Q := by
  unfold HS.putRef at h
  refine bind_K h fun b hn h => ?_
  walk_at "fn"
  cases b with
  | false =>
    rw [if_neg (by decide)] at h; o_facts h
    with_unfolding_all refine ok_has_elements ‹_› ‹_› ?_
    with_unfolding_all refine br_t rfl ?_
    with_unfolding_all refine wp_new ‹_› (fun _ _ _ _ _ => ?_)
    exact q _ _ _ (by assumption) (by assumption)
  | true =>
    rw [if_pos rfl] at h
    refine bind_K h fun v hv h => ?_
    refine bind_K h fun z hc h => ?_
    refine bind_K h fun u hw h => ?_
    refine e1a1 (pl_slots (replaced_pl hw)) fun cz hz => ?_
    with_unfolding_all refine ok_has_elements ‹_› ‹_› ?_
    with_unfolding_all refine br_f rfl ?_
    with_unfolding_all refine attr_get rfl (Rep.root ‹_›) rfl ?_
    walk_at "stop"
    refine ok_ref_in r0 hv fun loc1 st1 r1 => ?_
    walk_at "stop"
    refine ok_gain r1 fun st2 r2 _ => ?_
    walk_at "stop"
    refine ok_container r2 hc fun loc3 i st3 r3 hF3 => ?_
    with_unfolding_all refine attr_get rfl (Rep.cell ‹_› ‹_›) rfl ?_
    walk_at "stop"
    refine ok_replaced (p := .slots z.2.1) r3 hw fun j st4 r4 hF4 => ?_
    walk_at "stop"
    exact ok_join r4 h q

theorem ok_unset_at {x : Int} (r0 : Rep X loc H F st) (h : H.unsetAt x k = some r) (q : ∀ loc' id st', Rep X loc' r.1 (F.add id ⟨0, .list (r.2.map enc)⟩) st' → (∀ o, ¬ F id o) → Q (.obj id) st') : wp ((R (n + 33)).call "unset_at" [.inst "Counted" X.root, .int x, .int k]) st Q := by
  unfold HS.unsetAt at h
  refine bind_K h fun b hn h => ?_
  walk_at "fn"
  cases b with
  | false =>
    rw [if_neg (by decide)] at h; o_facts h
    with_unfolding_all refine ok_has_elements ‹_› ‹_› ?_
    with_unfolding_all refine br_t rfl ?_
    with_unfolding_all refine wp_new ‹_› (fun _ _ _ _ _ => ?_)
    exact q _ _ _ (by assumption) (by assumption)
  | true =>
    rw [if_pos rfl] at h
    refine bind_K h fun z hc h => ?_
    refine bind_K h fun u hw h => ?_
    refine e1a1 (pl_slots (takenOut_pl hw)) fun cz hz => ?_
    with_unfolding_all refine ok_has_elements ‹_› ‹_› ?_
    with_unfolding_all refine br_f rfl ?_
    walk_at "stop"
    refine ok_container r0 hc fun loc3 i st3 r3 hF3 => ?_
    with_unfolding_all refine attr_get rfl (Rep.cell ‹_› ‹_›) rfl ?_
    walk_at "stop"
    refine ok_taken_out (p := .slots z.2.1) r3 hw fun j st4 r4 hF4 => ?_
    walk_at "stop"
    exact ok_join r4 h q
end
end
/-! P7 -/
section
set_option maxRecDepth 100000
set_option autoImplicit false
set_option maxHeartbeats 8000000

inductive D where
  | setInt (x i : Int) | newArray (x : Int) | newObject (x : Int) (b : Bool) | assign (x y : Int) | put (x k y : Int) | take (x y k : Int) | makeRef (x y : Int) | putRef (x k y : Int) | unset (x : Int) | unsetAt (x k : Int)
  deriving DecidableEq
noncomputable def D.name : D → Str
  | .setInt .. => "set_int"
  | .newArray .. => "new_array"
  | .newObject .. => "new_object"
  | .assign .. => "assign"
  | .put .. => "put"
  | .take .. => "take"
  | .makeRef .. => "make_ref"
  | .putRef .. => "put_ref"
  | .unset .. => "unset"
  | .unsetAt .. => "unset_at"
noncomputable def D.args : D → List AVal
  | .setInt x i => [.int x, .int i]
  | .newArray x => [.int x]
  | .newObject x b => [.int x, .bool b]
  | .assign x y => [.int x, .int y]
  | .put x k y => [.int x, .int k, .int y]
  | .take x y k => [.int x, .int y, .int k]
  | .makeRef x y => [.int x, .int y]
  | .putRef x k y => [.int x, .int k, .int y]
  | .unset x => [.int x]
  | .unsetAt x k => [.int x, .int k]
noncomputable def encD (d : D) : AVal := .tup [.str d.name, .tup d.args]
noncomputable def HS.change (H : HS) : D → Option (HS × List V)
  | .setInt x i => H.setInt x i
  | .newArray x => H.newArray x
  | .newObject x b => H.newObject x b
  | .assign x y => H.assign x y
  | .put x k y => H.put x k y
  | .take x y k => H.take x y k
  | .makeRef x y => H.makeRef x y
  | .putRef x k y => H.putRef x k y
  | .unset x => H.unset x
  | .unsetAt x k => H.unsetAt x k



section
variable {X : HIds} {loc : Loc} {H H' : HS} {F : Frm} {st : ASt} {n : Nat} {v w : V} {c : C} {Q : AVal → ASt → Prop} {U : Unit → ASt → Prop} {p : Pl} {k : Int} {r : HS × List V}


theorem ok_change {d : D} (r0 : Rep X loc H F st) (h : H.change d = some r) (q : ∀ loc' id st', Rep X loc' r.1 (F.add id ⟨0, .list (r.2.map enc)⟩) st' → (∀ o, ¬ F id o) → Q (.obj id) st') : wp ((R (n + 37)).call "change" [.inst "Counted" X.root, .str d.name, .tup d.args]) st Q := by
  walk_at "fn"
  cases d
  · dsimp only [D.name, D.args]; with_unfolding_all refine aeq_lit rfl rfl ?_; with_unfolding_all refine br_t rfl ?_; with_unfolding_all refine item_tup (by decide) rfl ?_; with_unfolding_all refine item_tup (by decide) rfl ?_; walk_at "stop"; exact ok_set_int r0 h q
  · dsimp only [D.name, D.args]; with_unfolding_all refine aeq_lit rfl rfl ?_; with_unfolding_all refine br_f rfl ?_; with_unfolding_all refine aeq_lit rfl rfl ?_; with_unfolding_all refine br_t rfl ?_; with_unfolding_all refine item_tup (by decide) rfl ?_; walk_at "stop"; exact ok_new_array r0 h q
  · dsimp only [D.name, D.args]; with_unfolding_all refine aeq_lit rfl rfl ?_; with_unfolding_all refine br_f rfl ?_; with_unfolding_all refine aeq_lit rfl rfl ?_; with_unfolding_all refine br_f rfl ?_; with_unfolding_all refine aeq_lit rfl rfl ?_; with_unfolding_all refine br_t rfl ?_; with_unfolding_all refine item_tup (by decide) rfl ?_; with_unfolding_all refine item_tup (by decide) rfl ?_; walk_at "stop"; exact ok_new_object r0 h q
  · dsimp only [D.name, D.args]; with_unfolding_all refine aeq_lit rfl rfl ?_; with_unfolding_all refine br_f rfl ?_; with_unfolding_all refine aeq_lit rfl rfl ?_; with_unfolding_all refine br_f rfl ?_; with_unfolding_all refine aeq_lit rfl rfl ?_; with_unfolding_all refine br_f rfl ?_; with_unfolding_all refine aeq_lit rfl rfl ?_; with_unfolding_all refine br_t rfl ?_; with_unfolding_all refine item_tup (by decide) rfl ?_; with_unfolding_all refine item_tup (by decide) rfl ?_; walk_at "stop"; exact ok_assign r0 h q
  · dsimp only [D.name, D.args]; with_unfolding_all refine aeq_lit rfl rfl ?_; with_unfolding_all refine br_f rfl ?_; with_unfolding_all refine aeq_lit rfl rfl ?_; with_unfolding_all refine br_f rfl ?_; with_unfolding_all refine aeq_lit rfl rfl ?_; with_unfolding_all refine br_f rfl ?_; with_unfolding_all refine aeq_lit rfl rfl ?_; with_unfolding_all refine br_f rfl ?_; with_unfolding_all refine aeq_lit rfl rfl ?_; with_unfolding_all refine br_t rfl ?_; with_unfolding_all refine item_tup (by decide) rfl ?_; with_unfolding_all refine item_tup (by decide) rfl ?_; with_unfolding_all refine item_tup (by decide) rfl ?_; walk_at "stop"; exact ok_put r0 h q
  · dsimp only [D.name, D.args]; with_unfolding_all refine aeq_lit rfl rfl ?_; with_unfolding_all refine br_f rfl ?_; with_unfolding_all refine aeq_lit rfl rfl ?_; with_unfolding_all refine br_f rfl ?_; with_unfolding_all refine aeq_lit rfl rfl ?_; with_unfolding_all refine br_f rfl ?_; with_unfolding_all refine aeq_lit rfl rfl ?_; with_unfolding_all refine br_f rfl ?_; with_unfolding_all refine aeq_lit rfl rfl ?_; with_unfolding_all refine br_f rfl ?_; with_unfolding_all refine aeq_lit rfl rfl ?_; with_unfolding_all refine br_t rfl ?_; with_unfolding_all refine item_tup (by decide) rfl ?_; with_unfolding_all refine item_tup (by decide) rfl ?_; with_unfolding_all refine item_tup (by decide) rfl ?_; walk_at "stop"; exact ok_take r0 h q
  · dsimp only [D.name, D.args]; with_unfolding_all refine aeq_lit rfl rfl ?_; with_unfolding_all refine br_f rfl ?_; with_unfolding_all refine aeq_lit rfl rfl ?_; with_unfolding_all refine br_f rfl ?_; with_unfolding_all refine aeq_lit rfl rfl ?_; with_unfolding_all refine br_f rfl ?_; with_unfolding_all refine aeq_lit rfl rfl ?_; with_unfolding_all refine br_f rfl ?_; with_unfolding_all refine aeq_lit rfl rfl ?_; with_unfolding_all refine br_f rfl ?_; with_unfolding_all refine aeq_lit rfl rfl ?_; with_unfolding_all refine br_f rfl ?_; with_unfolding_all refine aeq_lit rfl rfl ?_; with_unfolding_all refine br_t rfl ?_; with_unfolding_all refine item_tup (by decide) rfl ?_; with_unfolding_all refine item_tup (by decide) rfl ?_; walk_at "stop"; exact ok_make_ref r0 h q
  · dsimp only [D.name, D.args]; with_unfolding_all refine aeq_lit rfl rfl ?_; with_unfolding_all refine br_f rfl ?_; with_unfolding_all refine aeq_lit rfl rfl ?_; with_unfolding_all refine br_f rfl ?_; with_unfolding_all refine aeq_lit rfl rfl ?_; with_unfolding_all refine br_f rfl ?_; with_unfolding_all refine aeq_lit rfl rfl ?_; with_unfolding_all refine br_f rfl ?_; with_unfolding_all refine aeq_lit rfl rfl ?_; with_unfolding_all refine br_f rfl ?_; with_unfolding_all refine aeq_lit rfl rfl ?_; with_unfolding_all refine br_f rfl ?_; with_unfolding_all refine aeq_lit rfl rfl ?_; with_unfolding_all refine br_f rfl ?_; with_unfolding_all refine aeq_lit rfl rfl ?_; with_unfolding_all refine br_t rfl ?_; with_unfolding_all refine item_tup (by decide) rfl ?_; with_unfolding_all refine item_tup (by decide) rfl ?_; with_unfolding_all refine item_tup (by decide) rfl ?_; walk_at "stop"; exact ok_put_ref r0 h q
  · dsimp only [D.name, D.args]; with_unfolding_all refine aeq_lit rfl rfl ?_; with_unfolding_all refine br_f rfl ?_; with_unfolding_all refine aeq_lit rfl rfl ?_; with_unfolding_all refine br_f rfl ?_; with_unfolding_all refine aeq_lit rfl rfl ?_; with_unfolding_all refine br_f rfl ?_; with_unfolding_all refine aeq_lit rfl rfl ?_; with_unfolding_all refine br_f rfl ?_; with_unfolding_all refine aeq_lit rfl rfl ?_; with_unfolding_all refine br_f rfl ?_; with_unfolding_all refine aeq_lit rfl rfl ?_; with_unfolding_all refine br_f rfl ?_; with_unfolding_all refine aeq_lit rfl rfl ?_; with_unfolding_all refine br_f rfl ?_; with_unfolding_all refine aeq_lit rfl rfl ?_; with_unfolding_all refine br_f rfl ?_; with_unfolding_all refine aeq_lit rfl rfl ?_; with_unfolding_all refine br_t rfl ?_; with_unfolding_all refine item_tup (by decide) rfl ?_; walk_at "stop"; exact ok_unset r0 h q
  · dsimp only [D.name, D.args]; with_unfolding_all refine aeq_lit rfl rfl ?_; with_unfolding_all refine br_f rfl ?_; with_unfolding_all refine aeq_lit rfl rfl ?_; with_unfolding_all refine br_f rfl ?_; with_unfolding_all refine aeq_lit rfl rfl ?_; with_unfolding_all refine br_f rfl ?_; with_unfolding_all refine aeq_lit rfl rfl ?_; with_unfolding_all refine br_f rfl ?_; with_unfolding_all refine aeq_lit rfl rfl ?_; with_unfolding_all refine br_f rfl ?_; with_unfolding_all refine aeq_lit rfl rfl ?_; with_unfolding_all refine br_f rfl ?_; with_unfolding_all refine aeq_lit rfl rfl ?_; with_unfolding_all refine br_f rfl ?_; with_unfolding_all refine aeq_lit rfl rfl ?_; with_unfolding_all refine br_f rfl ?_; with_unfolding_all refine aeq_lit rfl rfl ?_; with_unfolding_all refine br_f rfl ?_; with_unfolding_all refine aeq_lit rfl rfl ?_; with_unfolding_all refine br_t rfl ?_; with_unfolding_all refine item_tup (by decide) rfl ?_; with_unfolding_all refine item_tup (by decide) rfl ?_; walk_at "stop"; exact ok_unset_at r0 h q
end
end
/-! P8 -/
section
set_option maxRecDepth 100000
set_option autoImplicit false
set_option maxHeartbeats 8000000

inductive T where
  | lose (v : V) | deed (d : D)
  deriving DecidableEq
noncomputable def encT : T → AVal
  | .lose v => .tup [.str "lose", enc v]
  | .deed d => .tup [.str "deed", encD d]

noncomputable def HS.mark (H : HS) (m : Int) (d : C) : Option HS := if d.buf then some H else if H.buffer.length ≤ 1000000 then some { H.setC m { d with colour := "purple", buf := true } with buffer := H.buffer ++ [m] } else none
noncomputable def HS.suspect (H : HS) (a : Int) : Option HS := (getK a H.cells).bind fun c => if c.sort = .ref then (getK 0 c.slots).bind fun v => match H.cellOf v with
  | none => some H
  | some d => H.mark v.num d
  else H.mark a c
noncomputable def vals (l : List (Int × V)) : Option (List V) := if l.length ≤ 1000000 then (l.map (·.1)).mapM fun k => getK k l else none
noncomputable def HS.unbuf (H : HS) (a : Int) (c : C) : Option (List Int) := if c.buf then if a ∈ H.buffer ∧ H.buffer.length ≤ 1000000 then some (H.buffer.erase a) else none else some H.buffer
noncomputable def HS.freeCell (H : HS) (a : Int) : Option (HS × List V) := (getK a H.cells).bind fun c => (vals c.slots).bind fun vs => (H.unbuf a c).bind fun b => if H.cells.length ≤ 1000000 ∧ H.log.length ≤ 1000000 ∧ vs.length ≤ 1000000 then some ({ H with cells := delK a H.cells, buffer := b, freed := H.freed + 1, log := H.log ++ [.free a] }, vs) else none
/- the plan, as it lies -/
noncomputable def PlanAt (F : Frm) (i : Nat) (P : List (Int × List D)) : Prop := ∃ vp l, F i ⟨vp, .idict l⟩ ∧ ∀ k, (getK k P = none → getK k l = none) ∧ ∀ ds, getK k P = some ds → ∃ j v, getK k l = some (.obj j) ∧ F j ⟨v, .list (ds.map encD)⟩
theorem PlanAt.add {F : Frm} {i j : Nat} {o : AObj} {P : List (Int × List D)} (h : PlanAt F i P) : PlanAt (F.add j o) i P := by
  refine e2a2 (h) fun vp l h1 h2 => ?_
  exact ⟨vp, l, .inl h1, fun k => ⟨(h2 k).1, fun ds e => let ⟨j, v, a, b⟩ := (h2 k).2 ds e; ⟨j, v, a, .inl b⟩⟩⟩
noncomputable def planOf (P : List (Int × List D)) (a : Int) : List D := (getK a P).getD []
noncomputable def HS.beginD (H : HS) (P : List (Int × List D)) (a : Int) : Option (HS × List T) := (getK a H.cells).bind fun c => if H.log.length ≤ 1000000 ∧ (planOf P a).length ≤ 100000 then ((({ H.setC a { c with isD := true } with log := H.log ++ [.destruct a] } : HS).gain (.cell a)).setVar (-a) (.cell a)).map fun H2 => (H2, (planOf P a).map .deed ++ [.deed (.unset (-a))]) else none
/- the tasks come with the next one ahead -/
noncomputable def HS.lose (H : HS) (P : List (Int × List D)) (v : V) : Option (HS × List T) := match H.cellOf v with
  | none => some (H, [])
  | some c => if c.count - 1 > 0 then ((H.setC v.num { c with count := c.count - 1 }).suspect v.num).map fun H2 => (H2, [])
    else if c.hasD = true ∧ c.isD = false then (H.setC v.num { c with count := c.count - 1 }).beginD P v.num
    else ((H.setC v.num { c with count := c.count - 1 }).freeCell v.num).map fun z => (z.1, z.2.map .lose)

theorem putK_putK {α : Type} {k : Int} {v w : α} : ∀ {l : List (Int × α)}, putK k w (putK k v l) = putK k w l
  | [] => by show (if k = k then [(k, w)] else _) = [(k, w)]; rw [if_pos rfl]
  | (j, u) :: r => by
    show putK k w (if j = k then (j, v) :: r else (j, u) :: putK k v r) = if j = k then (j, w) :: r else (j, u) :: putK k w r
    by_cases q : j = k
    · rw [if_pos q, if_pos q]; show (if j = k then _ else _) = _; rw [if_pos q]
    · rw [if_neg q, if_neg q]; show (if j = k then _ else _ :: putK k w _) = _; rw [if_neg q, putK_putK]
theorem setC_setC {H : HS} {a : Int} {c d : C} : (H.setC a c).setC a d = H.setC a d := by unfold HS.setC; rw [show putK a d (putK a c H.cells) = putK a d H.cells from putK_putK]
theorem setC_get {H : HS} {a : Int} {c : C} : getK a (H.setC a c).cells = some c := by show getK a (putK a c H.cells) = _; rw [getK_putK, if_pos rfl]
theorem delK_putK {α : Type} {k : Int} {v : α} : ∀ {l : List (Int × α)}, delK k (putK k v l) = delK k l
  | [] => by show List.filter _ [(k, v)] = []; simp
  | (j, u) :: r => by
    have ih := delK_putK (k := k) (v := v) (l := r)
    show delK k (if j = k then (j, v) :: r else (j, u) :: putK k v r) = _
    by_cases q : j = k
    · rw [if_pos q]; unfold delK; rw [List.filter_cons_of_neg (by simpa using q), List.filter_cons_of_neg (by simpa using q)]
    · rw [if_neg q]; unfold delK at ih ⊢; rw [List.filter_cons_of_pos (by simpa using q), List.filter_cons_of_pos (by simpa using q), ih]

section
variable {X : HIds} {loc : Loc} {H H' : HS} {F : Frm} {st : ASt} {n : Nat} {v w : V} {c : C} {Q : AVal → ASt → Prop} {U : Unit → ASt → Prop} {p : Pl} {k a : Int} {r : HS × List V}

theorem tmp_append {i vr : Nat} {l : List AVal} {x : AVal} (r : Rep X loc H (F.add i ⟨vr, .list l⟩) st) (hF : ∀ o, ¬ F i o) (hz : l.length ≤ 1000000) (q : ∀ st', Rep X loc H (F.add i ⟨vr + 1, .list (l ++ [x])⟩) st' → (∀ j, j ≠ i → st'.get j = st.get j) → Q .none st') : wp (methL i "append" [x]) st Q :=
  m_append (r.frame _ _ (.inr ⟨rfl, rfl⟩)).at hz (q _ (r.put_tmp hF) fun _ hj => if_neg hj)
theorem set_slots {b vb : Nat} {l : List (Int × V)} (r : Rep X loc H (F.add b ⟨vb, .idict (encM l)⟩) st) (h : getK a H.cells = some c) (hFb : ∀ o, ¬ F b o) (q : ∀ loc' st', Rep X loc' (H.setC a { c with slots := l }) F st' → loc'.cell a = loc.cell a → U () st') : wp (attrSet (.inst "Cell" (loc.cell a)) "slots" (.obj b)) st U :=
  attr_set rfl (r.cell h) (by show (10 : Nat) ≤ 100; decide) (q _ _ (r.new_slots h hFb rfl) rfl)
theorem Rep.frame_add {i : Nat} (r : Rep X loc H F st) (hi : i < st.next) (ho : ∀ t, (content X loc H t).isSome → t.id X loc ≠ i) : Rep X loc H (F.add i (st.get i)) st := by
  refine ⟨r.dat, r.inj, fun j o h => ?_, fun j o h t ht => ?_⟩
  · rcases h with h | ⟨rfl, rfl⟩
    · exact r.frame j o h
    · exact ⟨hi, rfl⟩
  · rcases h with h | ⟨rfl, rfl⟩
    · exact r.off j o h t ht
    · exact ho t ht
theorem del_cells (r : Rep X loc H F st) (h : getK a H.cells = some c) (hz : H.cells.length ≤ 1000000) (q : ∀ o st', Rep X loc { H with cells := delK a H.cells } (F.add (loc.cell a) o) st' → o.data = .sdict (cellL (loc.slot a) a c) → U () st') : wp (itemDel (.obj X.cells) (.int a)) st U := by
  refine del_idict r.cells ⟨by unfold cellsA; rw [getK_mapv, h]; rfl, by unfold cellsA; rw [List.length_map]; exact hz⟩ ?_
  have r' := r.del_cell (n := a) rfl
  have hne : loc.cell a ≠ X.cells := fun e => by
    have := r.inj (.cell a) .cells (by show ((getK a H.cells).map _).isSome = true; rw [h]; rfl) rfl e
    cases this
  have hat := At_put_ne (d := .idict (delK a (cellsA loc H.cells))) (r.cell h) hne
  refine q _ _ (r'.frame_add hat.1 fun t ht e => ?_) hat.2
  have hl : (content X loc H t).isSome ∧ t ≠ .cell a := by
    cases t with
    | cell m =>
      have ht : ((getK m (delK a H.cells)).map fun c => AData.sdict (cellL (loc.slot m) m c)).isSome = true := ht
      rw [getK_delK] at ht
      by_cases e : m = a
      · rw [if_pos e] at ht; o_facts ht
      · rw [if_neg e] at ht; exact ⟨ht, fun q => e (by cases q; rfl)⟩
    | slot m =>
      have ht : ((getK m (delK a H.cells)).map fun c => AData.idict (encM c.slots)).isSome = true := ht
      rw [getK_delK] at ht
      by_cases e : m = a
      · rw [if_pos e] at ht; o_facts ht
      · rw [if_neg e] at ht; exact ⟨ht, fun q => by cases q⟩
    | _ => exact ⟨rfl, fun q => by cases q⟩
  exact hl.2 (r.inj t (.cell a) hl.1 (by show ((getK a H.cells).map _).isSome = true; rw [h]; rfl) e)


theorem ok_suspect (r0 : Rep X loc H F st) (h : H.suspect a = some H') (q : ∀ st', Rep X loc H' F st' → Q .none st') : wp ((R (n + 13)).call "suspect" [.inst "Counted" X.root, .inst "Cell" (loc.cell a)]) st Q := by
  unfold HS.suspect at h
  refine bind_K h fun c hc h => ?_
  walk_at "fn"
  by_cases hs : c.sort = .ref
  · rw [if_pos hs] at h
    have hs' : decide (c.sort = .ref) = true := by simpa using hs
    refine bind_K h fun v hv h => ?_
    cases hw : H.cellOf v with
    | none =>
      rw [hw] at h; o_facts h
      with_unfolding_all refine attr_get rfl (Rep.cell ‹_› ‹_›) rfl ?_
      with_unfolding_all refine aeq_ref ?_
      with_unfolding_all refine br_t ‹_› ?_
      with_unfolding_all refine attr_get rfl (Rep.cell ‹_› ‹_›) rfl ?_
      with_unfolding_all refine item_m (Rep.slot ‹_› ‹_›) ‹_› ?_
      with_unfolding_all refine ok_cell_of_n ‹_› ‹_› ?_
      with_unfolding_all refine br_f rfl ?_
      with_unfolding_all refine br_f rfl ?_
      exact q _ r0
    | some d =>
      rw [hw] at h
      have h : H.mark v.num d = some H' := h
      have hd := cellOf_get hw
      unfold HS.mark at h
      cases hb : d.buf with
      | true =>
        rw [hb, if_pos rfl] at h; o_facts h
        have hb' : (!d.buf) = false := by rw [hb]; rfl
        with_unfolding_all refine attr_get rfl (Rep.cell ‹_› ‹_›) rfl ?_
        with_unfolding_all refine aeq_ref ?_
        with_unfolding_all refine br_t ‹_› ?_
        with_unfolding_all refine attr_get rfl (Rep.cell ‹_› ‹_›) rfl ?_
        with_unfolding_all refine item_m (Rep.slot ‹_› ‹_›) ‹_› ?_
        with_unfolding_all refine ok_cell_of_s ‹_› ‹_› ?_
        with_unfolding_all refine br_t rfl ?_
        with_unfolding_all refine attr_get rfl (Rep.cell ‹_› ‹_›) rfl ?_
        with_unfolding_all refine br_f ‹_› ?_
        exact q _ r0
      | false =>
        rw [hb, if_neg (by decide)] at h
        have hb' : (!d.buf) = true := by rw [hb]; rfl
        by_cases hz : H.buffer.length ≤ 1000000
        · rw [if_pos hz] at h; o_facts h
          with_unfolding_all refine attr_get rfl (Rep.cell ‹_› ‹_›) rfl ?_
          with_unfolding_all refine aeq_ref ?_
          with_unfolding_all refine br_t ‹_› ?_
          with_unfolding_all refine attr_get rfl (Rep.cell ‹_› ‹_›) rfl ?_
          with_unfolding_all refine item_m (Rep.slot ‹_› ‹_›) ‹_› ?_
          with_unfolding_all refine ok_cell_of_s ‹_› ‹_› ?_
          with_unfolding_all refine br_t rfl ?_
          with_unfolding_all refine attr_get rfl (Rep.cell ‹_› ‹_›) rfl ?_
          with_unfolding_all refine br_t ‹_› ?_
          walk_at "stop"
          refine set_colour r0 hd fun st1 r1 => ?_
          walk_at "stop"
          refine set_buf r1 setC_get fun st2 r2 => ?_
          rw [setC_setC] at r2
          have hd2 : getK v.num (H.setC v.num { d with colour := "purple", buf := true }).cells = some { d with colour := "purple", buf := true } := setC_get
          with_unfolding_all refine attr_get rfl (Rep.root ‹_›) rfl ?_
          with_unfolding_all refine isL_at (Rep.buffer ‹_›) ?_
          with_unfolding_all refine attr_get rfl (Rep.cell ‹_› ‹_›) rfl ?_
          walk_at "stop"
          refine buf_append r2 hz fun st3 r3 => ?_
          skip
          exact q _ r3
        · rw [if_neg hz] at h; o_facts h
  · rw [if_neg hs] at h
    have hs' : decide (c.sort = .ref) = false := by simpa using hs
    unfold HS.mark at h
    cases hb : c.buf with
    | true =>
      rw [hb, if_pos rfl] at h; o_facts h
      have hb' : (!c.buf) = false := by rw [hb]; rfl
      with_unfolding_all refine attr_get rfl (Rep.cell ‹_› ‹_›) rfl ?_
      with_unfolding_all refine aeq_ref ?_
      with_unfolding_all refine br_f ‹_› ?_
      with_unfolding_all refine br_t rfl ?_
      with_unfolding_all refine attr_get rfl (Rep.cell ‹_› ‹_›) rfl ?_
      with_unfolding_all refine br_f ‹_› ?_
      exact q _ r0
    | false =>
      rw [hb, if_neg (by decide)] at h
      have hb' : (!c.buf) = true := by rw [hb]; rfl
      by_cases hz : H.buffer.length ≤ 1000000
      · rw [if_pos hz] at h; o_facts h
        with_unfolding_all refine attr_get rfl (Rep.cell ‹_› ‹_›) rfl ?_
        with_unfolding_all refine aeq_ref ?_
        with_unfolding_all refine br_f ‹_› ?_
        with_unfolding_all refine br_t rfl ?_
        with_unfolding_all refine attr_get rfl (Rep.cell ‹_› ‹_›) rfl ?_
        with_unfolding_all refine br_t ‹_› ?_
        walk_at "stop"
        refine set_colour r0 hc fun st1 r1 => ?_
        walk_at "stop"
        refine set_buf r1 setC_get fun st2 r2 => ?_
        rw [setC_setC] at r2
        have hd2 : getK a (H.setC a { c with colour := "purple", buf := true }).cells = some { c with colour := "purple", buf := true } := setC_get
        with_unfolding_all refine attr_get rfl (Rep.root ‹_›) rfl ?_
        with_unfolding_all refine isL_at (Rep.buffer ‹_›) ?_
        with_unfolding_all refine attr_get rfl (Rep.cell ‹_› ‹_›) rfl ?_
        walk_at "stop"
        refine buf_append r2 hz fun st3 r3 => ?_
        skip
        exact q _ r3
      · rw [if_neg hz] at h; o_facts h
end
end
/-! P9 -/
section
set_option maxRecDepth 100000
set_option autoImplicit false
set_option maxHeartbeats 8000000

section
variable {X : HIds} {loc : Loc} {H H' : HS} {F : Frm} {st : ASt} {n : Nat} {v w : V} {c : C} {Q : AVal → ASt → Prop} {U : Unit → ASt → Prop} {p : Pl} {k a : Int} {P : List (Int × List D)}


theorem ok_losing {i : Nat} {vs : List V} (r0 : Rep X loc H F st) (hv : st.At i (.list (vs.map enc))) (hz : vs.length ≤ 1000000) (q : ∀ id st', Rep X loc H (F.add id ⟨0, .list ((vs.map T.lose).reverse.map encT)⟩) st' → (∀ o, ¬ F id o) → Q (.obj id) st') : wp ((R (n + 6)).call "losing" [.obj i]) st Q := by
  walk_at "fn"
  with_unfolding_all refine isL_at ‹_› ?_
  walk_at "stop"
  refine its_z (its_rev hv ⟨by rw [List.length_reverse, List.length_map]; exact hz, ?_⟩)
  walk_at "stop"
  refine compLoop_at (fun x => some (.tup [.str "lose", x])) rfl (fun x hx KY KN hy _ => ?_) ?_
  · with_unfolding_all refine br_t rfl ?_
    exact hy _ _ (by walk_at "sub") rfl
  · walk_at "stop"
    refine wp_new r0 fun id st1 r1 hF _ => ?_
    have e : ((vs.map enc).reverse.filterMap fun x => some (AVal.tup [.str "lose", x])) = (vs.map T.lose).reverse.map encT := by
      rw [List.filterMap_eq_map', ← List.map_reverse, ← List.map_reverse, List.map_map, List.map_map]; rfl
    rw [e] at r1
    exact q _ _ r1 hF

theorem ok_cleared {m : Int} (r0 : Rep X loc H F st) (q : ∀ id st', Rep X loc H (F.add id ⟨0, .list []⟩) st' → (∀ o, ¬ F id o) → Q (.obj id) st') : wp ((R (n + 6)).call "cleared" [.inst "Counted" X.root, .int m]) st Q := by
  walk_at "fn"
  with_unfolding_all refine wp_new ‹_› (fun _ _ _ _ _ => ?_)
  with_unfolding_all refine attr_get rfl (Rep.root ‹_›) rfl ?_
  with_unfolding_all refine loi_l (Rep.tables ‹_›) ?_
  with_unfolding_all refine its_lst (Rep.tables ‹_›) ?_
  walk_at "stop"
  rename_i id st1 r1 hF hs
  refine forLoop_nil rfl ?_
  skip
  exact q _ _ r1 hF

theorem ok_held_by {vs : List V} (r0 : Rep X loc H F st) (hc : getK a H.cells = some c) (h : vals c.slots = some vs) (q : ∀ id vr st', Rep X loc H (F.add id ⟨vr, .list (vs.map enc)⟩) st' → (∀ o, ¬ F id o) → Q (.obj id) st') : wp ((R (n + 8)).call "held_by" [.inst "Counted" X.root, .inst "Cell" (loc.cell a)]) st Q := by
  unfold vals at h
  split at h
  · rename_i hz
    walk_at "fn"
    with_unfolding_all refine attr_get rfl (Rep.root ‹_›) rfl ?_
    with_unfolding_all refine loi_l (Rep.tables ‹_›) ?_
    walk_at "stop"
    refine its_z (its_lst r0.tables ⟨by decide, ?_⟩)
    walk_at "stop"
    refine compLoop_nil rfl ?_
    walk_at "stop"
    refine wp_new r0 fun i st1 r1 hF _ => ?_
    with_unfolding_all refine attr_get rfl (Rep.cell ‹_› ‹_›) rfl ?_
    with_unfolding_all refine loi_k (Rep.slot ‹_› ‹_›) ?_
    with_unfolding_all refine its_keys (Rep.slot ‹_› ‹_›) ?_
    walk_at "stop"
    have hk : ((encM c.slots).map fun p => AVal.int p.1) = (c.slots.map (·.1)).map AVal.int := by unfold encM; rw [List.map_map, List.map_map]; rfl
    rw [hk]
    have hi : loc.slot a ≠ i := r1.off i _ (.inr ⟨rfl, rfl⟩) (.slot a) (by show ((getK a H.cells).map _).isSome = true; rw [hc]; rfl)
    refine forLoop_at (fun us s => ∃ (ks : List Int) (done rest : List V) (vr : Nat), us = ks.map AVal.int ∧ Rep X loc H (F.add i ⟨vr, .list (done.map enc)⟩) s ∧ s.get (loc.slot a) = st1.get (loc.slot a) ∧ ks.mapM (fun k => getK k c.slots) = some rest ∧ done ++ rest = vs ∧ done.length + ks.length ≤ 1000000) ⟨_, [], vs, 0, rfl, r1, rfl, h, rfl, by rw [List.length_map]; simpa using hz⟩ ?_ ?_
    · intro u us s h_; refine e4a6 (h_) fun ks done rest vr hu r2 hs hm hd hl => ?_
      cases ks with
      | nil => o_facts hu
      | cons key ks =>
      rw [List.map_cons] at hu
      o_facts hu
      rw [List.mapM_cons] at hm
      cases h1 : getK key c.slots with
      | none => rw [h1] at hm; o_facts hm
      | some v =>
      rw [h1] at hm
      have hm : (ks.mapM (fun k => getK k c.slots)).bind (fun x => some (v :: x)) = some rest := hm
      cases h2 : ks.mapM (fun k => getK k c.slots) with
      | none => rw [h2] at hm; o_facts hm
      | some rest' =>
      rw [h2] at hm
      o_facts hm
      refine ⟨by show (s.get _).ver = _; rw [hs]; rfl, fun K hn _ => ?_⟩
      with_unfolding_all refine isL_at (Rep.top ‹_›) ?_
      with_unfolding_all refine attr_get rfl (Rep.cell ‹_› ‹_›) rfl ?_
      with_unfolding_all refine item_m (Rep.slot ‹_› ‹_›) ‹_› ?_
      walk_at "stop"
      refine tmp_append r2 hF (by rw [List.length_map]; lia -abstractProof) fun s3 r3 hk3 => ?_
      refine hn _ s3 (by walk_at "sub") ⟨ks, done ++ [v], rest', vr + 1, rfl, by rw [List.map_append]; exact r3, (hk3 _ hi).trans hs, h2, by simpa using hd, ?_⟩
      rw [List.length_append, List.length_singleton]
      rw [List.length_cons] at hl
      lia -abstractProof
    · intro s h_; refine e4a6 (h_) fun ks done rest vr hu r2 hs hm hd hl => ?_
      cases ks with
      | cons => o_facts hu
      | nil =>
      have hm : some ([] : List V) = some rest := hm
      o_facts hm
      rw [List.append_nil] at hd
      subst hd
      refine ⟨by show (s.get _).ver = _; rw [hs]; rfl, ?_⟩
      skip
      exact q _ _ _ r2 hF
  · o_facts h

theorem length_putK_some {α : Type} {k : Int} {v w : α} : ∀ {l : List (Int × α)}, getK k l = some v → (putK k w l).length = l.length
  | (j, u) :: r, h => by
    show (if j = k then (j, w) :: r else (j, u) :: putK k w r).length = _
    by_cases q : j = k
    · rw [if_pos q]; rfl
    · rw [if_neg q]
      rw [getK, if_neg q] at h
      rw [List.length_cons, length_putK_some h]; rfl
theorem ok_free_cell {z : HS × List V} (r0 : Rep X loc H F st) (h : H.freeCell a = some z) (q : ∀ id vr loc' st', Rep X loc' z.1 (F.add id ⟨vr, .list (z.2.map enc)⟩) st' → (∀ o, ¬ F id o) → Q (.obj id) st') : wp ((R (n + 12)).call "free_cell" [.inst "Counted" X.root, .inst "Cell" (loc.cell a)]) st Q := by
  unfold HS.freeCell at h
  refine bind_K h fun c hc h => ?_
  refine bind_K h fun vs hv h => ?_
  refine bind_K h fun b hb h => ?_
  split at h
  case isFalse => o_facts h
  rename_i hz
  o_facts h
  walk_at "fn"
  walk_at "stop"
  refine ok_held_by r0 hc hv fun i vr st1 r1 hF1 => ?_
  with_unfolding_all refine attr_get rfl (Rep.cell ‹_› ‹_›) rfl ?_
  walk_at "stop"
  refine ok_cleared r1 fun i2 st2 r2 hF2 => ?_
  have r2 := r2.drop
  walk_at "stop"
  refine set_weak r2 hc fun st3 r3 => ?_
  have hc3 : getK a (H.setC a c).cells = some c := setC_get
  with_unfolding_all refine mk_new ‹_› (fun _ _ _ _ _ => ?_)
  walk_at "stop"
  rename_i i4 st4 r4 hF4 _
  refine set_slots (l := []) r4 hc3 hF4 fun loc5 st5 r5 hl5 => ?_
  rw [setC_setC] at r5
  rw [← hl5]
  have hc5 : getK a (H.setC a { c with slots := [] }).cells = some { c with slots := [] } := setC_get
  have tail : ∀ (b : List Int) (c6 : C) (st6 : ASt), Rep X loc5 { H.setC a c6 with buffer := b } (F.add i ⟨vr, .list (vs.map enc)⟩) st6 → ∀ (o : AObj) (st7 : ASt), Rep X loc5 { ({ H.setC a c6 with buffer := b } : HS) with cells := delK a (H.setC a c6).cells } ((F.add i ⟨vr, .list (vs.map enc)⟩).add (loc5.cell a) o) st7 → Rep X loc5 { H with cells := delK a H.cells, buffer := b } ((F.add i ⟨vr, .list (vs.map enc)⟩).add (loc5.cell a) o) st7 := fun b c6 st6 _ o st7 r => by
    have e : ({ ({ H.setC a c6 with buffer := b } : HS) with cells := delK a (H.setC a c6).cells } : HS) = { H with cells := delK a H.cells, buffer := b } := by
      unfold HS.setC; simp only; rw [delK_putK]
    rw [e] at r; exact r
  have hlen : ∀ c6, (H.setC a c6).cells.length ≤ 1000000 := fun c6 => by
    show (putK a c6 H.cells).length ≤ _
    rw [length_putK_some hc]; exact hz.1
  unfold HS.unbuf at hb
  cases hbf : c.buf with
  | true =>
    rw [hbf, if_pos rfl] at hb
    split at hb
    case isFalse => o_facts hb
    rename_i hm
    o_facts hb
    with_unfolding_all refine attr_get rfl (Rep.cell ‹_› ‹_›) rfl ?_
    with_unfolding_all refine br_t ‹_› ?_
    walk_at "stop"
    refine set_buf r5 hc5 fun st6 r6 => ?_
    rw [setC_setC] at r6
    have hc6 : getK a (H.setC a { c with slots := [], buf := false }).cells = some { c with slots := [], buf := false } := setC_get
    with_unfolding_all refine attr_get rfl (Rep.root ‹_›) rfl ?_
    with_unfolding_all refine isL_at (Rep.buffer ‹_›) ?_
    with_unfolding_all refine attr_get rfl (Rep.cell ‹_› ‹_›) rfl ?_
    walk_at "stop"
    refine buf_remove r6 hm.1 hm.2 fun st7 r7 => ?_
    have hc7 : getK a ({ H.setC a { c with slots := [], buf := false } with buffer := H.buffer.erase a } : HS).cells = some { c with slots := [], buf := false } := setC_get
    walk_at "stop"
    refine set_fr r7 hc7 fun st8 r8 => ?_
    have r8 : Rep X loc5 { H.setC a { c with slots := [], buf := false, fr := true } with buffer := H.buffer.erase a } (F.add i ⟨vr, .list (vs.map enc)⟩) st8 := by
      have e : ({ H.setC a { c with slots := [], buf := false } with buffer := H.buffer.erase a } : HS).setC a { c with slots := [], buf := false, fr := true } = { H.setC a { c with slots := [], buf := false, fr := true } with buffer := H.buffer.erase a } := by
        simp only [HS.setC, putK_putK]
      rw [← e]; exact r8
    have hc8 : getK a ({ H.setC a { c with slots := [], buf := false, fr := true } with buffer := H.buffer.erase a } : HS).cells = some { c with slots := [], buf := false, fr := true } := setC_get
    with_unfolding_all refine attr_get rfl (Rep.root ‹_›) rfl ?_
    with_unfolding_all refine attr_get rfl (Rep.cell ‹_› ‹_›) rfl ?_
    walk_at "stop"
    refine del_cells r8 hc8 (hlen _) fun o st9 r9 ho => ?_
    have r9 := tail _ _ _ r8 _ _ r9
    with_unfolding_all refine attr_get rfl (Rep.root ‹_›) rfl ?_
    walk_at "stop"
    refine set_freed r9 fun st10 r10 => ?_
    with_unfolding_all refine attr_get rfl (Rep.root ‹_›) rfl ?_
    with_unfolding_all refine isL_at (Rep.log ‹_›) ?_
    walk_at "stop"
    refine attr_get rfl (l := cellL (loc5.slot a) a { c with slots := [], buf := false, fr := true }) (by rw [← ho]; exact (r10.frame _ _ (.inr ⟨rfl, rfl⟩)).at) rfl ?_
    walk_at "stop"
    refine log_append (l := .free a) r10 hz.2.1 fun st11 r11 => ?_
    skip
    exact q _ _ _ _ r11.drop hF1
  | false =>
    rw [hbf, if_neg (by decide)] at hb
    o_facts hb
    with_unfolding_all refine attr_get rfl (Rep.cell ‹_› ‹_›) rfl ?_
    with_unfolding_all refine br_f ‹_› ?_
    walk_at "stop"
    refine set_fr r5 hc5 fun st8 r8 => ?_
    rw [setC_setC] at r8
    have hc8 : getK a (H.setC a { c with slots := [], fr := true }).cells = some { c with slots := [], fr := true } := setC_get
    with_unfolding_all refine attr_get rfl (Rep.root ‹_›) rfl ?_
    with_unfolding_all refine attr_get rfl (Rep.cell ‹_› ‹_›) rfl ?_
    walk_at "stop"
    refine del_cells r8 hc8 (hlen _) fun o st9 r9 ho => ?_
    have r9 := tail _ _ _ r8 _ _ r9
    with_unfolding_all refine attr_get rfl (Rep.root ‹_›) rfl ?_
    walk_at "stop"
    refine set_freed r9 fun st10 r10 => ?_
    with_unfolding_all refine attr_get rfl (Rep.root ‹_›) rfl ?_
    with_unfolding_all refine isL_at (Rep.log ‹_›) ?_
    walk_at "stop"
    refine attr_get rfl (l := cellL (loc5.slot a) a { c with slots := [], fr := true }) (by rw [← ho]; exact (r10.frame _ _ (.inr ⟨rfl, rfl⟩)).at) rfl ?_
    walk_at "stop"
    refine log_append (l := .free a) r10 hz.2.1 fun st11 r11 => ?_
    skip
    exact q _ _ _ _ r11.drop hF1
end
end
/-! P10 -/
section
set_option maxRecDepth 100000
set_option autoImplicit false
set_option maxHeartbeats 8000000

section
variable {X : HIds} {loc : Loc} {H H' : HS} {F : Frm} {st : ASt} {n : Nat} {v w : V} {c : C} {Q : AVal → ASt → Prop} {U : Unit → ASt → Prop} {p : Pl} {k a : Int} {P : List (Int × List D)}


theorem ok_wants (r0 : Rep X loc H F st) (hc : getK a H.cells = some c) (q : Q (.bool (c.hasD && !c.isD)) st) : wp ((R (n + 8)).call "wants_destructor" [.inst "Cell" (loc.cell a)]) st Q := by
  walk_at "fn"
  cases hd : c.hasD with
  | false => rw [hd] at q; have q' : Q (.bool c.hasD) st := by { rw [hd]; exact q }
             with_unfolding_all refine attr_get rfl (Rep.cell ‹_› ‹_›) rfl ?_; with_unfolding_all refine br_f ‹_› ?_; exact q'
  | true => rw [hd] at q; with_unfolding_all refine attr_get rfl (Rep.cell ‹_› ‹_›) rfl ?_; with_unfolding_all refine br_t ‹_› ?_; with_unfolding_all refine attr_get rfl (Rep.cell ‹_› ‹_›) rfl ?_; exact q

theorem ok_begin {z : HS × List T} (r0 : Rep X loc H F st) (hP : PlanAt F X.plan P) (h : H.beginD P a = some z) (q : ∀ id vr st', Rep X loc z.1 (F.add id ⟨vr, .list (z.2.reverse.map encT)⟩) st' → (∀ o, ¬ F id o) → Q (.obj id) st') : wp ((R (n + 14)).call "begin_destructor" [.inst "Counted" X.root, .inst "Cell" (loc.cell a)]) st Q := by
  unfold HS.beginD at h
  refine bind_K h fun c hc h => ?_
  split at h
  case isFalse => o_facts h
  rename_i hz
  first | obtain ⟨H2, hv, rfl⟩ := map_some h | (refine bind_K h fun H2 hv h => ?_; o_facts h)
  unfold HS.setVar at hv
  split at hv
  case isFalse => o_facts hv
  rename_i hz2
  o_facts hv
  walk_at "fn"
  walk_at "stop"
  refine set_isD r0 hc fun st1 r1 => ?_
  have hc1 : getK a (H.setC a { c with isD := true }).cells = some { c with isD := true } := setC_get
  with_unfolding_all refine attr_get rfl (Rep.root ‹_›) rfl ?_
  with_unfolding_all refine isL_at (Rep.log ‹_›) ?_
  with_unfolding_all refine attr_get rfl (Rep.cell ‹_› ‹_›) rfl ?_
  walk_at "stop"
  refine log_append (l := .destruct a) r1 hz.1 fun st2 r2 => ?_
  have r2 : Rep X loc { H.setC a { c with isD := true } with log := H.log ++ [.destruct a] } F st2 := r2
  have hc2 : getK a ({ H.setC a { c with isD := true } with log := H.log ++ [.destruct a] } : HS).cells = some { c with isD := true } := setC_get
  with_unfolding_all refine attr_get rfl (Rep.cell ‹_› ‹_›) rfl ?_
  walk_at "stop"
  refine ok_gain (v := .cell a) r2 fun st3 r3 _ => ?_
  have hc3 : ∃ c3, getK a (({ H.setC a { c with isD := true } with log := H.log ++ [.destruct a] } : HS).gain (.cell a)).cells = some c3 := by
    apply Option.isSome_iff_exists.mp
    rw [gain_keys, hc2]; rfl
  refine e1a1 (hc3) fun c3 hc3 => ?_
  with_unfolding_all refine attr_get rfl (Rep.root ‹_›) rfl ?_
  with_unfolding_all refine attr_get rfl (Rep.cell ‹_› ‹_›) rfl ?_
  walk_at "stop"
  refine set_vars (v := .cell a) r3 hz2 fun st4 r4 => ?_
  have hc4 : getK a ({ (({ H.setC a { c with isD := true } with log := H.log ++ [.destruct a] } : HS).gain (.cell a)) with vars := putK (-a) (.cell a) (({ H.setC a { c with isD := true } with log := H.log ++ [.destruct a] } : HS).gain (.cell a)).vars } : HS).cells = some c3 := hc3
  with_unfolding_all refine attr_get rfl (Rep.cell ‹_› ‹_›) rfl ?_
  with_unfolding_all refine wp_new ‹_› (fun _ _ _ _ _ => ?_)
  with_unfolding_all refine attr_get rfl (Rep.root ‹_›) rfl ?_
  walk_at "stop"
  rename_i t st5 r5 hF5 _
  refine e2a2 (hP) fun vp lp hp1 hp2 => ?_
  refine isI_at (r5.frame _ _ (.inl hp1)).at ?_
  with_unfolding_all refine attr_get rfl (Rep.cell ‹_› ‹_›) rfl ?_
  with_unfolding_all refine wp_new ‹_› (fun _ _ _ _ _ => ?_)
  walk_at "stop"
  rename_i e st6 r6 hF6 _
  refine m_get (r6.frame _ _ (.inl (.inl hp1))).at ?_
  obtain ⟨j, vj, hj1, hj2⟩ : ∃ j vj, (getK a lp).getD (.obj e) = .obj j ∧ (F.add e ⟨0, .list []⟩) j ⟨vj, .list ((planOf P a).map encD)⟩ := by
    unfold planOf
    cases hg : getK a P with
    | none => rw [(hp2 a).1 hg]; exact ⟨e, 0, rfl, .inr ⟨rfl, rfl⟩⟩
    | some ds =>
      refine e2a2 ((hp2 a).2 ds hg) fun j v h1 h2 => ?_
      rw [h1]; exact ⟨j, v, rfl, .inl h2⟩
  have r7 := r6.swap
  have hFt : ∀ o, ¬ (F.add e ⟨0, .list []⟩) t o := fun o h => h.elim (hF5 o) fun h => hF6 _ (.inr ⟨h.1.symm, rfl⟩)
  have hat : st6.At j (.list ((planOf P a).map encD)) := (r7.frame _ _ (.inl hj2)).at
  rw [hj1]
  with_unfolding_all refine isL_at ‹_› ?_
  with_unfolding_all refine its_rev ‹_› ?_
  walk_at "stop"
  rw [← List.map_reverse]
  have hw : ∀ s : ASt, s.Ob j ⟨vj, .list ((planOf P a).map encD)⟩ → (Src.rev j).watch s = (Src.rev j).watch st6 := fun s hs => by
    show (s.get j).ver = (st6.get j).ver
    rw [hs.2, (r7.frame _ _ (.inl hj2)).2]
  refine forLoop_at (fun us s => ∃ (ds done : List D) (vr : Nat), us = ds.map encD ∧ Rep X loc _ ((F.add e ⟨0, .list []⟩).add t ⟨vr, .list ((T.deed (.unset (-a)) :: done.map T.deed).map encT)⟩) s ∧ done ++ ds = (planOf P a).reverse) ⟨_, [], 0, rfl, r7, rfl⟩ ?_ ?_
  · intro u us s h_; refine e3a3 (h_) fun ds done vr hu r8 hd => ?_
    cases ds with
    | nil => o_facts hu
    | cons d ds =>
    rw [List.map_cons] at hu
    o_facts hu
    refine ⟨hw _ (r8.frame _ _ (.inl hj2)), fun K hn _ => ?_⟩
    have hlen : done.length + ds.length + 1 = (planOf P a).length := by
      have := congrArg List.length hd
      rw [List.length_append, List.length_reverse, List.length_cons] at this
      lia -abstractProof
    with_unfolding_all refine isL_at (Rep.top ‹_›) ?_
    walk_at "stop"
    refine tmp_append r8 hFt (by rw [List.length_map, List.length_cons, List.length_map]; lia -abstractProof) fun s3 r3 _ => ?_
    refine hn _ s3 (by walk_at "sub") ⟨ds, done ++ [d], vr + 1, rfl, ?_, by simpa using hd⟩
    have e1 : (T.deed (.unset (-a)) :: (done ++ [d]).map T.deed).map encT = (T.deed (.unset (-a)) :: done.map T.deed).map encT ++ [.tup [.str "deed", encD d]] := by
      rw [List.map_append, ← List.cons_append, List.map_append]; rfl
    rw [e1]; exact r3
  · intro s h_; refine e3a3 (h_) fun ds done vr hu r8 hd => ?_
    cases ds with
    | cons => o_facts hu
    | nil =>
    refine ⟨hw _ (r8.frame _ _ (.inl hj2)), ?_⟩
    skip
    rw [List.append_nil] at hd
    subst hd
    refine q _ vr _ ?_ hF5
    have e1 : ((planOf P a).map T.deed ++ [T.deed (.unset (-a))]).reverse = T.deed (.unset (-a)) :: (planOf P a).reverse.map T.deed := by
      rw [List.reverse_append, List.map_reverse]; rfl
    show Rep X loc _ (F.add t ⟨vr, .list (((planOf P a).map T.deed ++ [T.deed (.unset (-a))]).reverse.map encT)⟩) _
    rw [e1]
    exact r8.mid

theorem ok_lose {z : HS × List T} (r0 : Rep X loc H F st) (hP : PlanAt F X.plan P) (h : H.lose P v = some z) (q : ∀ id vr loc' st', Rep X loc' z.1 (F.add id ⟨vr, .list (z.2.reverse.map encT)⟩) st' → (∀ o, ¬ F id o) → Q (.obj id) st') : wp ((R (n + 20)).call "lose" [.inst "Counted" X.root, enc v]) st Q := by
  unfold HS.lose at h
  walk_at "fn"
  cases hc : H.cellOf v with
  | none =>
    rw [hc] at h; o_facts h
    with_unfolding_all refine ok_cell_of_n ‹_› ‹_› ?_
    with_unfolding_all refine br_t rfl ?_
    with_unfolding_all refine wp_new ‹_› (fun _ _ _ _ _ => ?_)
    exact q _ _ _ _ (by assumption) (by assumption)
  | some c =>
    rw [hc] at h
    have h : (if c.count - 1 > 0 then ((H.setC v.num { c with count := c.count - 1 }).suspect v.num).map fun H2 => (H2, [])
      else if c.hasD = true ∧ c.isD = false then (H.setC v.num { c with count := c.count - 1 }).beginD P v.num
      else ((H.setC v.num { c with count := c.count - 1 }).freeCell v.num).map fun z => (z.1, z.2.map .lose)) = some z := h
    have hg := cellOf_get hc
    with_unfolding_all refine ok_cell_of_s ‹_› ‹_› ?_
    with_unfolding_all refine br_f rfl ?_
    with_unfolding_all refine attr_get rfl (Rep.cell ‹_› ‹_›) rfl ?_
    walk_at "stop"
    refine set_count r0 hg fun st1 r1 _ => ?_
    have hg1 : getK v.num (H.setC v.num { c with count := c.count - 1 }).cells = some { c with count := c.count - 1 } := setC_get
    by_cases hn : c.count - 1 > 0
    · have hn' : decide (c.count - 1 > 0) = true := by simpa using hn
      rw [if_pos hn] at h
      first | obtain ⟨H2, hs, rfl⟩ := map_some h | (refine bind_K h fun H2 hs h => ?_; o_facts h)
      with_unfolding_all refine attr_get rfl (Rep.cell ‹_› ‹_›) rfl ?_
      with_unfolding_all refine br_t ‹_› ?_
      walk_at "stop"
      refine ok_suspect r1 hs fun st2 r2 => ?_
      with_unfolding_all refine wp_new ‹_› (fun _ _ _ _ _ => ?_)
      exact q _ _ _ _ (by assumption) (by assumption)
    · have hn' : decide (c.count - 1 > 0) = false := by simpa using hn
      rw [if_neg hn] at h
      by_cases hd : c.hasD = true ∧ c.isD = false
      · rw [if_pos hd] at h
        have hd' : (c.hasD && !c.isD) = true := by rw [hd.1, hd.2]; rfl
        with_unfolding_all refine attr_get rfl (Rep.cell ‹_› ‹_›) rfl ?_
        with_unfolding_all refine br_f ‹_› ?_
        walk_at "stop"
        refine ok_wants r1 hg1 ?_
        with_unfolding_all refine br_t ‹_› ?_
        walk_at "stop"
        exact ok_begin r1 hP h fun id vr st' r' hF => q _ _ _ _ r' hF
      · rw [if_neg hd] at h
        have hd' : (c.hasD && !c.isD) = false := by
          cases e1 : c.hasD
          · rfl
          · cases e2 : c.isD
            · exact absurd ⟨e1, e2⟩ hd
            · rfl
        first | obtain ⟨y, hf, rfl⟩ := map_some h | (refine bind_K h fun y hf h => ?_; o_facts h)
        have hy : y.2.length ≤ 1000000 := by
          unfold HS.freeCell at hf
          rw [hg1, Option.bind_some] at hf
          refine bind_K hf fun vs h1 hf => ?_
          refine bind_K hf fun b h2 hf => ?_
          split at hf
          · rename_i hz; o_facts hf; exact hz.2.2
          · o_facts hf
        with_unfolding_all refine attr_get rfl (Rep.cell ‹_› ‹_›) rfl ?_
        with_unfolding_all refine br_f ‹_› ?_
        walk_at "stop"
        refine ok_wants r1 hg1 ?_
        with_unfolding_all refine br_f ‹_› ?_
        walk_at "stop"
        refine ok_free_cell r1 hf fun i vr loc2 st2 r2 hF2 => ?_
        walk_at "stop"
        refine ok_losing r2 r2.top hy fun j st3 r3 hF3 => ?_
        skip
        exact q _ _ _ _ r3.mid (Frm.sub hF3)
end
end
/-! P11 -/
section
set_option maxRecDepth 100000
set_option autoImplicit false
set_option maxHeartbeats 1000000

noncomputable def HS.step (P : List (Int × List D)) (H : HS) : T → Option (HS × List T)
  | .lose v => H.lose P v
  | .deed d => (H.change d).map fun z => (z.1, z.2.map .lose)
inductive HRuns (P : List (Int × List D)) : Nat → HS → List T → HS → Prop
  | nil (H : HS) : HRuns P 0 H [] H
  | cons {m : Nat} {H H1 H' : HS} {t : T} {ts us : List T} (h : H.step P t = some (H1, us)) (hz : us.length + ts.length ≤ 100000) (k : HRuns P m H1 (us ++ ts) H') : HRuns P (m + 1) H (t :: ts) H'

section
variable {X : HIds} {loc : Loc} {H H' : HS} {F : Frm} {st : ASt} {n : Nat} {v w : V} {c : C} {Q : AVal → ASt → Prop} {U : Unit → ASt → Prop} {p : Pl} {k a : Int} {P : List (Int × List D)}

theorem tmp_pop {i vr : Nat} {l : List AVal} {x : AVal} (r : Rep X loc H (F.add i ⟨vr, .list (l ++ [x])⟩) st) (hF : ∀ o, ¬ F i o) (hz : (l ++ [x]).length ≤ 1000000) (q : ∀ st', Rep X loc H (F.add i ⟨vr + 1, .list l⟩) st' → Q x st') : wp (methL i "pop" []) st Q :=
  m_pop r.top hz (q _ (r.put_tmp hF))
theorem tmp_extend {i j vr vj : Nat} {l m : List AVal} (r : Rep X loc H ((F.add i ⟨vr, .list l⟩).add j ⟨vj, .list m⟩) st) (hFi : ∀ o, ¬ F i o) (hFj : ∀ o, ¬ (F.add i ⟨vr, .list l⟩) j o) (hz : l.length + m.length ≤ 1000000) (q : ∀ st', Rep X loc H (F.add i ⟨vr + 1, .list (l ++ m)⟩) st' → Q .none st') : wp (methL i "extend" [.obj j]) st Q := by
  have hji : j ≠ i := fun e => hFj _ (.inr ⟨e, rfl⟩)
  refine m_extend r.top2 r.top hji hz (q _ ?_)
  have r2 := r.swap.put_tmp (d := .list (l ++ m)) (fun o h => h.elim (hFi o) fun h => hji h.1.symm)
  exact r2.mid


theorem ok_settle {t vr m : Nat} {ts : List T} (r0 : Rep X loc H (F.add t ⟨vr, .list (ts.reverse.map encT)⟩) st) (hF : ∀ o, ¬ F t o) (hP : PlanAt F X.plan P) (h : HRuns P m H ts H') (hz : ts.length ≤ 100000) (q : ∀ loc' st', Rep X loc' H' F st' → Q .none st') : wp ((R (n + 44)).call "settle" [.inst "Counted" X.root, .obj t]) st Q := by
  walk_at "fn"
  walk_at "stop"
  refine while_fix (fun m s => ∃ H ts loc vr, HRuns P m H ts H' ∧ ts.length ≤ 100000 ∧ Rep X loc H (F.add t ⟨vr, .list (ts.reverse.map encT)⟩) s) ⟨H, ts, loc, vr, h, hz, r0⟩ ?_ ?_
  · intro m s h_ K hn _; refine e4a3 (h_) fun H ts loc vr hr hz r1 => ?_
    cases hr with
    | @cons _ _ H1 _ t1 ts us h1 hz1 k1 =>
    rw [List.length_cons] at hz
    walk_at "stop"
    refine truth_l r1.top (by simp; lia -abstractProof) ?_
    refine br_t (by simp) ?_
    rw [List.reverse_cons, List.map_append] at r1
    have fin : ∀ s loc vr, Rep X loc H1 (F.add t ⟨vr, .list (ts.reverse.map encT ++ us.reverse.map encT)⟩) s → ∃ H ts loc vr, HRuns P m H ts H' ∧ ts.length ≤ 100000 ∧ Rep X loc H (F.add t ⟨vr, .list (ts.reverse.map encT)⟩) s := fun s loc vr r => by
      refine ⟨H1, us ++ ts, loc, vr, k1, by rw [List.length_append]; exact hz1, ?_⟩
      rw [List.reverse_append, List.map_append]; exact r
    with_unfolding_all refine isL_at (Rep.top ‹_›) ?_
    walk_at "stop"
    refine tmp_pop r1 hF (by simp; lia -abstractProof) fun s2 r2 => ?_
    cases t1 with
    | lose v =>
      dsimp only [encT]
      with_unfolding_all refine aeq_lit rfl rfl ?_
      with_unfolding_all refine br_t rfl ?_
      with_unfolding_all refine isL_at (Rep.top ‹_›) ?_
      walk_at "stop"
      refine ok_lose r2 hP.add h1 fun id vr2 loc2 s3 r3 hF3 => ?_
      walk_at "stop"
      refine tmp_extend r3 hF hF3 (by simp; lia -abstractProof) fun s4 r4 => ?_
      exact hn _ s4 (by walk_at "sub") (fin _ _ _ r4)
    | deed d =>
      dsimp only [encT, encD]
      cases hd : H.change d with
      | none => rw [HS.step, hd] at h1; o_facts h1
      | some y =>
      rw [HS.step, hd] at h1; o_facts h1
      rw [List.length_map] at hz1
      with_unfolding_all refine aeq_lit rfl rfl ?_
      with_unfolding_all refine br_f rfl ?_
      with_unfolding_all refine isL_at (Rep.top ‹_›) ?_
      with_unfolding_all refine item_tup (by decide) rfl ?_
      with_unfolding_all refine item_tup (by decide) rfl ?_
      walk_at "stop"
      refine ok_change r2 hd fun loc2 i s3 r3 hF3 => ?_
      walk_at "stop"
      refine ok_losing r3 r3.top (by lia -abstractProof) fun j s4 r4 hF4 => ?_
      walk_at "stop"
      refine tmp_extend r4.mid hF (fun o h => hF4 o (h.elim (fun h => .inl (.inl h)) fun h => .inl (.inr h))) (by simp; lia -abstractProof) fun s5 r5 => ?_
      exact hn _ s5 (by walk_at "sub") (fin _ _ _ r5)
  · intro s h_ G; refine e4a3 (h_) fun H ts loc vr hr hz r1 => ?_
    o_facts hr
    walk_at "stop"
    refine truth_l r1.top (by simp) ?_
    refine br_f (by simp) ?_
    skip
    exact q _ _ r1.drop

theorem ok_do_deed {m : Nat} {d : D} (r0 : Rep X loc H F st) (hP : PlanAt F X.plan P) (h : HRuns P m H [.deed d] H') (q : ∀ loc' st', Rep X loc' H' F st' → Q .none st') : wp ((R (n + 47)).call "do_deed" [.inst "Counted" X.root, encD d]) st Q := by
  walk_at "fn"
  with_unfolding_all refine wp_new ‹_› (fun _ _ _ _ _ => ?_)
  walk_at "stop"
  rename_i t st1 r1 hF _
  refine ok_settle (ts := [.deed d]) r1 hF hP h (by show (1 : Nat) ≤ 100000; decide) fun loc2 st2 r2 => ?_
  skip
  exact q _ _ r2
end
end
/-! P12 -/
section
set_option maxRecDepth 100000
set_option autoImplicit false

/-! the law's own heap, as it lies -/
structure WC where
  sort : K
  slots : List (Int × V)
  due : Bool
structure WS where
  cells : List (Int × WC)
  vars : List (Int × V)
  log : List L
  tasks : List T
  hand : List V
  last : Int
structure WIds where
  root : Nat
  cells : Nat
  vars : Nat
  log : Nat
  tasks : Nat
  hand : Nat
inductive TagW where
  | root | cells | vars | log | tasks | hand | cell (n : Int) | slot (n : Int)
  deriving DecidableEq
noncomputable def TagW.id (X : WIds) (loc : Loc) : TagW → Nat
  | .root => X.root
  | .cells => X.cells
  | .vars => X.vars
  | .log => X.log
  | .tasks => X.tasks
  | .hand => X.hand
  | .cell n => loc.cell n
  | .slot n => loc.slot n
noncomputable def objW (loc : Loc) (n : Int) (_ : WC) : AVal := .obj (loc.cell n)
noncomputable def cellW (s : Nat) (c : WC) : List AVal := [.str (encK c.sort), .obj s, .bool c.due]
noncomputable def rootW (X : WIds) (last : Int) : List (Str × AVal) := [("cells", .obj X.cells), ("vars", .obj X.vars), ("log", .obj X.log), ("tasks", .obj X.tasks), ("hand", .obj X.hand), ("last", .int last)]
noncomputable def objsW (loc : Loc) (l : List (Int × WC)) : List (Int × AVal) := l.map fun p => (p.1, objW loc p.1 p.2)
noncomputable def contentW (X : WIds) (loc : Loc) (H : WS) : TagW → Option AData
  | .root => some (.sdict (rootW X H.last))
  | .cells => some (.idict (objsW loc H.cells))
  | .vars => some (.idict (encM H.vars))
  | .log => some (.list (H.log.map encL))
  | .tasks => some (.list (H.tasks.reverse.map encT))
  | .hand => some (.list (H.hand.map enc))
  | .cell n => (getK n H.cells).map fun c => .list (cellW (loc.slot n) c)
  | .slot n => (getK n H.cells).map fun c => .idict (encM c.slots)

structure RepW (X : WIds) (loc : Loc) (H : WS) (F : Frm) (st : ASt) : Prop where
  dat : ∀ t d, contentW X loc H t = some d → st.At (t.id X loc) d
  inj : ∀ t t', (contentW X loc H t).isSome → (contentW X loc H t').isSome → t.id X loc = t'.id X loc → t = t'
  frame : ∀ i o, F i o → st.Ob i o
  off : ∀ i o, F i o → ∀ t, (contentW X loc H t).isSome → t.id X loc ≠ i

section
variable {X : WIds} {loc : Loc} {H H' : WS} {F F' : Frm} {st : ASt}

theorem RepW.mono (r : RepW X loc H F st) (h : ∀ i o, F' i o → F i o) : RepW X loc H F' st := ⟨r.dat, r.inj, fun i o q => r.frame i o (h i o q), fun i o q => r.off i o (h i o q)⟩
theorem RepW.drop {i : Nat} {o : AObj} (r : RepW X loc H (F.add i o) st) : RepW X loc H F st := r.mono fun _ _ h => .inl h
theorem RepW.new {d : AData} (r : RepW X loc H F st) : RepW X loc H (F.add st.next ⟨0, d⟩) (st.new d) := by
  refine ⟨fun t d' h => At_new (r.dat t d' h), r.inj, fun i o h => ?_, fun i o h t ht => ?_⟩
  · rcases h with h | ⟨rfl, rfl⟩
    · exact Ob_new (r.frame _ _ h)
    · exact Ob_new_self
  · rcases h with h | ⟨rfl, rfl⟩
    · exact r.off _ _ h t ht
    · obtain ⟨d', hd⟩ := Option.isSome_iff_exists.mp ht
      exact Nat.ne_of_lt (r.dat t d' hd).1
theorem RepW.put {t : TagW} {d : AData} (r : RepW X loc H F st) (h1 : (contentW X loc H t).isSome) (h2 : ∀ t', t' ≠ t → contentW X loc H' t' = contentW X loc H t') (h3 : contentW X loc H' t = some d) : RepW X loc H' F (st.put (t.id X loc) d) := by
  have live : ∀ t', (contentW X loc H' t').isSome → (contentW X loc H t').isSome := fun t' h => by
    by_cases q : t' = t
    · rw [q]; exact h1
    · rw [← h2 t' q]; exact h
  refine ⟨fun t' d' h => ?_, fun t1 t2 h1 h2 e => r.inj t1 t2 (live _ h1) (live _ h2) e, fun i o h => ?_, fun i o h t' ht => r.off i o h t' (live _ ht)⟩
  · by_cases q : t' = t
    · subst q
      rw [h3] at h; o_facts h
      obtain ⟨d', hd⟩ := Option.isSome_iff_exists.mp h1
      exact At_put_self (r.dat t' d' hd).1
    · rw [h2 t' q] at h
      exact At_put_ne (r.dat t' d' h) fun e => q (r.inj t' t (by rw [h]; rfl) h1 e)
  · exact Ob_put_ne (r.frame i o h) fun e => r.off i o h t h1 e.symm

noncomputable def WS.setC (H : WS) (n : Int) (c : WC) : WS := { H with cells := putK n c H.cells }

theorem RepW.root (r : RepW X loc H F st) : st.At X.root (.sdict (rootW X H.last)) := r.dat .root _ rfl
theorem RepW.cells (r : RepW X loc H F st) : st.At X.cells (.idict (objsW loc H.cells)) := r.dat .cells _ rfl
theorem RepW.vars (r : RepW X loc H F st) : st.At X.vars (.idict (encM H.vars)) := r.dat .vars _ rfl
theorem RepW.log (r : RepW X loc H F st) : st.At X.log (.list (H.log.map encL)) := r.dat .log _ rfl
theorem RepW.tasks (r : RepW X loc H F st) : st.At X.tasks (.list (H.tasks.reverse.map encT)) := r.dat .tasks _ rfl
theorem RepW.hand (r : RepW X loc H F st) : st.At X.hand (.list (H.hand.map enc)) := r.dat .hand _ rfl
theorem RepW.cell {n : Int} {c : WC} (r : RepW X loc H F st) (h : getK n H.cells = some c) : st.At (loc.cell n) (.list (cellW (loc.slot n) c)) := r.dat (.cell n) _ (by show (getK n H.cells).map _ = _; rw [h]; rfl)
theorem RepW.slot {n : Int} {c : WC} (r : RepW X loc H F st) (h : getK n H.cells = some c) : st.At (loc.slot n) (.idict (encM c.slots)) := r.dat (.slot n) _ (by show (getK n H.cells).map _ = _; rw [h]; rfl)

theorem RepW.put_cell {n : Int} {c c' : WC} {d : AData} (r : RepW X loc H F st) (h : getK n H.cells = some c) (hs : c'.slots = c.slots) (hd : d = .list (cellW (loc.slot n) c')) : RepW X loc (H.setC n c') F (st.put (loc.cell n) d) := by
  refine r.put (t := .cell n) (by show ((getK n H.cells).map _).isSome = true; rw [h]; rfl) (fun t' q => ?_) ?_
  · cases t' with
    | cells =>
      show some (AData.idict (objsW loc (putK n c' H.cells))) = some (AData.idict (objsW loc H.cells))
      unfold objsW
      rw [← putK_mapv, putK_old]
      rw [getK_mapv, h]; rfl
    | cell m =>
      show (getK m (putK n c' H.cells)).map _ = (getK m H.cells).map _
      rw [getK_putK, if_neg fun e => q (by rw [e])]
    | slot m =>
      show (getK m (putK n c' H.cells)).map _ = (getK m H.cells).map _
      rw [getK_putK]
      by_cases e : m = n
      · subst e; rw [if_pos rfl, h]; show some (AData.idict (encM c'.slots)) = some (AData.idict (encM c.slots)); rw [hs]
      · rw [if_neg e]
    | _ => rfl
  · show (getK n (putK n c' H.cells)).map _ = some d
    rw [getK_putK, if_pos rfl, hd]; rfl

theorem RepW.put_root {a : Int} {d : AData} (r : RepW X loc H F st) (hd : d = .sdict (rootW X a)) : RepW X loc { H with last := a } F (st.put X.root d) := by
  subst hd
  refine r.put (t := .root) rfl (fun t' q => ?_) rfl
  cases t' <;> first | rfl | exact absurd rfl q
theorem RepW.put_vars {l : List (Int × V)} {d : AData} (r : RepW X loc H F st) (hd : d = .idict (encM l)) : RepW X loc { H with vars := l } F (st.put X.vars d) := by
  subst hd
  refine r.put (t := .vars) rfl (fun t' q => ?_) rfl
  cases t' <;> first | rfl | exact absurd rfl q
theorem RepW.put_log {l : List L} {d : AData} (r : RepW X loc H F st) (hd : d = .list (l.map encL)) : RepW X loc { H with log := l } F (st.put X.log d) := by
  subst hd
  refine r.put (t := .log) rfl (fun t' q => ?_) rfl
  cases t' <;> first | rfl | exact absurd rfl q
theorem RepW.put_tasks {l : List T} {d : AData} (r : RepW X loc H F st) (hd : d = .list (l.reverse.map encT)) : RepW X loc { H with tasks := l } F (st.put X.tasks d) := by
  subst hd
  refine r.put (t := .tasks) rfl (fun t' q => ?_) rfl
  cases t' <;> first | rfl | exact absurd rfl q
theorem RepW.put_hand {l : List V} {d : AData} (r : RepW X loc H F st) (hd : d = .list (l.map enc)) : RepW X loc { H with hand := l } F (st.put X.hand d) := by
  subst hd
  refine r.put (t := .hand) rfl (fun t' q => ?_) rfl
  cases t' <;> first | rfl | exact absurd rfl q
theorem RepW.put_slot {n : Int} {c : WC} {l : List (Int × V)} {d : AData} (r : RepW X loc H F st) (h : getK n H.cells = some c) (hd : d = .idict (encM l)) : RepW X loc (H.setC n { c with slots := l }) F (st.put (loc.slot n) d) := by
  subst hd
  refine r.put (t := .slot n) (by show ((getK n H.cells).map _).isSome = true; rw [h]; rfl) (fun t' q => ?_) ?_
  · cases t' with
    | cells =>
      show some (AData.idict (objsW loc (putK n _ H.cells))) = some (AData.idict (objsW loc H.cells))
      unfold objsW
      rw [← putK_mapv, putK_old]
      rw [getK_mapv, h]; rfl
    | cell m =>
      show (getK m (putK n _ H.cells)).map _ = (getK m H.cells).map _
      rw [getK_putK]
      by_cases e : m = n
      · subst e; rw [if_pos rfl, h]; rfl
      · rw [if_neg e]
    | slot m =>
      show (getK m (putK n _ H.cells)).map _ = (getK m H.cells).map _
      rw [getK_putK, if_neg fun e => q (by rw [e])]
    | _ => rfl
  · show (getK n (putK n _ H.cells)).map _ = some _
    rw [getK_putK, if_pos rfl]; rfl

theorem RepW.add_cell {n : Int} {c : WC} {a b va vb : Nat} {d : AData} (r : RepW X loc H ((F.add a ⟨va, .list (cellW b c)⟩).add b ⟨vb, .idict (encM c.slots)⟩) st) (hn : getK n H.cells = none) (hFa : ∀ o, ¬ F a o) (hFb : ∀ o, ¬ F b o)
    (hd : d = .idict (putK n (.obj a) (objsW loc H.cells))) : RepW X (loc.upd n a b) { H with cells := putK n c H.cells } F (st.put X.cells d) := by
  subst hd
  have oa := r.frame a _ (.inl (.inr ⟨rfl, rfl⟩))
  have ob := r.frame b _ (.inr ⟨rfl, rfl⟩)
  have fa := r.off a _ (.inl (.inr ⟨rfl, rfl⟩))
  have fb := r.off b _ (.inr ⟨rfl, rfl⟩)
  have hab : a ≠ b := fun e => by subst e; have := At_det oa.at ob.at; cases this
  have same : ∀ t : TagW, t ≠ .cell n → t ≠ .slot n → t.id X (loc.upd n a b) = t.id X loc := fun t h1 h2 => by
    cases t with
    | cell m => exact if_neg fun e => h1 (by rw [e])
    | slot m => exact if_neg fun e => h2 (by rw [e])
    | _ => rfl
  have cn : (TagW.cell n).id X (loc.upd n a b) = a := if_pos rfl
  have sn : (TagW.slot n).id X (loc.upd n a b) = b := if_pos rfl
  have cont : ∀ t : TagW, t ≠ .cell n → t ≠ .slot n → t ≠ .cells → contentW X (loc.upd n a b) { H with cells := putK n c H.cells } t = contentW X loc H t := fun t h1 h2 h3 => by
    cases t with
    | cells => exact absurd rfl h3
    | cell m =>
      have e : m ≠ n := fun e => h1 (by rw [e])
      show (getK m (putK n c H.cells)).map _ = (getK m H.cells).map _
      rw [getK_putK, if_neg e]
      have : (loc.upd n a b).slot m = loc.slot m := if_neg e
      rw [this]
    | slot m =>
      show (getK m (putK n c H.cells)).map _ = (getK m H.cells).map _
      rw [getK_putK, if_neg fun e => h2 (by rw [e])]
    | _ => rfl
  have live : ∀ t : TagW, t ≠ .cell n → t ≠ .slot n → (contentW X (loc.upd n a b) { H with cells := putK n c H.cells } t).isSome → (contentW X loc H t).isSome := fun t h1 h2 h => by
    by_cases q : t = .cells
    · subst q; rfl
    · rwa [cont t h1 h2 q] at h
  have hca : a ≠ X.cells := fun e => fa .cells rfl e.symm
  have hcb : b ≠ X.cells := fun e => fb .cells rfl e.symm
  refine ⟨fun t d' h => ?_, fun t t' h h' e => ?_, fun i o h => ?_, fun i o h t ht => ?_⟩
  · by_cases q1 : t = .cell n
    · subst q1
      rw [cn]
      refine At_put_ne ?_ hca
      have e : contentW X (loc.upd n a b) { H with cells := putK n c H.cells } (.cell n) = some (.list (cellW b c)) := by
        show (getK n (putK n c H.cells)).map _ = _
        rw [getK_putK, if_pos rfl]
        have : (loc.upd n a b).slot n = b := if_pos rfl
        rw [this]; rfl
      rw [e] at h; o_facts h; exact oa.at
    · by_cases q2 : t = .slot n
      · subst q2
        rw [sn]
        refine At_put_ne ?_ hcb
        have e : contentW X (loc.upd n a b) { H with cells := putK n c H.cells } (.slot n) = some (.idict (encM c.slots)) := by
          show (getK n (putK n c H.cells)).map _ = _
          rw [getK_putK, if_pos rfl]; rfl
        rw [e] at h; o_facts h; exact ob.at
      · rw [same t q1 q2]
        by_cases q3 : t = .cells
        · subst q3
          have e : contentW X (loc.upd n a b) { H with cells := putK n c H.cells } .cells = some (.idict (putK n (.obj a) (objsW loc H.cells))) := by
            show some (AData.idict (objsW (loc.upd n a b) (putK n c H.cells))) = _
            have e1 : objsW (loc.upd n a b) H.cells = objsW loc H.cells := by
              refine List.map_congr_left fun p hp => ?_
              have : p.1 ≠ n := fun e => by
                obtain ⟨m, cm⟩ := p
                subst e
                have key : ∀ l : List (Int × WC), (m, cm) ∈ l → getK m l ≠ none := fun l => by
                  induction l with
                  | nil => intro h; o_facts h
                  | cons x l ih =>
                    obtain ⟨j, v⟩ := x
                    intro h e
                    by_cases q : j = m
                    · rw [getK, if_pos q] at e; o_facts e
                    · rw [getK, if_neg q] at e
                      rcases List.mem_cons.mp h with h | h
                      · o_facts h; exact q rfl
                      · exact ih h e
                exact key _ hp hn
              show (p.1, AVal.obj ((loc.upd n a b).cell p.1)) = (p.1, AVal.obj (loc.cell p.1))
              have : (loc.upd n a b).cell p.1 = loc.cell p.1 := if_neg this
              rw [this]
            have e2 : objW (loc.upd n a b) n c = .obj a := by show AVal.obj ((loc.upd n a b).cell n) = _; rw [show (loc.upd n a b).cell n = a from if_pos rfl]
            have e3 : objsW (loc.upd n a b) (putK n c H.cells) = putK n (objW (loc.upd n a b) n c) (objsW (loc.upd n a b) H.cells) := putK_mapv.symm
            rw [e3, e2, e1]
          rw [e] at h; o_facts h
          exact At_put_self (r.dat .cells _ rfl).1
        · rw [cont t q1 q2 q3] at h
          exact At_put_ne (r.dat t d' h) fun e => q3 (r.inj t .cells (by rw [h]; rfl) rfl e)
  · by_cases q1 : t = .cell n
    · subst q1
      by_cases q1' : t' = .cell n
      · exact q1'.symm
      · by_cases q2' : t' = .slot n
        · subst q2'; rw [cn, sn] at e; exact absurd e hab
        · rw [cn, same t' q1' q2'] at e
          exact absurd e.symm (fa t' (live t' q1' q2' h'))
    · by_cases q2 : t = .slot n
      · subst q2
        by_cases q1' : t' = .cell n
        · subst q1'; rw [cn, sn] at e; exact absurd e.symm hab
        · by_cases q2' : t' = .slot n
          · exact q2'.symm
          · rw [sn, same t' q1' q2'] at e
            exact absurd e.symm (fb t' (live t' q1' q2' h'))
      · by_cases q1' : t' = .cell n
        · subst q1'; rw [cn, same t q1 q2] at e; exact absurd e (fa t (live t q1 q2 h))
        · by_cases q2' : t' = .slot n
          · subst q2'; rw [sn, same t q1 q2] at e; exact absurd e (fb t (live t q1 q2 h))
          · rw [same t q1 q2, same t' q1' q2'] at e
            exact r.inj t t' (live t q1 q2 h) (live t' q1' q2' h') e
  · exact Ob_put_ne (r.frame i o (.inl (.inl h))) fun e => r.off i o (.inl (.inl h)) .cells rfl e.symm
  · by_cases q1 : t = .cell n
    · subst q1; rw [cn]; exact fun e => hFa o (e ▸ h)
    · by_cases q2 : t = .slot n
      · subst q2; rw [sn]; exact fun e => hFb o (e ▸ h)
      · rw [same t q1 q2]; exact r.off i o (.inl (.inl h)) t (live t q1 q2 ht)

theorem RepW.del_cell {n : Int} {d : AData} (r : RepW X loc H F st) (hd : d = .idict (delK n (objsW loc H.cells))) : RepW X loc { H with cells := delK n H.cells } F (st.put X.cells d) := by
  subst hd
  have live : ∀ t : TagW, (contentW X loc { H with cells := delK n H.cells } t).isSome → (contentW X loc H t).isSome ∧ (t ≠ .cells → contentW X loc { H with cells := delK n H.cells } t = contentW X loc H t) := fun t h => by
    cases t with
    | cells => exact ⟨rfl, fun q => absurd rfl q⟩
    | cell m =>
      have h : ((getK m (delK n H.cells)).map fun c => AData.list (cellW (loc.slot m) c)).isSome = true := h
      show ((getK m H.cells).map fun c => AData.list (cellW (loc.slot m) c)).isSome = true ∧ (_ → (getK m (delK n H.cells)).map (fun c => AData.list (cellW (loc.slot m) c)) = (getK m H.cells).map fun c => AData.list (cellW (loc.slot m) c))
      rw [getK_delK] at h ⊢
      by_cases e : m = n
      · rw [if_pos e] at h; o_facts h
      · rw [if_neg e] at h ⊢; exact ⟨h, fun _ => rfl⟩
    | slot m =>
      have h : ((getK m (delK n H.cells)).map fun c => AData.idict (encM c.slots)).isSome = true := h
      show ((getK m H.cells).map fun c => AData.idict (encM c.slots)).isSome = true ∧ (_ → (getK m (delK n H.cells)).map (fun c => AData.idict (encM c.slots)) = (getK m H.cells).map fun c => AData.idict (encM c.slots))
      rw [getK_delK] at h ⊢
      by_cases e : m = n
      · rw [if_pos e] at h; o_facts h
      · rw [if_neg e] at h ⊢; exact ⟨h, fun _ => rfl⟩
    | _ => exact ⟨rfl, fun _ => rfl⟩
  refine ⟨fun t d' h => ?_, fun t1 t2 h1 h2 e => r.inj t1 t2 (live _ h1).1 (live _ h2).1 e, fun i o h => ?_, fun i o h t' ht => r.off i o h t' (live _ ht).1⟩
  · by_cases q : t = .cells
    · subst q
      have e : contentW X loc { H with cells := delK n H.cells } .cells = some (.idict (delK n (objsW loc H.cells))) := by
        show some (AData.idict (objsW loc (delK n H.cells))) = _
        unfold objsW; rw [delK_mapv]
      rw [e] at h; o_facts h
      exact At_put_self (r.dat .cells _ rfl).1
    · have l := live t (by rw [h]; rfl)
      rw [l.2 q] at h
      exact At_put_ne (r.dat t d' h) fun e => q (r.inj t .cells l.1 rfl e)
  · exact Ob_put_ne (r.frame i o h) fun e => r.off i o h .cells rfl e.symm

end
end
/-! P13 -/
section
set_option maxRecDepth 100000
set_option autoImplicit false
set_option maxHeartbeats 1000000

noncomputable def WS.pl (H : WS) : Pl → Option (List (Int × V))
  | .vars => some H.vars
  | .slots n => (getK n H.cells).map (·.slots)
noncomputable def WS.setPl (H : WS) (p : Pl) (l : List (Int × V)) : WS := match p with
  | .vars => { H with vars := l }
  | .slots n => match getK n H.cells with
    | some c => H.setC n { c with slots := l }
    | none => H
noncomputable def Pl.idW (X : WIds) (loc : Loc) : Pl → Nat
  | .vars => X.vars
  | .slots n => loc.slot n

theorem setCW_get {H : WS} {a : Int} {c : WC} : getK a (H.setC a c).cells = some c := by show getK a (putK a c H.cells) = _; rw [getK_putK, if_pos rfl]
theorem setCW_setC {H : WS} {a : Int} {c d : WC} : (H.setC a c).setC a d = H.setC a d := by unfold WS.setC; rw [show putK a d (putK a c H.cells) = putK a d H.cells from putK_putK]

section
variable {X : WIds} {loc : Loc} {H : WS} {F : Frm} {st : ASt} {U : Unit → ASt → Prop} {Q : AVal → ASt → Prop} {n : Int} {c : WC} {p : Pl} {k : Int} {v : V}

theorem RepW.pl {l : List (Int × V)} (r : RepW X loc H F st) (h : H.pl p = some l) : st.At (p.idW X loc) (.idict (encM l)) := by
  cases p with
  | vars => o_facts h; exact r.vars
  | slots n =>
    have h : (getK n H.cells).map (·.slots) = some l := h
    cases e : getK n H.cells with
    | none => rw [e] at h; o_facts h
    | some c => rw [e] at h; o_facts h; exact r.slot e
theorem RepW.put_pl {l l' : List (Int × V)} (r : RepW X loc H F st) (h : H.pl p = some l) : RepW X loc (H.setPl p l') F (st.put (p.idW X loc) (.idict (encM l'))) := by
  cases p with
  | vars => exact r.put_vars rfl
  | slots n =>
    have h : (getK n H.cells).map (·.slots) = some l := h
    cases e : getK n H.cells with
    | none => rw [e] at h; o_facts h
    | some c =>
      have := r.put_slot (l := l') e rfl
      show RepW X loc (match getK n H.cells with | some c => H.setC n { c with slots := l' } | none => H) F _
      rw [e]; exact this
theorem item_plW {l : List (Int × V)} (r : RepW X loc H F st) (h : H.pl p = some l) (hv : getK k l = some v) (q : Q (enc v) st) : wp (itemGet (.obj (p.idW X loc)) (.int k)) st Q := item_m (r.pl h) hv q
theorem in_plW {B : Bool → ASt → Prop} {l : List (Int × V)} (r : RepW X loc H F st) (h : H.pl p = some l) (q : B (getK k l).isSome st) : wp (inD (p.idW X loc) k) st B := in_m (r.pl h) q
theorem set_plW {l : List (Int × V)} (r : RepW X loc H F st) (h : H.pl p = some l) (hz : l.length ≤ 1000000) (q : ∀ st', RepW X loc (H.setPl p (putK k v l)) F st' → U () st') : wp (itemSet (.obj (p.idW X loc)) (.int k) (enc v)) st U :=
  set_idict (r.pl h) (by rw [len_encM]; exact hz) (by rw [putK_encM]; exact q _ (r.put_pl h))
theorem pop_plW {l : List (Int × V)} (r : RepW X loc H F st) (h : H.pl p = some l) (hv : getK k l = some v) (hz : l.length ≤ 1000000) (q : ∀ st', RepW X loc (H.setPl p (delK k l)) F st' → Q (enc v) st') : wp (methI (p.idW X loc) "pop" [.int k]) st Q :=
  m_popk (r.pl h) (by rw [getK_encM, hv]; rfl) (by rw [len_encM]; exact hz) (by rw [delK_encM]; exact q _ (r.put_pl h))

theorem RepW.top {i vr : Nat} {d : AData} (r : RepW X loc H (F.add i ⟨vr, d⟩) st) : st.At i d := (r.frame i _ (.inr ⟨rfl, rfl⟩)).at
theorem RepW.top2 {i j vr : Nat} {d : AData} {o : AObj} (r : RepW X loc H ((F.add i ⟨vr, d⟩).add j o) st) : st.At i d := (r.frame i _ (.inl (.inr ⟨rfl, rfl⟩))).at
theorem RepW.mid {i j : Nat} {o o' : AObj} (r : RepW X loc H ((F.add i o).add j o') st) : RepW X loc H (F.add j o') st := r.mono fun _ _ h => h.elim (fun h => .inl (.inl h)) .inr
theorem RepW.swap {i j : Nat} {o p : AObj} (r : RepW X loc H ((F.add i o).add j p) st) : RepW X loc H ((F.add j p).add i o) st :=
  r.mono fun _ _ h => h.elim (fun h => h.elim (fun h => .inl (.inl h)) .inr) fun h => .inl (.inr h)
theorem RepW.put_tmp {i : Nat} {o : AObj} {d : AData} (r : RepW X loc H (F.add i o) st) (hF : ∀ o, ¬ F i o) : RepW X loc H (F.add i ⟨o.ver + 1, d⟩) (st.put i d) := by
  have oi := r.frame i o (.inr ⟨rfl, rfl⟩)
  refine ⟨fun t d' h => At_put_ne (r.dat t d' h) (r.off i o (.inr ⟨rfl, rfl⟩) t (by rw [h]; rfl)), r.inj, fun j p h => ?_, fun j p h t ht => ?_⟩
  · rcases h with h | ⟨rfl, rfl⟩
    · exact Ob_put_ne (r.frame j p (.inl h)) fun e => hF p (e ▸ h)
    · exact ⟨oi.1, by show (if j = j then (⟨_, d⟩ : AObj) else _) = _; rw [if_pos rfl, oi.2]⟩
  · rcases h with h | ⟨rfl, rfl⟩
    · exact r.off j p (.inl h) t ht
    · exact r.off j o (.inr ⟨rfl, rfl⟩) t ht
theorem RepW.frame_add {i : Nat} (r : RepW X loc H F st) (hi : i < st.next) (ho : ∀ t, (contentW X loc H t).isSome → t.id X loc ≠ i) : RepW X loc H (F.add i (st.get i)) st := by
  refine ⟨r.dat, r.inj, fun j o h => ?_, fun j o h t ht => ?_⟩
  · rcases h with h | ⟨rfl, rfl⟩
    · exact r.frame j o h
    · exact ⟨hi, rfl⟩
  · rcases h with h | ⟨rfl, rfl⟩
    · exact r.off j o h t ht
    · exact ho t ht
theorem wp_newW {d : AData} (r : RepW X loc H F st) (q : ∀ id st', RepW X loc H (F.add id ⟨0, d⟩) st' → (∀ o, ¬ F id o) → (∀ j, j ≠ id → st'.get j = st.get j) → Q (.obj id) st') : wp (newO d) st Q :=
  .mk <| q _ _ r.new (fun o h => Nat.lt_irrefl _ (r.frame _ o h).1) fun _ hj => if_neg hj
theorem mk_newW (r : RepW X loc H F st) (q : ∀ id st', RepW X loc H (F.add id ⟨0, .idict []⟩) st' → (∀ o, ¬ F id o) → (∀ j, j ≠ id → st'.get j = st.get j) → Q (.obj id) st') : wp (mkI []) st Q := by with_unfolding_all exact ⟨[], rfl, rfl, (wp_newW r q).out⟩
theorem tmp_appendW {i vr : Nat} {l : List AVal} {x : AVal} (r : RepW X loc H (F.add i ⟨vr, .list l⟩) st) (hF : ∀ o, ¬ F i o) (hz : l.length ≤ 1000000) (q : ∀ st', RepW X loc H (F.add i ⟨vr + 1, .list (l ++ [x])⟩) st' → Q .none st') : wp (methL i "append" [x]) st Q :=
  m_append r.top hz (q _ (r.put_tmp hF))
theorem tmp_extendW {i j vr vj : Nat} {l m : List AVal} (r : RepW X loc H ((F.add i ⟨vr, .list l⟩).add j ⟨vj, .list m⟩) st) (hFi : ∀ o, ¬ F i o) (hFj : ∀ o, ¬ (F.add i ⟨vr, .list l⟩) j o) (hz : l.length + m.length ≤ 1000000) (q : ∀ st', RepW X loc H (F.add i ⟨vr + 1, .list (l ++ m)⟩) st' → (∀ x, x ≠ i → st'.get x = st.get x) → Q .none st') : wp (methL i "extend" [.obj j]) st Q := by
  have hji : j ≠ i := fun e => hFj _ (.inr ⟨e, rfl⟩)
  refine m_extend r.top2 r.top hji hz (q _ ?_ fun _ hx => if_neg hx)
  have r2 := r.swap.put_tmp (d := .list (l ++ m)) (fun o h => h.elim (hFi o) fun h => hji h.1.symm)
  exact r2.mid

theorem item_cellsW (r : RepW X loc H F st) (h : getK n H.cells = some c) (q : Q (.obj (loc.cell n)) st) : wp (itemGet (.obj X.cells) (.int n)) st Q :=
  item_idict r.cells (by unfold objsW; rw [getK_mapv, h]; rfl) q
theorem set_due {b : Bool} (r : RepW X loc H F st) (h : getK n H.cells = some c) (q : ∀ st', RepW X loc (H.setC n { c with due := b }) F st' → U () st') : wp (itemSet (.obj (loc.cell n)) (.int 2) (.bool b)) st U :=
  set_list (r.cell h) (by show (0 : Int) ≤ 2 ∧ (2 : Int) < (3 : Nat) ∧ 3 ≤ 1000; decide) (q _ (r.put_cell h rfl rfl))
theorem set_lastW {k : Int} (r : RepW X loc H F st) (q : ∀ st', RepW X loc { H with last := k } F st' → U () st') : wp (itemSet (.obj X.root) (.str "last") (.int k)) st U :=
  set_sdict r.root (by show (6 : Nat) ≤ 100; decide) (q _ (r.put_root rfl))
theorem log_appendW {l : L} (r : RepW X loc H F st) (hz : H.log.length ≤ 1000000) (q : ∀ st', RepW X loc { H with log := H.log ++ [l] } F st' → Q .none st') : wp (methL X.log "append" [encL l]) st Q :=
  m_append r.log (by rw [List.length_map]; exact hz) (q _ (r.put_log (by rw [List.map_append]; rfl)))
theorem hand_append (r : RepW X loc H F st) (hz : H.hand.length ≤ 1000000) (q : ∀ st', RepW X loc { H with hand := H.hand ++ [v] } F st' → Q .none st') : wp (methL X.hand "append" [enc v]) st Q :=
  m_append r.hand (by rw [List.length_map]; exact hz) (q _ (r.put_hand (by rw [List.map_append]; rfl)))
theorem hand_pop {l : List V} (r : RepW X loc H F st) (h : H.hand = l ++ [v]) (hz : H.hand.length ≤ 1000000) (q : ∀ st', RepW X loc { H with hand := l } F st' → Q (enc v) st') : wp (methL X.hand "pop" []) st Q := by
  have r1 := r.hand
  rw [h, List.map_append] at r1
  refine m_pop r1 ?_ (q _ (r.put_hand rfl))
  have e : (l.map enc ++ [v].map enc).length = H.hand.length := by rw [h]; simp
  exact Nat.le_trans (Nat.le_of_eq e) hz
theorem tasks_append {t : T} (r : RepW X loc H F st) (hz : H.tasks.length ≤ 1000000) (q : ∀ st', RepW X loc { H with tasks := t :: H.tasks } F st' → Q .none st') : wp (methL X.tasks "append" [encT t]) st Q :=
  m_append r.tasks (by rw [List.length_map, List.length_reverse]; exact hz) (q _ (r.put_tasks (by rw [List.reverse_cons, List.map_append]; rfl)))
theorem tasks_extend {j vj : Nat} {us : List T} (r : RepW X loc H (F.add j ⟨vj, .list (us.reverse.map encT)⟩) st) (hz : H.tasks.length + us.length ≤ 1000000) (q : ∀ st', RepW X loc { H with tasks := us ++ H.tasks } F st' → Q .none st') : wp (methL X.tasks "extend" [.obj j]) st Q := by
  have hj : j ≠ X.tasks := fun e => r.off j _ (.inr ⟨rfl, rfl⟩) .tasks rfl e.symm
  refine m_extend r.tasks r.top hj (by rw [List.length_map, List.length_map, List.length_reverse, List.length_reverse]; exact hz) (q _ ?_)
  rw [← List.map_append, ← List.reverse_append]
  exact (r.put_tasks rfl).drop
theorem tasks_pop {t : T} {ts : List T} (r : RepW X loc H F st) (h : H.tasks = t :: ts) (hz : H.tasks.length ≤ 1000000) (q : ∀ st', RepW X loc { H with tasks := ts } F st' → Q (encT t) st') : wp (methL X.tasks "pop" []) st Q := by
  have r1 := r.tasks
  rw [h, List.reverse_cons, List.map_append] at r1
  refine m_pop r1 ?_ (q _ (r.put_tasks rfl))
  have e : (ts.reverse.map encT ++ [t].map encT).length = H.tasks.length := by rw [h]; simp
  exact Nat.le_trans (Nat.le_of_eq e) hz
theorem set_varsW (r : RepW X loc H F st) (hz : H.vars.length ≤ 1000000) (q : ∀ st', RepW X loc { H with vars := putK k v H.vars } F st' → U () st') : wp (itemSet (.obj X.vars) (.int k) (enc v)) st U :=
  set_idict r.vars (by rw [len_encM]; exact hz) (q _ (r.put_vars (by rw [putK_encM])))
theorem set_slotW (r : RepW X loc H F st) (h : getK n H.cells = some c) (hz : c.slots.length ≤ 1000000) (q : ∀ st', RepW X loc (H.setC n { c with slots := putK k v c.slots }) F st' → U () st') : wp (itemSet (.obj (loc.slot n)) (.int k) (enc v)) st U :=
  set_idict (r.slot h) (by rw [len_encM]; exact hz) (q _ (r.put_slot h (by rw [putK_encM])))
theorem set_cellsW {a b : Nat} {m : Int} {c : WC} (r : RepW X loc H ((F.add a ⟨0, .list (cellW b c)⟩).add b ⟨0, .idict (encM c.slots)⟩) st) (hn : getK m H.cells = none) (hz : H.cells.length ≤ 1000000) (hFa : ∀ o, ¬ F a o) (hFb : ∀ o, ¬ F b o) (q : ∀ st', RepW X (loc.upd m a b) { H with cells := putK m c H.cells } F st' → U () st') : wp (itemSet (.obj X.cells) (.int m) (.obj a)) st U :=
  set_idict r.cells (by unfold objsW; rw [List.length_map]; exact hz) (q _ (r.add_cell hn hFa hFb rfl))
theorem del_cellsW {a : Int} (r : RepW X loc H F st) (h : getK a H.cells = some c) (hz : H.cells.length ≤ 1000000) (q : ∀ o o' st', RepW X loc { H with cells := delK a H.cells } ((F.add (loc.cell a) o).add (loc.slot a) o') st' → o.data = .list (cellW (loc.slot a) c) → o'.data = .idict (encM c.slots) → U () st') : wp (itemDel (.obj X.cells) (.int a)) st U := by
  refine del_idict r.cells ⟨by unfold objsW; rw [getK_mapv, h]; rfl, by unfold objsW; rw [List.length_map]; exact hz⟩ ?_
  have r' := r.del_cell (n := a) rfl
  have lc : (contentW X loc H (.cell a)).isSome := by show ((getK a H.cells).map _).isSome = true; rw [h]; rfl
  have ls : (contentW X loc H (.slot a)).isSome := by show ((getK a H.cells).map _).isSome = true; rw [h]; rfl
  have hne : loc.cell a ≠ X.cells := fun e => by
    have := r.inj (.cell a) .cells lc rfl e
    cases this
  have hns : loc.slot a ≠ X.cells := fun e => by
    have := r.inj (.slot a) .cells ls rfl e
    cases this
  have hat := At_put_ne (d := .idict (delK a (objsW loc H.cells))) (r.cell h) hne
  have has := At_put_ne (d := .idict (delK a (objsW loc H.cells))) (r.slot h) hns
  have live : ∀ t, (contentW X loc { H with cells := delK a H.cells } t).isSome → (contentW X loc H t).isSome ∧ t ≠ .cell a ∧ t ≠ .slot a := fun t ht => by
    cases t with
    | cell m =>
      have ht : ((getK m (delK a H.cells)).map fun c => AData.list (cellW (loc.slot m) c)).isSome = true := ht
      rw [getK_delK] at ht
      by_cases e : m = a
      · rw [if_pos e] at ht; o_facts ht
      · rw [if_neg e] at ht; exact ⟨ht, fun q => e (by cases q; rfl), fun q => by cases q⟩
    | slot m =>
      have ht : ((getK m (delK a H.cells)).map fun c => AData.idict (encM c.slots)).isSome = true := ht
      rw [getK_delK] at ht
      by_cases e : m = a
      · rw [if_pos e] at ht; o_facts ht
      · rw [if_neg e] at ht; exact ⟨ht, fun q => (by cases q), fun q => e (by cases q; rfl)⟩
    | _ => exact ⟨rfl, fun q => (by cases q), fun q => by cases q⟩
  have r2 := r'.frame_add hat.1 fun t ht e => (live t ht).2.1 (r.inj t (.cell a) (live t ht).1 lc e)
  have r3 := r2.frame_add has.1 fun t ht e => (live t ht).2.2 (r.inj t (.slot a) (live t ht).1 ls e)
  exact q _ _ _ r3 hat.2 has.2
end


noncomputable def WS.isRef (H : WS) : V → Option Bool
  | .int _ => some false
  | .cell n => (getK n H.cells).map fun c => decide (c.sort = .ref)
noncomputable def WS.inner (H : WS) (v : V) : Option V := (H.isRef v).bind fun b => if b = true then (getK v.num H.cells).bind fun c => getK 0 c.slots else some v
noncomputable def WS.var (H : WS) (x : Int) : V := (getK x H.vars).getD (.int 0)
noncomputable def WS.valueOf (H : WS) (x : Int) : Option V := H.inner (H.var x)
noncomputable def WS.newCell (H : WS) (k : K) (b : Bool) : Option WS := if (getK (H.last + 1) H.cells).isNone ∧ H.cells.length ≤ 1000000 then some { H with last := H.last + 1, cells := putK (H.last + 1) ⟨k, [], b⟩ H.cells } else none

section
variable {X : WIds} {loc : Loc} {H H' : WS} {F : Frm} {st : ASt} {n : Nat} {v w : V} {Q : AVal → ASt → Prop}

theorem ok_w_is_ref {b : Bool} (r : RepW X loc H F st) (h : H.isRef v = some b) (q : Q (.bool b) st) : wp ((R (n + 8)).call "_law_is_ref" [.obj X.root, enc v]) st Q := by
  walk_at "fn"
  cases v with
  | int i =>
    o_facts h
    with_unfolding_all refine item_v0 ?_; with_unfolding_all refine aeq_tagc ?_; with_unfolding_all refine br_f rfl ?_; exact q
  | cell m =>
    have h : (getK m H.cells).map (fun c => decide (c.sort = .ref)) = some b := h
    cases hc : getK m H.cells with
    | none => rw [hc] at h; o_facts h
    | some c => rw [hc] at h; o_facts h; with_unfolding_all refine item_v0 ?_; with_unfolding_all refine aeq_tagc ?_; with_unfolding_all refine br_t rfl ?_; with_unfolding_all refine item_sdict (RepW.root ‹_›) rfl ?_; with_unfolding_all refine item_v1c ?_; with_unfolding_all refine item_cellsW ‹_› ‹_› ?_; with_unfolding_all refine item_list (RepW.cell ‹_› ‹_›) (by decide) rfl ?_; with_unfolding_all refine aeq_ref ?_; exact q

theorem ok_w_inner (r : RepW X loc H F st) (h : H.inner v = some w) (q : Q (enc w) st) : wp ((R (n + 12)).call "_law_inner" [.obj X.root, enc v]) st Q := by
  walk_at "fn"
  unfold WS.inner at h
  refine bind_K h fun b hr h => ?_
  cases b with
  | false => rw [if_neg (by decide)] at h; o_facts h; with_unfolding_all refine ok_w_is_ref ‹_› ‹_› ?_; with_unfolding_all refine br_f rfl ?_; exact q
  | true =>
    rw [if_pos rfl] at h
    cases hc : getK v.num H.cells with
    | none => rw [hc] at h; o_facts h
    | some c =>
      rw [hc] at h
      have h : getK 0 c.slots = some w := h
      with_unfolding_all refine ok_w_is_ref ‹_› ‹_› ?_; with_unfolding_all refine br_t rfl ?_; with_unfolding_all refine item_sdict (RepW.root ‹_›) rfl ?_; with_unfolding_all refine item_v1 ?_; with_unfolding_all refine item_cellsW ‹_› ‹_› ?_; with_unfolding_all refine item_list (RepW.cell ‹_› ‹_›) (by decide) rfl ?_; with_unfolding_all refine item_m (RepW.slot ‹_› ‹_›) ‹_› ?_; exact q
theorem ok_w_value {x : Int} (r : RepW X loc H F st) (h : H.valueOf x = some w) (q : Q (enc w) st) : wp ((R (n + 16)).call "_law_value" [.obj X.root, .int x]) st Q := by
  walk_at "fn"
  with_unfolding_all refine item_sdict (RepW.root ‹_›) rfl ?_
  with_unfolding_all refine isI_at (RepW.vars ‹_›) ?_
  with_unfolding_all refine get_m (RepW.vars ‹_›) ?_
  walk_at "stop"
  exact ok_w_inner r h q

theorem ok_w_new {k : K} {b : Bool} (r : RepW X loc H F st) (h : H.newCell k b = some H') (q : ∀ loc' st', RepW X loc' H' F st' → (∀ m, m ≠ H'.last → loc'.cell m = loc.cell m ∧ loc'.slot m = loc.slot m) → Q (enc (.cell H'.last)) st') : wp ((R (n + 10)).call "_law_new" [.obj X.root, .str (encK k), .bool b]) st Q := by
  unfold WS.newCell at h
  split at h
  · rename_i hh
    o_facts h
    walk_at "fn"
    with_unfolding_all refine item_sdict (RepW.root ‹_›) rfl ?_
    walk_at "stop"
    refine set_lastW r fun st1 r1 => ?_
    with_unfolding_all refine mk_newW ‹_› (fun _ _ _ _ _ => ?_)
    with_unfolding_all refine wp_newW ‹_› (fun _ _ _ _ _ => ?_)
    with_unfolding_all refine item_sdict (RepW.root ‹_›) rfl ?_
    with_unfolding_all refine item_sdict (RepW.root ‹_›) rfl ?_
    walk_at "stop"
    rename_i b st2 r2 hFb _ a st3 r3 hFa _
    have hFb' : ∀ o, ¬ F b o := hFb
    refine set_cellsW (c := ⟨k, [], _⟩) r3.swap (Option.isNone_iff_eq_none.mp hh.1) hh.2 (Frm.sub hFa) hFb fun st4 r4 => ?_
    with_unfolding_all refine item_sdict (RepW.root ‹_›) rfl ?_
    exact q _ _ r4 fun m hm => ⟨if_neg hm, if_neg hm⟩
  · o_facts h
end
end
/-! P14 -/
section
set_option maxRecDepth 100000
set_option autoImplicit false
set_option maxHeartbeats 1000000

theorem len_list {st : ASt} {Q : AVal → ASt → Prop} {id : Nat} {l : List AVal} (hl : st.At id (.list l)) (hz : l.length ≤ 1000000) (q : Q (.int l.length) st) : wp (lenL id) st Q := by with_unfolding_all exact ⟨l, hl, hz, q⟩

noncomputable def WS.replaced (H : WS) (p : Pl) (k : Int) (v : V) : Option (WS × List V) := (H.pl p).bind fun l => if l.length ≤ 1000000 then some (H.setPl p (putK k v l), (getK k l).toList) else none
noncomputable def WS.takenOut (H : WS) (p : Pl) (k : Int) : Option (WS × List V) := (H.pl p).bind fun l => match getK k l with
  | some v => if l.length ≤ 1000000 then some (H.setPl p (delK k l), [v]) else none
  | none => some (H, [])
noncomputable def WS.write (H : WS) (p : Pl) (k : Int) (v : V) (b : Bool) : Option (WS × List V) := (H.pl p).bind fun l => match getK k l with
  | some w => if b = true then (H.isRef w).bind fun br => if br = true then H.replaced (.slots w.num) 0 v else H.replaced p k v else H.replaced p k v
  | none => H.replaced p k v
theorem replacedW_inv {H : WS} {p : Pl} {k : Int} {v : V} {r : WS × List V} (h : H.replaced p k v = some r) : ∃ l, H.pl p = some l ∧ l.length ≤ 1000000 ∧ r = (H.setPl p (putK k v l), (getK k l).toList) := by
  unfold WS.replaced at h
  cases hl : H.pl p with
  | none => rw [hl] at h; o_facts h
  | some l =>
    rw [hl, Option.bind_some] at h
    split at h
    · rename_i hz; o_facts h; exact ⟨l, rfl, hz, rfl⟩
    · o_facts h
theorem plW_slots {H : WS} {m : Int} {l : List (Int × V)} (h : H.pl (.slots m) = some l) : ∃ c, getK m H.cells = some c ∧ c.slots = l ∧ ∀ l', H.setPl (.slots m) l' = H.setC m { c with slots := l' } := by
  have h : (getK m H.cells).map (·.slots) = some l := h
  cases e : getK m H.cells with
  | none => rw [e] at h; o_facts h
  | some c =>
    rw [e] at h; o_facts h
    refine ⟨c, rfl, rfl, fun l' => ?_⟩
    show (match getK m H.cells with | some c => H.setC m { c with slots := l' } | none => H) = _
    rw [e]

noncomputable def loseV : T → Option V
  | .lose v => some v
  | .deed _ => none
noncomputable def WS.places (H : WS) : List V := H.vars.map (·.2) ++ H.hand ++ H.tasks.reverse.filterMap loseV ++ H.cells.flatMap fun p => match getK p.1 H.cells with
  | some c => c.slots.map (·.2)
  | none => []
noncomputable def WS.holders (H : WS) (n : Int) : Nat := (H.places.filter fun v => decide (v = .cell n)).length
noncomputable def WS.small (H : WS) : Bool := decide (H.places.length ≤ 1000000) && decide (H.tasks.length ≤ 1000000)

noncomputable def gLose : AVal → Option AVal
  | .tup [.str s, x] => if s = "lose" then some x else none
  | _ => none
noncomputable def gCell (n : Int) : AVal → Option AVal
  | .tup [.str s, .int m] => if s = "cell" ∧ m = n then some (.tup [.str s, .int m]) else none
  | _ => none
theorem gLose_encT (t : T) : gLose (encT t) = (loseV t).map enc := by
  cases t with
  | lose v =>
    show (if ("lose" : Str) = "lose" then some (enc v) else none) = _
    rw [if_pos rfl]; rfl
  | deed d =>
    show (if ("deed" : Str) = "lose" then some (encD d) else none) = _
    rw [if_neg (by decide +kernel)]; rfl
theorem gCell_enc (n : Int) (v : V) : gCell n (enc v) = if v = .cell n then some (enc v) else none := by
  cases v with
  | int i =>
    show (if ("int" : Str) = "cell" ∧ i = n then some (enc (.int i)) else none) = _
    rw [if_neg (fun h => absurd h.1 (by decide +kernel)), if_neg (fun h => by o_facts h)]
  | cell m =>
    show (if ("cell" : Str) = "cell" ∧ m = n then some (enc (.cell m)) else none) = _
    by_cases q : m = n
    · subst q; rw [if_pos ⟨rfl, rfl⟩, if_pos rfl]
    · rw [if_neg (fun h => q h.2), if_neg (fun h => q (by o_facts h; rfl))]
theorem fm_gLose : ∀ l : List T, (l.map encT).filterMap gLose = (l.filterMap loseV).map enc
  | [] => rfl
  | t :: l => by
    rw [List.map_cons, List.filterMap_cons, gLose_encT, List.filterMap_cons, fm_gLose l]
    cases loseV t <;> rfl
theorem fm_gCell (n : Int) : ∀ l : List V, (l.map enc).filterMap (gCell n) = (l.filter fun v => decide (v = .cell n)).map enc
  | [] => rfl
  | v :: l => by
    rw [List.map_cons, List.filterMap_cons, gCell_enc, fm_gCell n l, List.filter_cons]
    by_cases q : v = .cell n
    · rw [if_pos q, if_pos (by simpa using q)]; rfl
    · rw [if_neg q, if_neg (by simpa using q)]
theorem mem_getK {α : Type} {p : Int × α} : ∀ {l : List (Int × α)}, p ∈ l → ∃ c, getK p.1 l = some c
  | (j, u) :: r, h => by
    by_cases q : j = p.1
    · exact ⟨u, by rw [getK, if_pos q]⟩
    · rcases List.mem_cons.mp h with h | h
      · exact absurd (by rw [h]) q
      · refine e1a1 (mem_getK h) fun c hc => ?_
        exact ⟨c, by rw [getK, if_neg q, hc]⟩

section
variable {X : WIds} {loc : Loc} {H H' : WS} {F : Frm} {st : ASt} {n : Nat} {v w : V} {Q : AVal → ASt → Prop} {p : Pl} {k : Int}


theorem ok_w_write {b : Bool} {r : WS × List V} (r0 : RepW X loc H F st) (h : H.write p k v b = some r) (q : ∀ id st', RepW X loc r.1 (F.add id ⟨0, .list (r.2.map enc)⟩) st' → (∀ o, ¬ F id o) → Q (.obj id) st') : wp ((R (n + 14)).call "_law_write" [.obj X.root, .obj (p.idW X loc), .int k, enc v, .bool b]) st Q := by
  walk_at "fn"
  unfold WS.write at h
  refine bind_K h fun l hl h => ?_
  cases hk : getK k l with
  | none =>
    rw [hk] at h
    refine e1a3 (replacedW_inv h) fun l' hl' hz e3_ => ?_; subst e3_
    rw [hl] at hl'; o_facts hl'
    rw [hk] at q
    cases b
    · with_unfolding_all refine br_f rfl ?_; with_unfolding_all refine br_f rfl ?_; with_unfolding_all refine in_m (RepW.pl ‹_› ‹_›) ?_; with_unfolding_all refine br_f (isSome_f ‹_›) ?_; with_unfolding_all refine wp_newW ‹_› (fun _ _ _ _ _ => ?_); with_unfolding_all refine set_plW ‹_› ‹_› ‹_› (fun _ _ => ?_); exact q _ _ (by assumption) (by assumption)
    · with_unfolding_all refine br_t rfl ?_; with_unfolding_all refine in_m (RepW.pl ‹_› ‹_›) ?_; with_unfolding_all refine br_f (isSome_f ‹_›) ?_; with_unfolding_all refine br_f (isSome_f ‹_›) ?_; with_unfolding_all refine in_m (RepW.pl ‹_› ‹_›) ?_; with_unfolding_all refine br_f (isSome_f ‹_›) ?_; with_unfolding_all refine wp_newW ‹_› (fun _ _ _ _ _ => ?_); with_unfolding_all refine set_plW ‹_› ‹_› ‹_› (fun _ _ => ?_); exact q _ _ (by assumption) (by assumption)
  | some w =>
    rw [hk] at h
    have h : (if b = true then (H.isRef w).bind fun br => if br = true then H.replaced (.slots w.num) 0 v else H.replaced p k v else H.replaced p k v) = some r := h
    cases b with
    | false =>
      rw [if_neg (by decide)] at h
      refine e1a3 (replacedW_inv h) fun l' hl' hz e3_ => ?_; subst e3_
      rw [hl] at hl'; o_facts hl'
      rw [hk] at q
      with_unfolding_all refine br_f rfl ?_; with_unfolding_all refine br_f rfl ?_; with_unfolding_all refine in_m (RepW.pl ‹_› ‹_›) ?_; with_unfolding_all refine br_t (isSome_t ‹_›) ?_; with_unfolding_all refine item_m (RepW.pl ‹_› ‹_›) ‹_› ?_; with_unfolding_all refine wp_newW ‹_› (fun _ _ _ _ _ => ?_); with_unfolding_all refine set_plW ‹_› ‹_› ‹_› (fun _ _ => ?_); exact q _ _ (by assumption) (by assumption)
    | true =>
      rw [if_pos rfl] at h
      refine bind_K h fun br hw h => ?_
      cases br with
      | false =>
        rw [if_neg (by decide)] at h
        refine e1a3 (replacedW_inv h) fun l' hl' hz e3_ => ?_; subst e3_
        rw [hl] at hl'; o_facts hl'
        rw [hk] at q
        with_unfolding_all refine br_t rfl ?_; with_unfolding_all refine in_m (RepW.pl ‹_› ‹_›) ?_; with_unfolding_all refine br_t (isSome_t ‹_›) ?_; with_unfolding_all refine item_m (RepW.pl ‹_› ‹_›) ‹_› ?_; with_unfolding_all refine ok_w_is_ref ‹_› ‹_› ?_; with_unfolding_all refine br_f rfl ?_; with_unfolding_all refine in_m (RepW.pl ‹_› ‹_›) ?_; with_unfolding_all refine br_t (isSome_t ‹_›) ?_; with_unfolding_all refine item_m (RepW.pl ‹_› ‹_›) ‹_› ?_; with_unfolding_all refine wp_newW ‹_› (fun _ _ _ _ _ => ?_); with_unfolding_all refine set_plW ‹_› ‹_› ‹_› (fun _ _ => ?_); exact q _ _ (by assumption) (by assumption)
      | true =>
        rw [if_pos rfl] at h
        refine e1a3 (replacedW_inv h) fun l' hl' hz e3_ => ?_; subst e3_
        refine e1a3 (plW_slots hl') fun c hc e2_ hs => ?_; subst e2_
        rw [hs] at q
        cases hk' : getK 0 c.slots with
        | none =>
          rw [hk'] at q
          with_unfolding_all refine br_t rfl ?_
          with_unfolding_all refine in_m (RepW.pl ‹_› ‹_›) ?_
          with_unfolding_all refine br_t (isSome_t ‹_›) ?_
          with_unfolding_all refine item_m (RepW.pl ‹_› ‹_›) ‹_› ?_
          with_unfolding_all refine ok_w_is_ref ‹_› ‹_› ?_
          with_unfolding_all refine br_t rfl ?_
          with_unfolding_all refine item_sdict (RepW.root ‹_›) rfl ?_
          with_unfolding_all refine item_m (RepW.pl ‹_› ‹_›) ‹_› ?_
          with_unfolding_all refine item_v1 ?_
          with_unfolding_all refine item_cellsW ‹_› ‹_› ?_
          with_unfolding_all refine item_list (RepW.cell ‹_› ‹_›) (by decide) rfl ?_
          with_unfolding_all refine in_m (RepW.slot ‹_› ‹_›) ?_
          with_unfolding_all refine br_f (isSome_f ‹_›) ?_
          with_unfolding_all refine wp_newW ‹_› (fun _ _ _ _ _ => ?_)
          walk_at "stop"
          rename_i id st1 r1 hF1 _
          refine set_slotW r1 hc hz fun st2 r2 => ?_
          skip
          exact q _ _ (by assumption) (by assumption)
        | some u =>
          rw [hk'] at q
          with_unfolding_all refine br_t rfl ?_
          with_unfolding_all refine in_m (RepW.pl ‹_› ‹_›) ?_
          with_unfolding_all refine br_t (isSome_t ‹_›) ?_
          with_unfolding_all refine item_m (RepW.pl ‹_› ‹_›) ‹_› ?_
          with_unfolding_all refine ok_w_is_ref ‹_› ‹_› ?_
          with_unfolding_all refine br_t rfl ?_
          with_unfolding_all refine item_sdict (RepW.root ‹_›) rfl ?_
          with_unfolding_all refine item_m (RepW.pl ‹_› ‹_›) ‹_› ?_
          with_unfolding_all refine item_v1 ?_
          with_unfolding_all refine item_cellsW ‹_› ‹_› ?_
          with_unfolding_all refine item_list (RepW.cell ‹_› ‹_›) (by decide) rfl ?_
          with_unfolding_all refine in_m (RepW.slot ‹_› ‹_›) ?_
          with_unfolding_all refine br_t (isSome_t ‹_›) ?_
          with_unfolding_all refine item_m (RepW.slot ‹_› ‹_›) ‹_› ?_
          with_unfolding_all refine wp_newW ‹_› (fun _ _ _ _ _ => ?_)
          walk_at "stop"
          rename_i id st1 r1 hF1 _
          refine set_slotW r1 hc hz fun st2 r2 => ?_
          skip
          exact q _ _ (by assumption) (by assumption)

theorem ok_w_holders {m : Int} (r0 : RepW X loc H F st) (hs : H.small = true) (q : ∀ st', RepW X loc H F st' → Q (.int (H.holders m)) st') : wp ((R (n + 10)).call "_law_holders" [.obj X.root, .int m]) st Q := by
  unfold WS.small at hs
  rw [Bool.and_eq_true, decide_eq_true_eq, decide_eq_true_eq] at hs
  refine e0a2 (hs) fun hz hzt => ?_
  have hzl := hz
  unfold WS.places at hzl
  rw [List.length_append, List.length_append, List.length_append, List.length_map] at hzl
  walk_at "fn"
  with_unfolding_all refine item_sdict (RepW.root ‹_›) rfl ?_
  with_unfolding_all refine isI_at (RepW.vars ‹_›) ?_
  walk_at "stop"
  refine its_z (its_values r0.vars ⟨by rw [List.length_map, len_encM]; lia -abstractProof, ?_⟩)
  with_unfolding_all refine wp_newW ‹_› (fun _ _ _ _ _ => ?_)
  with_unfolding_all refine item_sdict (RepW.root ‹_›) rfl ?_
  walk_at "stop"
  rename_i i0 st1 r1 hF1 _
  refine add_lists r1.top r1.hand (by rw [List.length_map, len_encM, List.length_map]; lia -abstractProof) ?_
  refine wp_newW r1 fun i st2 r2 hF2 _ => ?_
  have e1 : ((encM H.vars).map fun p => p.2) ++ H.hand.map enc = (H.vars.map (·.2) ++ H.hand).map enc := by
    rw [List.map_append]; unfold encM; rw [List.map_map, List.map_map]; rfl
  rw [e1] at r2
  have r2 := r2.mid
  have hF2 := Frm.sub hF2
  with_unfolding_all refine isL_at (RepW.top ‹_›) ?_
  with_unfolding_all refine item_sdict (RepW.root ‹_›) rfl ?_
  with_unfolding_all refine loi_l (RepW.tasks ‹_›) ?_
  walk_at "stop"
  refine its_z (its_lst r2.tasks ⟨by rw [List.length_map, List.length_reverse]; exact hzt, ?_⟩)
  walk_at "stop"
  refine compLoop_at gLose rfl (fun x hx KY KN hy hn => ?_) ?_
  · refine e1a2 (List.mem_map.mp hx) fun t _ e2_ => ?_; subst e2_
    have hg := gLose_encT t
    cases t with
    | lose v =>
      dsimp only [encT] at hg ⊢
      with_unfolding_all refine aeq_lit rfl rfl ?_
      with_unfolding_all refine br_t rfl ?_
      with_unfolding_all refine br_t rfl ?_
      exact hy _ _ (by walk_at "sub") hg
    | deed d =>
      dsimp only [encT] at hg ⊢
      with_unfolding_all refine aeq_lit rfl rfl ?_
      with_unfolding_all refine br_f rfl ?_
      with_unfolding_all refine br_f rfl ?_
      exact hn _ (by walk_at "sub") hg
  rw [fm_gLose]
  with_unfolding_all refine wp_newW ‹_› (fun _ _ _ _ _ => ?_)
  walk_at "stop"
  rename_i j st3 r3 hF3 _
  refine tmp_extendW r3 hF2 hF3 (by rw [List.length_map, List.length_append, List.length_map, List.length_map]; lia -abstractProof) fun st4 r4 _ => ?_
  rw [← List.map_append] at r4
  with_unfolding_all refine item_sdict (RepW.root ‹_›) rfl ?_
  with_unfolding_all refine isI_at (RepW.cells ‹_›) ?_
  with_unfolding_all refine its_values (RepW.cells ‹_›) ?_
  walk_at "stop"
  have e2 : ((objsW loc H.cells).map fun p => p.2) = H.cells.map fun p => AVal.obj (loc.cell p.1) := by unfold objsW; rw [List.map_map]; rfl
  rw [e2]
  have hiX : X.cells ≠ i := r4.off i _ (.inr ⟨rfl, rfl⟩) .cells rfl
  refine forLoop_at (fun us s => ∃ (ps : List (Int × WC)) (done : List V) (vr : Nat), us = (ps.map fun p => AVal.obj (loc.cell p.1)) ∧ RepW X loc H (F.add i ⟨vr, .list (done.map enc)⟩) s ∧ s.get X.cells = st4.get X.cells ∧ (∀ p ∈ ps, p ∈ H.cells) ∧ done ++ (ps.flatMap fun p => match getK p.1 H.cells with
    | some c => c.slots.map (·.2)
    | none => []) = H.places) ⟨H.cells, _, _, rfl, r4, rfl, fun _ h => h, rfl⟩ ?_ ?_
  · intro u us s h_; refine e3a5 (h_) fun ps done vr hu r5 hs hm hd => ?_
    cases ps with
    | nil => o_facts hu
    | cons pc ps =>
    rw [List.map_cons] at hu
    o_facts hu
    refine e1a1 (mem_getK (hm pc (.head _))) fun c hc => ?_
    refine ⟨by show (s.get _).ver = _; rw [hs]; rfl, fun K hn _ => ?_⟩
    with_unfolding_all refine isL_at (RepW.top ‹_›) ?_
    with_unfolding_all refine item_list (RepW.cell ‹_› ‹_›) (by decide) rfl ?_
    with_unfolding_all refine isI_at (RepW.slot ‹_› ‹_›) ?_
    walk_at "stop"
    rw [List.flatMap_cons, hc] at hd
    have hd : done ++ (c.slots.map (·.2) ++ _) = H.places := hd
    have hlen := congrArg List.length hd
    rw [List.length_append, List.length_append, List.length_map] at hlen
    refine its_z (its_values (r5.slot hc) ⟨by rw [List.length_map, len_encM]; lia -abstractProof, ?_⟩)
    walk_at "stop"
    refine wp_newW r5 fun j s6 r6 hF6 hs6 => ?_
    have e3 : ((encM c.slots).map fun p => p.2) = (c.slots.map (·.2)).map enc := by unfold encM; rw [List.map_map, List.map_map]; rfl
    rw [e3] at r6
    have hjX : X.cells ≠ j := r6.off j _ (.inr ⟨rfl, rfl⟩) .cells rfl
    walk_at "stop"
    refine tmp_extendW r6 hF2 hF6 (by rw [List.length_map, List.length_map, List.length_map]; lia -abstractProof) fun s7 r7 hs7 => ?_
    rw [← List.map_append] at r7
    exact hn _ s7 (by walk_at "sub") ⟨ps, _, _, rfl, r7, (hs7 _ hiX).trans ((hs6 _ hjX).trans hs), fun p hp => hm p (.tail _ hp), by rw [List.append_assoc]; exact hd⟩
  · intro s h_; refine e3a5 (h_) fun ps done vr hu r5 hs hm hd => ?_
    cases ps with
    | cons => o_facts hu
    | nil =>
    rw [List.flatMap_nil, List.append_nil] at hd
    subst hd
    refine ⟨by show (s.get _).ver = _; rw [hs]; rfl, ?_⟩
    with_unfolding_all refine loi_l (RepW.top ‹_›) ?_
    walk_at "stop"
    refine its_z (its_lst r5.top ⟨by rw [List.length_map]; exact hz, ?_⟩)
    walk_at "stop"
    refine compLoop_at (gCell m) rfl (fun x hx KY KN hy hn => ?_) ?_
    · refine e1a2 (List.mem_map.mp hx) fun v _ e2_ => ?_; subst e2_
      have hg := gCell_enc m v
      walk_at "stop"
      refine aeq_enc (w := .cell m) ?_
      by_cases hv : v = .cell m
      · rw [if_pos hv] at hg
        refine br_t (decide_eq_true hv) ?_
        with_unfolding_all refine br_t rfl ?_
        exact hy _ _ (by walk_at "sub") hg
      · rw [if_neg hv] at hg
        refine br_f (decide_eq_false hv) ?_
        with_unfolding_all refine br_f rfl ?_
        exact hn _ (by walk_at "sub") hg
    · rw [fm_gCell]
      walk_at "stop"
      refine wp_newW r5 fun j s6 r6 hF6 _ => ?_
      walk_at "stop"
      refine len_list r6.top (by rw [List.length_map]; exact Nat.le_trans (List.length_filter_le _ _) hz) ?_
      rw [List.length_map]
      exact q _ r6.drop.drop
end
end
/-! P15 -/
section
set_option maxRecDepth 100000
set_option autoImplicit false
set_option maxHeartbeats 1000000

noncomputable def WS.setVar (H : WS) (x : Int) (v : V) : Option WS := if H.vars.length ≤ 1000000 then some { H with vars := putK x v H.vars } else none
noncomputable def WS.refIn (H : WS) (x : Int) : Option (WS × V) := (H.isRef (H.var x)).bind fun b => if b = true then (getK x H.vars).map fun v => (H, v) else
  (H.newCell .ref false).bind fun H1 => ((H1.setC H1.last ⟨.ref, [(0, H.var x)], false⟩).setVar x (.cell H1.last)).map fun H2 => (H2, .cell H1.last)
noncomputable def WS.inCopy (H : WS) (a : Int) (v : V) : Option V := (H.isRef v).bind fun b => if b = true then if H.small = true then if H.holders v.num = 1 then (H.inner v).map fun w => if w = .cell a then v else w else some v else none else some v
noncomputable def WS.copyStep (a m : Int) (H : WS) (key : Int) : Option WS := (getK a H.cells).bind fun c => (getK key c.slots).bind fun v => (H.inCopy a v).bind fun w => (getK m H.cells).bind fun cm => if cm.slots.length ≤ 1000000 then some (H.setC m { cm with slots := putK key w cm.slots }) else none
noncomputable def WS.copied (H : WS) (a : Int) : Option (WS × Int) := (getK a H.cells).bind fun c => (H.newCell .array false).bind fun H1 => if H1.log.length ≤ 1000000 ∧ c.slots.length ≤ 1000000 then ((c.slots.map (·.1)).foldlM (WS.copyStep a H1.last) { H1 with log := H1.log ++ [.copy a H1.last] }).map fun H3 => (H3, H1.last) else none
noncomputable def WS.slotsOf (H : WS) (x : Int) : Option (WS × Int × List V) := (H.valueOf x).bind fun v => (getK v.num H.cells).bind fun c => if c.sort = .object then some (H, v.num, []) else if H.small = true then if H.holders v.num = 1 then some (H, v.num, []) else (H.copied v.num).bind fun y => (getK y.2 y.1.cells).bind fun _ => (y.1.write .vars x (.cell y.2) true).map fun z => (z.1, y.2, z.2) else none

section
variable {X : WIds} {loc : Loc} {H H' : WS} {F : Frm} {st : ASt} {n : Nat} {v w : V} {Q : AVal → ASt → Prop} {p : Pl} {k : Int}

theorem newCellW_get {k : K} {b : Bool} (h : H.newCell k b = some H') : getK H'.last H'.cells = some ⟨k, [], b⟩ ∧ getK H'.last H.cells = none ∧ H'.vars = H.vars ∧ ∀ a, a ≠ H'.last → getK a H'.cells = getK a H.cells := by
  unfold WS.newCell at h
  split at h
  · rename_i q
    o_facts h
    refine ⟨?_, Option.isNone_iff_eq_none.mp q.1, rfl, fun a ha => ?_⟩
    · show getK (H.last + 1) (putK (H.last + 1) _ H.cells) = _
      rw [getK_putK, if_pos rfl]
    · show getK a (putK (H.last + 1) _ H.cells) = _
      rw [getK_putK, if_neg ha]
  · o_facts h


theorem ok_w_reference {x : Int} {y : WS × V} (r : RepW X loc H F st) (h : H.refIn x = some y) (q : ∀ loc' st', RepW X loc' y.1 F st' → Q (enc y.2) st') : wp ((R (n + 16)).call "_law_reference" [.obj X.root, .int x]) st Q := by
  unfold WS.refIn at h
  refine bind_K h fun b hr h => ?_
  have hr' : H.isRef ((getK x H.vars).getD (.int 0)) = some b := hr
  walk_at "fn"
  cases b with
  | true =>
    rw [if_pos rfl] at h
    first | obtain ⟨v, hv, rfl⟩ := map_some h | (refine bind_K h fun v hv h => ?_; o_facts h)
    with_unfolding_all refine item_sdict (RepW.root ‹_›) rfl ?_
    with_unfolding_all refine isI_at (RepW.vars ‹_›) ?_
    with_unfolding_all refine get_m (RepW.vars ‹_›) ?_
    with_unfolding_all refine ok_w_is_ref ‹_› ‹_› ?_
    with_unfolding_all refine br_f rfl ?_
    with_unfolding_all refine item_sdict (RepW.root ‹_›) rfl ?_
    with_unfolding_all refine item_m (RepW.vars ‹_›) ‹_› ?_
    exact q _ _ r
  | false =>
    rw [if_neg (by decide)] at h
    cases hn : H.newCell .ref false with
    | none => rw [hn] at h; o_facts h
    | some H1 =>
      rw [hn, Option.bind_some] at h
      have hg := newCellW_get hn
      have hg1 := hg.1
      with_unfolding_all refine item_sdict (RepW.root ‹_›) rfl ?_
      with_unfolding_all refine isI_at (RepW.vars ‹_›) ?_
      with_unfolding_all refine get_m (RepW.vars ‹_›) ?_
      with_unfolding_all refine ok_w_is_ref ‹_› ‹_› ?_
      with_unfolding_all refine br_t rfl ?_
      walk_at "stop"
      refine ok_w_new (k := .ref) r hn fun loc1 st1 r1 _ => ?_
      with_unfolding_all refine item_sdict (RepW.root ‹_›) rfl ?_
      with_unfolding_all refine isI_at (RepW.vars ‹_›) ?_
      with_unfolding_all refine get_m (RepW.vars ‹_›) ?_
      with_unfolding_all refine item_sdict (RepW.root ‹_›) rfl ?_
      with_unfolding_all refine item_v1c ?_
      with_unfolding_all refine item_cellsW ‹_› ‹_› ?_
      with_unfolding_all refine item_list (RepW.cell ‹_› ‹_›) (by decide) rfl ?_
      walk_at "stop"
      have e : (getK x H1.vars).getD (.int 0) = H.var x := by rw [hg.2.2.1]; rfl
      rw [e]
      refine set_slotW r1 hg1 (by show (0 : Nat) ≤ _; exact Nat.zero_le _) fun st2 r2 => ?_
      have e2 : (H1.setC H1.last { (⟨.ref, [], false⟩ : WC) with slots := putK 0 (H.var x) [] }) = H1.setC H1.last ⟨.ref, [(0, H.var x)], false⟩ := rfl
      have r2 : RepW X loc1 (H1.setC H1.last ⟨.ref, [(0, H.var x)], false⟩) F st2 := r2
      unfold WS.setVar at h
      generalize H1.setC H1.last ⟨.ref, [(0, H.var x)], false⟩ = H3 at r2 h
      by_cases hz : H3.vars.length ≤ 1000000
      · rw [if_pos hz] at h; o_facts h
        with_unfolding_all refine item_sdict (RepW.root ‹_›) rfl ?_
        walk_at "stop"
        refine set_varsW r2 hz fun st4 r4 => ?_
        have hv : getK x (putK x (V.cell H1.last) H3.vars) = some (.cell H1.last) := by rw [getK_putK, if_pos rfl]
        with_unfolding_all refine item_sdict (RepW.root ‹_›) rfl ?_
        with_unfolding_all refine item_m (RepW.vars ‹_›) ‹_› ?_
        exact q _ _ r4
      · rw [if_neg hz] at h; o_facts h

theorem ok_w_slots {x : Int} {y : WS × Int × List V} (r0 : RepW X loc H F st) (h : H.slotsOf x = some y) (q : ∀ loc' id st', RepW X loc' y.1 (F.add id ⟨0, .list (y.2.2.map enc)⟩) st' → (∀ o, ¬ F id o) → Q (.tup [.obj (loc'.slot y.2.1), .obj id]) st') : wp ((R (n + 24)).call "_law_slots" [.obj X.root, .int x]) st Q := by
  unfold WS.slotsOf at h
  refine bind_K h fun v hv h => ?_
  refine bind_K h fun c hc h => ?_
  walk_at "fn"
  by_cases hs : c.sort = .object
  · rw [if_pos hs] at h; o_facts h
    have hs' : decide (c.sort = .object) = true := by simpa using hs
    with_unfolding_all refine ok_w_value ‹_› ‹_› ?_
    with_unfolding_all refine item_v1 ?_
    with_unfolding_all refine item_sdict (RepW.root ‹_›) rfl ?_
    with_unfolding_all refine item_cellsW ‹_› ‹_› ?_
    with_unfolding_all refine item_list (RepW.cell ‹_› ‹_›) (by decide) rfl ?_
    with_unfolding_all refine aeq_object ?_
    with_unfolding_all refine br_t ‹_› ?_
    with_unfolding_all refine br_t ‹_› ?_
    with_unfolding_all refine item_list (RepW.cell ‹_› ‹_›) (by decide) rfl ?_
    with_unfolding_all refine wp_newW ‹_› (fun _ _ _ _ _ => ?_)
    exact q _ _ _ (by assumption) (by assumption)
  · rw [if_neg hs] at h
    have hs' : decide (c.sort = .object) = false := by simpa using hs
    cases hsm : H.small with
    | false => rw [hsm, if_neg (by decide)] at h; o_facts h
    | true =>
    rw [hsm, if_pos rfl] at h
    with_unfolding_all refine ok_w_value ‹_› ‹_› ?_
    with_unfolding_all refine item_v1 ?_
    with_unfolding_all refine item_sdict (RepW.root ‹_›) rfl ?_
    with_unfolding_all refine item_cellsW ‹_› ‹_› ?_
    with_unfolding_all refine item_list (RepW.cell ‹_› ‹_›) (by decide) rfl ?_
    with_unfolding_all refine aeq_object ?_
    with_unfolding_all refine br_f ‹_› ?_
    walk_at "stop"
    refine ok_w_holders r0 hsm fun st1 r1 => ?_
    by_cases hn : H.holders v.num = 1
    · rw [if_pos hn] at h; o_facts h
      have hn' : decide (((H.holders v.num : Nat) : Int) = 1) = true := by rw [hn]; rfl
      with_unfolding_all refine aeq_int ?_
      with_unfolding_all refine br_t ‹_› ?_
      with_unfolding_all refine item_list (RepW.cell ‹_› ‹_›) (by decide) rfl ?_
      with_unfolding_all refine wp_newW ‹_› (fun _ _ _ _ _ => ?_)
      exact q _ _ _ (by assumption) (by assumption)
    · rw [if_neg hn] at h
      have hn' : decide (((H.holders v.num : Nat) : Int) = 1) = false := by rw [decide_eq_false_iff_not]; lia -abstractProof
      refine bind_K h fun z hd h => ?_
      refine bind_K h fun cz he h => ?_
      first | obtain ⟨u, hw, rfl⟩ := map_some h | (refine bind_K h fun u hw h => ?_; o_facts h)
      unfold WS.copied at hd
      rw [hc, Option.bind_some] at hd
      refine bind_K hd fun H1 hnc hd => ?_
      split at hd
      case isFalse => o_facts hd
      rename_i hz
      have hg := newCellW_get hnc
      have ham : v.num ≠ H1.last := fun e => by rw [e, hg.2.1] at hc; o_facts hc
      have hc1 : getK v.num H1.cells = some c := by rw [hg.2.2.2 _ ham]; exact hc
      first | obtain ⟨H3, hf, rfl⟩ := map_some hd | (refine bind_K hd fun H3 hf hd => ?_; o_facts hd)
      with_unfolding_all refine aeq_int ?_
      with_unfolding_all refine br_f ‹_› ?_
      walk_at "stop"
      refine ok_w_new (k := .array) r1 hnc fun loc1 st2 r2 hl => ?_
      rw [← (hl _ ham).1]
      with_unfolding_all refine item_sdict (RepW.root ‹_›) rfl ?_
      with_unfolding_all refine isL_at (RepW.log ‹_›) ?_
      with_unfolding_all refine item_v1c ?_
      walk_at "stop"
      refine log_appendW (l := .copy v.num H1.last) r2 hz.1 fun st3 r3 => ?_
      have r3 : RepW X loc1 { H1 with log := H1.log ++ [.copy v.num H1.last] } F st3 := r3
      have hc3 : getK v.num ({ H1 with log := H1.log ++ [.copy v.num H1.last] } : WS).cells = some c := hc1
      with_unfolding_all refine item_list (RepW.cell ‹_› ‹_›) (by decide) rfl ?_
      with_unfolding_all refine loi_k (RepW.slot ‹_› ‹_›) ?_
      walk_at "stop"
      refine its_z (its_keys (r3.slot hc3) ⟨by rw [List.length_map, len_encM]; exact hz.2, ?_⟩)
      have hk : ((encM c.slots).map fun p => AVal.int p.1) = (c.slots.map (·.1)).map AVal.int := by unfold encM; rw [List.map_map, List.map_map]; rfl
      rw [hk]
      walk_at "stop"
      refine wp_newW r3 fun i st4 r4 hF4 _ => ?_
      with_unfolding_all refine loi_l (RepW.top ‹_›) ?_
      with_unfolding_all refine its_lst (RepW.top ‹_›) ?_
      walk_at "stop"
      have hw4 : ∀ s : ASt, s.Ob i ⟨0, .list ((c.slots.map (·.1)).map AVal.int)⟩ → (Src.lst i).watch s = (Src.lst i).watch st4 := fun s hs => by
        show (s.get i).ver = (st4.get i).ver
        rw [hs.2, (r4.frame _ _ (.inr ⟨rfl, rfl⟩)).2]
      refine forLoop_at (fun us s => ∃ (ks : List Int) (H' : WS), us = ks.map AVal.int ∧ RepW X loc1 H' (F.add i ⟨0, .list ((c.slots.map (·.1)).map AVal.int)⟩) s ∧ ks.foldlM (WS.copyStep v.num H1.last) H' = some H3) ⟨_, _, rfl, r4, hf⟩ ?_ ?_
      · intro u us s h_; refine e2a3 (h_) fun ks H' hu r5 hk => ?_
        cases ks with
        | nil => o_facts hu
        | cons key ks =>
        rw [List.map_cons] at hu
        o_facts hu
        rw [List.foldlM_cons] at hk
        refine bind_K hk fun Hn hst hk => ?_
        unfold WS.copyStep at hst
        refine bind_K hst fun ca h1 hst => ?_
        refine bind_K hst fun t h2 hst => ?_
        refine bind_K hst fun w h3 hst => ?_
        refine bind_K hst fun cm h4 hst => ?_
        by_cases hz2 : cm.slots.length ≤ 1000000
        · rw [if_pos hz2] at hst
          cases hst
          refine ⟨hw4 _ (r5.frame _ _ (.inr ⟨rfl, rfl⟩)), fun K hnx _ => ?_⟩
          unfold WS.inCopy at h3
          refine bind_K h3 fun b hb h3 => ?_
          cases b with
          | false =>
            rw [if_neg (by decide)] at h3; o_facts h3
            with_unfolding_all refine item_list (RepW.cell ‹_› ‹_›) (by decide) rfl ?_
            with_unfolding_all refine item_m (RepW.slot ‹_› ‹_›) ‹_› ?_
            with_unfolding_all refine ok_w_is_ref ‹_› ‹_› ?_
            with_unfolding_all refine br_f rfl ?_
            with_unfolding_all refine br_f rfl ?_
            with_unfolding_all refine item_sdict (RepW.root ‹_›) rfl ?_
            with_unfolding_all refine item_v1c ?_
            with_unfolding_all refine item_cellsW ‹_› ‹_› ?_
            with_unfolding_all refine item_list (RepW.cell ‹_› ‹_›) (by decide) rfl ?_
            walk_at "stop"
            refine set_slotW r5 h4 hz2 fun s6 r6 => ?_
            exact hnx _ s6 (by walk_at "sub") ⟨ks, _, rfl, r6, hk⟩
          | true =>
            rw [if_pos rfl] at h3
            cases hsm' : H'.small with
            | false => rw [hsm', if_neg (by decide)] at h3; o_facts h3
            | true =>
            rw [hsm', if_pos rfl] at h3
            with_unfolding_all refine item_list (RepW.cell ‹_› ‹_›) (by decide) rfl ?_
            with_unfolding_all refine item_m (RepW.slot ‹_› ‹_›) ‹_› ?_
            with_unfolding_all refine ok_w_is_ref ‹_› ‹_› ?_
            with_unfolding_all refine br_t rfl ?_
            with_unfolding_all refine item_v1 ?_
            walk_at "stop"
            refine ok_w_holders r5 hsm' fun s6 r6 => ?_
            by_cases hn2 : H'.holders t.num = 1
            · have hn2' : decide (((H'.holders t.num : Nat) : Int) = 1) = true := by rw [hn2]; rfl
              rw [if_pos hn2] at h3
              cases hi : H'.inner t with
              | none => rw [hi] at h3; o_facts h3
              | some w' =>
              rw [hi] at h3
              have h3 : some (if w' = .cell v.num then t else w') = some w := h3
              with_unfolding_all refine aeq_int ?_
              with_unfolding_all refine br_t ‹_› ?_
              with_unfolding_all refine ok_w_inner ‹_› ‹_› ?_
              walk_at "stop"
              refine aeq_enc (w := .cell v.num) ?_
              by_cases hw' : w' = .cell v.num
              · have hw2 : (!decide (w' = .cell v.num)) = false := by rw [decide_eq_true hw']; rfl
                rw [if_pos hw'] at h3; o_facts h3
                with_unfolding_all refine br_f ‹_› ?_
                with_unfolding_all refine item_sdict (RepW.root ‹_›) rfl ?_
                with_unfolding_all refine item_v1c ?_
                with_unfolding_all refine item_cellsW ‹_› ‹_› ?_
                with_unfolding_all refine item_list (RepW.cell ‹_› ‹_›) (by decide) rfl ?_
                walk_at "stop"
                refine set_slotW r6 h4 hz2 fun s7 r7 => ?_
                exact hnx _ s7 (by walk_at "sub") ⟨ks, _, rfl, r7, hk⟩
              · have hw2 : (!decide (w' = .cell v.num)) = true := by rw [decide_eq_false hw']; rfl
                rw [if_neg hw'] at h3; o_facts h3
                with_unfolding_all refine br_t ‹_› ?_
                with_unfolding_all refine ok_w_inner ‹_› ‹_› ?_
                with_unfolding_all refine item_sdict (RepW.root ‹_›) rfl ?_
                with_unfolding_all refine item_v1c ?_
                with_unfolding_all refine item_cellsW ‹_› ‹_› ?_
                with_unfolding_all refine item_list (RepW.cell ‹_› ‹_›) (by decide) rfl ?_
                walk_at "stop"
                refine set_slotW r6 h4 hz2 fun s7 r7 => ?_
                exact hnx _ s7 (by walk_at "sub") ⟨ks, _, rfl, r7, hk⟩
            · have hn2' : decide (((H'.holders t.num : Nat) : Int) = 1) = false := by rw [decide_eq_false_iff_not]; lia -abstractProof
              rw [if_neg hn2] at h3; o_facts h3
              with_unfolding_all refine aeq_int ?_
              with_unfolding_all refine br_f ‹_› ?_
              with_unfolding_all refine br_f ‹_› ?_
              with_unfolding_all refine item_sdict (RepW.root ‹_›) rfl ?_
              with_unfolding_all refine item_v1c ?_
              with_unfolding_all refine item_cellsW ‹_› ‹_› ?_
              with_unfolding_all refine item_list (RepW.cell ‹_› ‹_›) (by decide) rfl ?_
              walk_at "stop"
              refine set_slotW r6 h4 hz2 fun s7 r7 => ?_
              exact hnx _ s7 (by walk_at "sub") ⟨ks, _, rfl, r7, hk⟩
        · rw [if_neg hz2] at hst; o_facts hst
      · intro s h_; refine e2a3 (h_) fun ks H' hu r5 hk => ?_
        cases ks with
        | cons => o_facts hu
        | nil =>
        o_facts hk
        refine ⟨hw4 _ (r5.frame _ _ (.inr ⟨rfl, rfl⟩)), ?_⟩
        have r5 := r5.drop
        with_unfolding_all refine item_sdict (RepW.root ‹_›) rfl ?_
        with_unfolding_all refine item_v1c ?_
        with_unfolding_all refine item_cellsW ‹_› ‹_› ?_
        with_unfolding_all refine item_list (RepW.cell ‹_› ‹_›) (by decide) rfl ?_
        with_unfolding_all refine item_sdict (RepW.root ‹_›) rfl ?_
        walk_at "stop"
        refine ok_w_write (p := .vars) r5 hw fun id s6 r6 hF6 => ?_
        skip
        exact q _ _ _ r6 hF6
end
end
/-! P16 -/
section
set_option maxRecDepth 100000
set_option autoImplicit false
set_option maxHeartbeats 1000000

noncomputable def joinW (l : List V) (z : WS × List V) : Option (WS × List V) := if l.length + z.2.length ≤ 1000000 then some (z.1, l ++ z.2) else none
noncomputable def popHand (z : WS × List V) : Option (WS × List V) := match z.1.hand.reverse with
  | [] => none
  | _ :: l => if z.1.hand.length ≤ 1000000 then some ({ z.1 with hand := l.reverse }, z.2) else none
noncomputable def WS.held (H : WS) (v : V) : Option WS := if H.hand.length ≤ 1000000 then some { H with hand := H.hand ++ [v] } else none
noncomputable def WS.put (H : WS) (x k y : Int) : Option (WS × List V) := (H.valueOf x).bind fun b => if b.isCell = true then (H.valueOf y).bind fun v => (H.held v).bind fun H1 => (H1.slotsOf x).bind fun z => (z.1.write (.slots z.2.1) k v true).bind fun u => (joinW z.2.2 u).bind popHand else some (H, [])
noncomputable def WS.putRef (H : WS) (x k y : Int) : Option (WS × List V) := (H.valueOf x).bind fun b => if b.isCell = true then (H.refIn y).bind fun w => (w.1.held w.2).bind fun H1 => (H1.slotsOf x).bind fun z => (z.1.write (.slots z.2.1) k w.2 false).bind fun u => (joinW z.2.2 u).bind popHand else some (H, [])
noncomputable def WS.unsetAt (H : WS) (x k : Int) : Option (WS × List V) := (H.valueOf x).bind fun b => if b.isCell = true then (H.slotsOf x).bind fun z => (z.1.takenOut (.slots z.2.1) k).bind (joinW z.2.2) else some (H, [])
noncomputable def WS.takeV (H : WS) (y k : Int) : Option V := (H.valueOf y).bind fun w => if w.isCell = true then (getK w.num H.cells).bind fun c => H.inner ((getK k c.slots).getD (.int 0)) else some (.int 0)
noncomputable def WS.change (H : WS) : D → Option (WS × List V)
  | .setInt x i => H.write .vars x (.int i) true
  | .newArray x => (H.newCell .array false).bind fun H1 => H1.write .vars x (.cell H1.last) true
  | .newObject x b => (H.newCell .object b).bind fun H1 => H1.write .vars x (.cell H1.last) true
  | .assign x y => (H.valueOf y).bind fun v => H.write .vars x v true
  | .put x k y => H.put x k y
  | .take x y k => (H.takeV y k).bind fun v => H.write .vars x v true
  | .makeRef x y => (H.refIn y).bind fun w => w.1.write .vars x w.2 false
  | .putRef x k y => H.putRef x k y
  | .unset x => H.takenOut .vars x
  | .unsetAt x k => H.unsetAt x k

section
variable {X : WIds} {loc : Loc} {H H' : WS} {F : Frm} {st : ASt} {n : Nat} {v w : V} {Q : AVal → ASt → Prop} {p : Pl} {k : Int} {r : WS × List V}

theorem isIn3 {a b c d : Str} {B : Bool → ASt → Prop} (h : (PyData.strOk a && PyData.strOk b && PyData.strOk c && PyData.strOk d) = true) (q : B (decide (a = d) || (decide (b = d) || decide (c = d))) st) : wp (isIn (.str d) [.str a, .str b, .str c]) st B := by
  simp only [Bool.and_eq_true] at h
  obtain ⟨⟨⟨ha, hb⟩, hc⟩, hd⟩ := h
  refine ⟨[.str a, .str b, .str c], .str d, rfl, rfl, ?_, ?_⟩
  · simp only [PyData.canLayAll0, PyData.canLay0, ha, hb, hc, hd]; rfl
  · simpa only [List.any_cons, List.any_nil, str_beq, Bool.or_false] using q
theorem writeW_pl {b : Bool} {z : WS × List V} (h : H.write p k v b = some z) : ∃ l, H.pl p = some l := by
  unfold WS.write at h
  cases e : H.pl p with
  | none => rw [e] at h; o_facts h
  | some l => exact ⟨l, rfl⟩
theorem takenOutW_pl {z : WS × List V} (h : H.takenOut p k = some z) : ∃ l, H.pl p = some l := by
  unfold WS.takenOut at h
  cases e : H.pl p with
  | none => rw [e] at h; o_facts h
  | some l => exact ⟨l, rfl⟩


/- the two lists put together -/
theorem ok_joinW {ls : List V} {z : WS × List V} {i j : Nat} {st' : ASt} {loc' : Loc} {F : Frm} (r1 : RepW X loc' z.1 ((F.add i ⟨0, .list (ls.map enc)⟩).add j ⟨0, .list (z.2.map enc)⟩) st') (h : joinW ls z = some r) (q : ∀ id st', RepW X loc' r.1 (F.add id ⟨0, .list (r.2.map enc)⟩) st' → (∀ o, ¬ F id o) → Q (.obj id) st') : wp (addL i j) st' Q := by
  unfold joinW at h
  by_cases hz : ls.length + z.2.length ≤ 1000000
  · rw [if_pos hz] at h; o_facts h
    refine add_lists r1.top2 r1.top (by rw [List.length_map, List.length_map]; exact hz) ?_
    refine wp_newW r1 fun id st2 r2 hF _ => ?_
    rw [← List.map_append] at r2
    exact q _ _ r2.mid.mid (Frm.sub (Frm.sub hF))
  · rw [if_neg hz] at h; o_facts h

theorem ok_el_unset_at {x : Int} (r0 : RepW X loc H F st) (h : H.unsetAt x k = some r) (q : ∀ loc' id st', RepW X loc' r.1 (F.add id ⟨0, .list (r.2.map enc)⟩) st' → (∀ o, ¬ F id o) → Q (.obj id) st') : wp ((R (n + 28)).call "_law_element" [.obj X.root, .str "unset_at", .tup [.int x, .int k]]) st Q := by
  unfold WS.unsetAt at h
  refine bind_K h fun b hb h => ?_
  walk_at "fn"
  cases hc : b.isCell with
  | false =>
    rw [hc, if_neg (by decide)] at h; o_facts h
    have hc' : (!b.isCell) = true := by rw [hc]; rfl
    with_unfolding_all refine item_tup (by decide) rfl ?_
    with_unfolding_all refine ok_w_value ‹_› ‹_› ?_
    with_unfolding_all refine item_v0 ?_
    with_unfolding_all refine aeq_tagi ?_
    with_unfolding_all refine br_t ‹_› ?_
    with_unfolding_all refine wp_newW ‹_› (fun _ _ _ _ _ => ?_)
    exact q _ _ _ (by assumption) (by assumption)
  | true =>
    rw [hc, if_pos rfl] at h
    have hc' : (!b.isCell) = false := by rw [hc]; rfl
    refine bind_K h fun z hz h => ?_
    refine bind_K h fun u ht h => ?_
    refine e1a1 (takenOutW_pl ht) fun l hl => ?_
    refine e1a3 (plW_slots hl) fun c hcz e2_ hs => ?_; subst e2_
    with_unfolding_all refine item_tup (by decide) rfl ?_
    with_unfolding_all refine ok_w_value ‹_› ‹_› ?_
    with_unfolding_all refine item_v0 ?_
    with_unfolding_all refine aeq_tagi ?_
    with_unfolding_all refine br_f ‹_› ?_
    with_unfolding_all refine aeq_lit rfl rfl ?_
    with_unfolding_all refine br_t rfl ?_
    with_unfolding_all refine item_tup (by decide) rfl ?_
    walk_at "stop"
    refine ok_w_slots r0 hz fun loc1 i st1 r1 hF1 => ?_
    unfold WS.takenOut at ht
    rw [hl, Option.bind_some] at ht
    cases hk : getK k c.slots with
    | none =>
      rw [hk] at ht; o_facts ht
      with_unfolding_all refine item_tup (by decide) rfl ?_
      with_unfolding_all refine in_m (RepW.slot ‹_› ‹_›) ?_
      with_unfolding_all refine br_f (isSome_f ‹_›) ?_
      with_unfolding_all refine wp_newW ‹_› (fun _ _ _ _ _ => ?_)
      walk_at "stop"
      rename_i j st2 r2 hF2 _
      exact ok_joinW (z := (z.1, [])) r2 h fun id st' r' hF => q _ _ _ r' hF
    | some g =>
      rw [hk] at ht
      have ht : (if c.slots.length ≤ 1000000 then some (z.1.setPl (.slots z.2.1) (delK k c.slots), [g]) else none) = some u := ht
      split at ht
      case isFalse => o_facts ht
      rename_i hlen
      o_facts ht
      with_unfolding_all refine item_tup (by decide) rfl ?_
      with_unfolding_all refine in_m (RepW.slot ‹_› ‹_›) ?_
      with_unfolding_all refine br_t (isSome_t ‹_›) ?_
      with_unfolding_all refine isI_at (RepW.slot ‹_› ‹_›) ?_
      with_unfolding_all refine item_tup (by decide) rfl ?_
      walk_at "stop"
      refine pop_plW (p := .slots z.2.1) r1 hl hk hlen fun st2 r2 => ?_
      with_unfolding_all refine wp_newW ‹_› (fun _ _ _ _ _ => ?_)
      walk_at "stop"
      rename_i j st3 r3 hF3 _
      exact ok_joinW (z := (_, [g])) r3 h fun id st' r' hF => q _ _ _ r' hF

theorem popHand_inv {z : WS × List V} (h : popHand z = some r) : ∃ l u, z.1.hand = l ++ [u] ∧ z.1.hand.length ≤ 1000000 ∧ r = ({ z.1 with hand := l }, z.2) := by
  unfold popHand at h
  split at h
  · o_facts h
  · rename_i u l e
    split at h
    · rename_i hz
      o_facts h
      refine ⟨l.reverse, u, ?_, hz, rfl⟩
      have := congrArg List.reverse e
      rw [List.reverse_reverse, List.reverse_cons] at this
      exact this
    · o_facts h

theorem ok_el_put {x y : Int} (r0 : RepW X loc H F st) (h : H.put x k y = some r) (q : ∀ loc' id st', RepW X loc' r.1 (F.add id ⟨0, .list (r.2.map enc)⟩) st' → (∀ o, ¬ F id o) → Q (.obj id) st') : wp ((R (n + 28)).call "_law_element" [.obj X.root, .str "put", .tup [.int x, .int k, .int y]]) st Q := by
  unfold WS.put at h
  refine bind_K h fun b hb h => ?_
  walk_at "fn"
  cases hc : b.isCell with
  | false =>
    rw [hc, if_neg (by decide)] at h; o_facts h
    have hc' : (!b.isCell) = true := by rw [hc]; rfl
    with_unfolding_all refine item_tup (by decide) rfl ?_
    with_unfolding_all refine ok_w_value ‹_› ‹_› ?_
    with_unfolding_all refine item_v0 ?_
    with_unfolding_all refine aeq_tagi ?_
    with_unfolding_all refine br_t ‹_› ?_
    with_unfolding_all refine wp_newW ‹_› (fun _ _ _ _ _ => ?_)
    exact q _ _ _ (by assumption) (by assumption)
  | true =>
    rw [hc, if_pos rfl] at h
    have hc' : (!b.isCell) = false := by rw [hc]; rfl
    refine bind_K h fun v hv h => ?_
    refine bind_K h fun H1 hh h => ?_
    refine bind_K h fun z hz h => ?_
    refine bind_K h fun u hw h => ?_
    refine bind_K h fun y2 hj h => ?_
    refine e2a3 (popHand_inv h) fun l u' hl hlen e4_ => ?_; subst e4_
    unfold WS.held at hh
    split at hh
    case isFalse => o_facts hh
    rename_i hhl
    o_facts hh
    with_unfolding_all refine item_tup (by decide) rfl ?_
    with_unfolding_all refine ok_w_value ‹_› ‹_› ?_
    with_unfolding_all refine item_v0 ?_
    with_unfolding_all refine aeq_tagi ?_
    with_unfolding_all refine br_f ‹_› ?_
    with_unfolding_all refine aeq_lit rfl rfl ?_
    with_unfolding_all refine br_f rfl ?_
    with_unfolding_all refine aeq_lit rfl rfl ?_
    with_unfolding_all refine br_t rfl ?_
    with_unfolding_all refine item_tup (by decide) rfl ?_
    with_unfolding_all refine ok_w_value ‹_› ‹_› ?_
    with_unfolding_all refine item_sdict (RepW.root ‹_›) rfl ?_
    with_unfolding_all refine isL_at (RepW.hand ‹_›) ?_
    walk_at "stop"
    refine hand_append r0 hhl fun st1 r1 => ?_
    with_unfolding_all refine item_tup (by decide) rfl ?_
    walk_at "stop"
    refine ok_w_slots r1 hz fun loc2 i st2 r2 hF2 => ?_
    with_unfolding_all refine item_tup (by decide) rfl ?_
    with_unfolding_all refine aeq_lit rfl rfl ?_
    walk_at "stop"
    refine ok_w_write (p := .slots z.2.1) (b := true) r2 hw fun j st3 r3 hF3 => ?_
    walk_at "stop"
    refine ok_joinW r3 hj fun id st4 r4 hF4 => ?_
    with_unfolding_all refine item_sdict (RepW.root ‹_›) rfl ?_
    with_unfolding_all refine isL_at (RepW.hand ‹_›) ?_
    walk_at "stop"
    refine hand_pop r4 hl hlen fun st5 r5 => ?_
    skip
    exact q _ _ _ r5 hF4

theorem ok_el_put_ref {x y : Int} (r0 : RepW X loc H F st) (h : H.putRef x k y = some r) (q : ∀ loc' id st', RepW X loc' r.1 (F.add id ⟨0, .list (r.2.map enc)⟩) st' → (∀ o, ¬ F id o) → Q (.obj id) st') : wp ((R (n + 28)).call "_law_element" [.obj X.root, .str "put_ref", .tup [.int x, .int k, .int y]]) st Q := by
  unfold WS.putRef at h
  refine bind_K h fun b hb h => ?_
  walk_at "fn"
  cases hc : b.isCell with
  | false =>
    rw [hc, if_neg (by decide)] at h; o_facts h
    have hc' : (!b.isCell) = true := by rw [hc]; rfl
    with_unfolding_all refine item_tup (by decide) rfl ?_
    with_unfolding_all refine ok_w_value ‹_› ‹_› ?_
    with_unfolding_all refine item_v0 ?_
    with_unfolding_all refine aeq_tagi ?_
    with_unfolding_all refine br_t ‹_› ?_
    with_unfolding_all refine wp_newW ‹_› (fun _ _ _ _ _ => ?_)
    exact q _ _ _ (by assumption) (by assumption)
  | true =>
    rw [hc, if_pos rfl] at h
    have hc' : (!b.isCell) = false := by rw [hc]; rfl
    refine bind_K h fun w hv h => ?_
    refine bind_K h fun H1 hh h => ?_
    refine bind_K h fun z hz h => ?_
    refine bind_K h fun u hw h => ?_
    refine bind_K h fun y2 hj h => ?_
    refine e2a3 (popHand_inv h) fun l u' hl hlen e4_ => ?_; subst e4_
    unfold WS.held at hh
    split at hh
    case isFalse => o_facts hh
    rename_i hhl
    o_facts hh
    with_unfolding_all refine item_tup (by decide) rfl ?_
    with_unfolding_all refine ok_w_value ‹_› ‹_› ?_
    with_unfolding_all refine item_v0 ?_
    with_unfolding_all refine aeq_tagi ?_
    with_unfolding_all refine br_f ‹_› ?_
    with_unfolding_all refine aeq_lit rfl rfl ?_
    with_unfolding_all refine br_f rfl ?_
    with_unfolding_all refine aeq_lit rfl rfl ?_
    with_unfolding_all refine br_f rfl ?_
    with_unfolding_all refine item_tup (by decide) rfl ?_
    walk_at "stop"
    refine ok_w_reference r0 hv fun loc0 st0 r0 => ?_
    with_unfolding_all refine item_sdict (RepW.root ‹_›) rfl ?_
    with_unfolding_all refine isL_at (RepW.hand ‹_›) ?_
    walk_at "stop"
    refine hand_append r0 hhl fun st1 r1 => ?_
    with_unfolding_all refine item_tup (by decide) rfl ?_
    walk_at "stop"
    refine ok_w_slots r1 hz fun loc2 i st2 r2 hF2 => ?_
    with_unfolding_all refine item_tup (by decide) rfl ?_
    with_unfolding_all refine aeq_lit rfl rfl ?_
    walk_at "stop"
    refine ok_w_write (p := .slots z.2.1) (b := false) r2 hw fun j st3 r3 hF3 => ?_
    walk_at "stop"
    refine ok_joinW r3 hj fun id st4 r4 hF4 => ?_
    with_unfolding_all refine item_sdict (RepW.root ‹_›) rfl ?_
    with_unfolding_all refine isL_at (RepW.hand ‹_›) ?_
    walk_at "stop"
    refine hand_pop r4 hl hlen fun st5 r5 => ?_
    skip
    exact q _ _ _ r5 hF4

theorem ok_w_change {d : D} (r0 : RepW X loc H F st) (h : H.change d = some r) (q : ∀ loc' id st', RepW X loc' r.1 (F.add id ⟨0, .list (r.2.map enc)⟩) st' → (∀ o, ¬ F id o) → Q (.obj id) st') : wp ((R (n + 33)).call "_law_change" [.obj X.root, .str d.name, .tup d.args]) st Q := by
  walk_at "fn"
  cases d with
  | setInt x i =>
    dsimp only [D.name, D.args]; with_unfolding_all refine isIn3 rfl ?_; with_unfolding_all refine br_f rfl ?_; with_unfolding_all refine aeq_lit rfl rfl ?_; with_unfolding_all refine br_f rfl ?_; with_unfolding_all refine aeq_lit rfl rfl ?_; with_unfolding_all refine br_f rfl ?_; with_unfolding_all refine aeq_lit rfl rfl ?_; with_unfolding_all refine br_t rfl ?_; with_unfolding_all refine item_tup (by decide) rfl ?_; with_unfolding_all refine item_sdict (RepW.root ‹_›) rfl ?_; with_unfolding_all refine item_tup (by decide) rfl ?_; walk_at "stop"
    exact ok_w_write (p := .vars) (v := .int i) (b := true) r0 h fun id st1 r1 hF => q _ _ _ r1 hF
  | newArray x =>
    have h : (H.newCell .array false).bind (fun H1 => H1.write .vars x (.cell H1.last) true) = some r := h
    refine bind_K h fun H1 hn h => ?_
    dsimp only [D.name, D.args]; with_unfolding_all refine isIn3 rfl ?_; with_unfolding_all refine br_f rfl ?_; with_unfolding_all refine aeq_lit rfl rfl ?_; with_unfolding_all refine br_f rfl ?_; with_unfolding_all refine aeq_lit rfl rfl ?_; with_unfolding_all refine br_f rfl ?_; with_unfolding_all refine aeq_lit rfl rfl ?_; with_unfolding_all refine br_f rfl ?_; with_unfolding_all refine aeq_lit rfl rfl ?_; with_unfolding_all refine br_t rfl ?_; walk_at "stop"
    refine ok_w_new (k := .array) r0 hn fun loc1 st1 r1 _ => ?_
    with_unfolding_all refine item_sdict (RepW.root ‹_›) rfl ?_
    with_unfolding_all refine item_tup (by decide) rfl ?_
    walk_at "stop"
    exact ok_w_write (p := .vars) (b := true) r1 h fun id st1 r1 hF => q _ _ _ r1 hF
  | newObject x b =>
    have h : (H.newCell .object b).bind (fun H1 => H1.write .vars x (.cell H1.last) true) = some r := h
    refine bind_K h fun H1 hn h => ?_
    dsimp only [D.name, D.args]; with_unfolding_all refine isIn3 rfl ?_; with_unfolding_all refine br_f rfl ?_; with_unfolding_all refine aeq_lit rfl rfl ?_; with_unfolding_all refine br_f rfl ?_; with_unfolding_all refine aeq_lit rfl rfl ?_; with_unfolding_all refine br_f rfl ?_; with_unfolding_all refine aeq_lit rfl rfl ?_; with_unfolding_all refine br_f rfl ?_; with_unfolding_all refine aeq_lit rfl rfl ?_; with_unfolding_all refine br_f rfl ?_; with_unfolding_all refine aeq_lit rfl rfl ?_; with_unfolding_all refine br_t rfl ?_; with_unfolding_all refine item_tup (by decide) rfl ?_; walk_at "stop"
    refine ok_w_new (k := .object) r0 hn fun loc1 st1 r1 _ => ?_
    with_unfolding_all refine item_sdict (RepW.root ‹_›) rfl ?_
    with_unfolding_all refine item_tup (by decide) rfl ?_
    walk_at "stop"
    exact ok_w_write (p := .vars) (b := true) r1 h fun id st1 r1 hF => q _ _ _ r1 hF
  | assign x y =>
    have h : (H.valueOf y).bind (fun v => H.write .vars x v true) = some r := h
    refine bind_K h fun v hn h => ?_
    dsimp only [D.name, D.args]; with_unfolding_all refine isIn3 rfl ?_; with_unfolding_all refine br_f rfl ?_; with_unfolding_all refine aeq_lit rfl rfl ?_; with_unfolding_all refine br_f rfl ?_; with_unfolding_all refine aeq_lit rfl rfl ?_; with_unfolding_all refine br_f rfl ?_; with_unfolding_all refine aeq_lit rfl rfl ?_; with_unfolding_all refine br_f rfl ?_; with_unfolding_all refine aeq_lit rfl rfl ?_; with_unfolding_all refine br_f rfl ?_; with_unfolding_all refine aeq_lit rfl rfl ?_; with_unfolding_all refine br_f rfl ?_; with_unfolding_all refine aeq_lit rfl rfl ?_; with_unfolding_all refine br_t rfl ?_; with_unfolding_all refine item_tup (by decide) rfl ?_; with_unfolding_all refine ok_w_value ‹_› ‹_› ?_; with_unfolding_all refine item_sdict (RepW.root ‹_›) rfl ?_; with_unfolding_all refine item_tup (by decide) rfl ?_; walk_at "stop"
    exact ok_w_write (p := .vars) (b := true) r0 h fun id st1 r1 hF => q _ _ _ r1 hF
  | put x k y =>
    dsimp only [D.name, D.args]; with_unfolding_all refine isIn3 rfl ?_; with_unfolding_all refine br_t rfl ?_; walk_at "stop"
    exact ok_el_put r0 h q
  | take x y k =>
    have h : (H.takeV y k).bind (fun v => H.write .vars x v true) = some r := h
    refine bind_K h fun v hn h => ?_
    unfold WS.takeV at hn
    refine bind_K hn fun w hv hn => ?_
    cases hw : w.isCell with
    | false =>
      rw [hw, if_neg (by decide)] at hn; o_facts hn
      have hw' : (!w.isCell) = true := by rw [hw]; rfl
      dsimp only [D.name, D.args]; with_unfolding_all refine isIn3 rfl ?_; with_unfolding_all refine br_f rfl ?_; with_unfolding_all refine aeq_lit rfl rfl ?_; with_unfolding_all refine br_f rfl ?_; with_unfolding_all refine aeq_lit rfl rfl ?_; with_unfolding_all refine br_f rfl ?_; with_unfolding_all refine aeq_lit rfl rfl ?_; with_unfolding_all refine br_f rfl ?_; with_unfolding_all refine aeq_lit rfl rfl ?_; with_unfolding_all refine br_f rfl ?_; with_unfolding_all refine aeq_lit rfl rfl ?_; with_unfolding_all refine br_f rfl ?_; with_unfolding_all refine aeq_lit rfl rfl ?_; with_unfolding_all refine br_f rfl ?_; with_unfolding_all refine item_tup (by decide) rfl ?_; with_unfolding_all refine ok_w_value ‹_› ‹_› ?_; with_unfolding_all refine item_v0 ?_; with_unfolding_all refine aeq_tagi ?_; with_unfolding_all refine br_t ‹_› ?_; with_unfolding_all refine item_sdict (RepW.root ‹_›) rfl ?_; with_unfolding_all refine item_tup (by decide) rfl ?_; walk_at "stop"
      exact ok_w_write (p := .vars) (v := .int 0) (b := true) r0 h fun id st1 r1 hF => q _ _ _ r1 hF
    | true =>
      rw [hw, if_pos rfl] at hn
      have hw' : (!w.isCell) = false := by rw [hw]; rfl
      refine bind_K hn fun c hc hn => ?_
      dsimp only [D.name, D.args]; with_unfolding_all refine isIn3 rfl ?_; with_unfolding_all refine br_f rfl ?_; with_unfolding_all refine aeq_lit rfl rfl ?_; with_unfolding_all refine br_f rfl ?_; with_unfolding_all refine aeq_lit rfl rfl ?_; with_unfolding_all refine br_f rfl ?_; with_unfolding_all refine aeq_lit rfl rfl ?_; with_unfolding_all refine br_f rfl ?_; with_unfolding_all refine aeq_lit rfl rfl ?_; with_unfolding_all refine br_f rfl ?_; with_unfolding_all refine aeq_lit rfl rfl ?_; with_unfolding_all refine br_f rfl ?_; with_unfolding_all refine aeq_lit rfl rfl ?_; with_unfolding_all refine br_f rfl ?_; with_unfolding_all refine item_tup (by decide) rfl ?_; with_unfolding_all refine ok_w_value ‹_› ‹_› ?_; with_unfolding_all refine item_v0 ?_; with_unfolding_all refine aeq_tagi ?_; with_unfolding_all refine br_f ‹_› ?_; with_unfolding_all refine item_sdict (RepW.root ‹_›) rfl ?_; with_unfolding_all refine item_v1 ?_; with_unfolding_all refine item_cellsW ‹_› ‹_› ?_; with_unfolding_all refine item_list (RepW.cell ‹_› ‹_›) (by decide) rfl ?_; with_unfolding_all refine isI_at (RepW.slot ‹_› ‹_›) ?_; with_unfolding_all refine item_tup (by decide) rfl ?_; with_unfolding_all refine get_m (RepW.slot ‹_› ‹_›) ?_; with_unfolding_all refine ok_w_inner ‹_› ‹_› ?_; with_unfolding_all refine item_sdict (RepW.root ‹_›) rfl ?_; with_unfolding_all refine item_tup (by decide) rfl ?_; walk_at "stop"
      exact ok_w_write (p := .vars) (b := true) r0 h fun id st1 r1 hF => q _ _ _ r1 hF
  | makeRef x y =>
    have h : (H.refIn y).bind (fun w => w.1.write .vars x w.2 false) = some r := h
    refine bind_K h fun w hn h => ?_
    dsimp only [D.name, D.args]; with_unfolding_all refine isIn3 rfl ?_; with_unfolding_all refine br_f rfl ?_; with_unfolding_all refine aeq_lit rfl rfl ?_; with_unfolding_all refine br_f rfl ?_; with_unfolding_all refine aeq_lit rfl rfl ?_; with_unfolding_all refine br_t rfl ?_; with_unfolding_all refine item_tup (by decide) rfl ?_; walk_at "stop"
    refine ok_w_reference r0 hn fun loc0 st0 r0 => ?_
    with_unfolding_all refine item_sdict (RepW.root ‹_›) rfl ?_
    with_unfolding_all refine item_tup (by decide) rfl ?_
    walk_at "stop"
    exact ok_w_write (p := .vars) (b := false) r0 h fun id st1 r1 hF => q _ _ _ r1 hF
  | putRef x k y =>
    dsimp only [D.name, D.args]; with_unfolding_all refine isIn3 rfl ?_; with_unfolding_all refine br_t rfl ?_; walk_at "stop"
    exact ok_el_put_ref r0 h q
  | unset x =>
    have h : H.takenOut .vars x = some r := h
    unfold WS.takenOut at h
    have h : (match getK x H.vars with
      | some v => if H.vars.length ≤ 1000000 then some (H.setPl .vars (delK x H.vars), [v]) else none
      | none => some (H, [])) = some r := h
    cases hk : getK x H.vars with
    | none =>
      rw [hk] at h; o_facts h
      dsimp only [D.name, D.args]; with_unfolding_all refine isIn3 rfl ?_; with_unfolding_all refine br_f rfl ?_; with_unfolding_all refine aeq_lit rfl rfl ?_; with_unfolding_all refine br_t rfl ?_; with_unfolding_all refine item_tup (by decide) rfl ?_; with_unfolding_all refine item_sdict (RepW.root ‹_›) rfl ?_; with_unfolding_all refine in_m (RepW.vars ‹_›) ?_; with_unfolding_all refine br_f (isSome_f ‹_›) ?_; with_unfolding_all refine wp_newW ‹_› (fun _ _ _ _ _ => ?_)
      exact q _ _ _ (by assumption) (by assumption)
    | some v =>
      rw [hk] at h
      have h : (if H.vars.length ≤ 1000000 then some (H.setPl .vars (delK x H.vars), [v]) else none) = some r := h
      split at h
      case isFalse => o_facts h
      rename_i hz
      o_facts h
      dsimp only [D.name, D.args]; with_unfolding_all refine isIn3 rfl ?_; with_unfolding_all refine br_f rfl ?_; with_unfolding_all refine aeq_lit rfl rfl ?_; with_unfolding_all refine br_t rfl ?_; with_unfolding_all refine item_tup (by decide) rfl ?_; with_unfolding_all refine item_sdict (RepW.root ‹_›) rfl ?_; with_unfolding_all refine in_m (RepW.vars ‹_›) ?_; with_unfolding_all refine br_t (isSome_t ‹_›) ?_; with_unfolding_all refine item_sdict (RepW.root ‹_›) rfl ?_; with_unfolding_all refine isI_at (RepW.vars ‹_›) ?_; with_unfolding_all refine item_tup (by decide) rfl ?_; walk_at "stop"
      refine pop_plW (p := .vars) r0 rfl hk hz fun st2 r2 => ?_
      with_unfolding_all refine wp_newW ‹_› (fun _ _ _ _ _ => ?_)
      exact q _ _ _ (by assumption) (by assumption)
  | unsetAt x k =>
    dsimp only [D.name, D.args]; with_unfolding_all refine isIn3 rfl ?_; with_unfolding_all refine br_t rfl ?_; walk_at "stop"
    exact ok_el_unset_at r0 h q
end
end
/-! P17 -/
section
set_option maxRecDepth 100000
set_option autoImplicit false
set_option maxHeartbeats 1000000

noncomputable def WS.letGo (P : List (Int × List D)) (H : WS) : V → Option WS
  | .int _ => some H
  | .cell m => if H.small = true then if (H.holders m : Int) > 0 then some H else (getK m H.cells).bind fun c =>
      if c.due = true then if H.log.length ≤ 100000 ∧ H.vars.length ≤ 100000 ∧ (planOf P m).length ≤ 100000 ∧ H.tasks.length ≤ 100000 then some { H with cells := putK m { c with due := false } H.cells, log := H.log ++ [.destruct m], vars := putK (-m) (.cell m) H.vars, tasks := (planOf P m).map .deed ++ .deed (.unset (-m)) :: H.tasks } else none
      else if H.log.length ≤ 100000 ∧ H.cells.length ≤ 100000 ∧ c.slots.length ≤ 100000 ∧ H.tasks.length ≤ 100000 then some { H with cells := delK m H.cells, log := H.log ++ [.free m], tasks := (c.slots.map fun p => T.lose p.2) ++ H.tasks } else none
    else none
noncomputable def WS.step (P : List (Int × List D)) (H : WS) : T → Option WS
  | .lose v => H.letGo P v
  | .deed d => (H.change d).bind fun z => if z.2.length + z.1.tasks.length ≤ 100000 then some { z.1 with tasks := z.2.map .lose ++ z.1.tasks } else none
inductive WRuns (P : List (Int × List D)) : Nat → WS → WS → Prop
  | nil {H : WS} (h : H.tasks = []) : WRuns P 0 H H
  | cons {m : Nat} {H H1 H' : WS} {t : T} {ts : List T} (h : H.tasks = t :: ts) (hz : ts.length ≤ 100000) (hs : WS.step P { H with tasks := ts } t = some H1) (k : WRuns P m H1 H') : WRuns P (m + 1) H H'

section
variable {st : ASt}
theorem dataOf_T (n : Nat) (t : T) : ∃ d, dataOf st (n + 4) (encT t) = some d ∧ d.canLay0 = true := by
  cases t with
  | lose v =>
    refine ⟨.tuple [.str "lose", v.dat], ?_, ?_⟩
    · show (List.mapM (dataOf st (n + 3)) [AVal.str "lose", enc v]).map PyData.tuple = _
      rw [List.mapM_cons, List.mapM_cons, dataOf_enc (n + 1) v]; rfl
    · simp only [PyData.canLay0, PyData.canLayAll0, V.dat_ok]; decide +kernel
  | deed d =>
    cases d with
    | newObject x b =>
      refine ⟨.tuple [.str "deed", .tuple [.str "new_object", .tuple [.int x, .bool b]]], rfl, ?_⟩
      simp only [PyData.canLay0, PyData.canLayAll0]; decide +kernel
    | setInt x i => exact ⟨.tuple [.str "deed", .tuple [.str "set_int", .tuple [.int x, .int i]]], rfl, by simp only [PyData.canLay0, PyData.canLayAll0]; decide +kernel⟩
    | newArray x => exact ⟨.tuple [.str "deed", .tuple [.str "new_array", .tuple [.int x]]], rfl, by simp only [PyData.canLay0, PyData.canLayAll0]; decide +kernel⟩
    | assign x y => exact ⟨.tuple [.str "deed", .tuple [.str "assign", .tuple [.int x, .int y]]], rfl, by simp only [PyData.canLay0, PyData.canLayAll0]; decide +kernel⟩
    | put x k y => exact ⟨.tuple [.str "deed", .tuple [.str "put", .tuple [.int x, .int k, .int y]]], rfl, by simp only [PyData.canLay0, PyData.canLayAll0]; decide +kernel⟩
    | take x y k => exact ⟨.tuple [.str "deed", .tuple [.str "take", .tuple [.int x, .int y, .int k]]], rfl, by simp only [PyData.canLay0, PyData.canLayAll0]; decide +kernel⟩
    | makeRef x y => exact ⟨.tuple [.str "deed", .tuple [.str "make_ref", .tuple [.int x, .int y]]], rfl, by simp only [PyData.canLay0, PyData.canLayAll0]; decide +kernel⟩
    | putRef x k y => exact ⟨.tuple [.str "deed", .tuple [.str "put_ref", .tuple [.int x, .int k, .int y]]], rfl, by simp only [PyData.canLay0, PyData.canLayAll0]; decide +kernel⟩
    | unset x => exact ⟨.tuple [.str "deed", .tuple [.str "unset", .tuple [.int x]]], rfl, by simp only [PyData.canLay0, PyData.canLayAll0]; decide +kernel⟩
    | unsetAt x k => exact ⟨.tuple [.str "deed", .tuple [.str "unset_at", .tuple [.int x, .int k]]], rfl, by simp only [PyData.canLay0, PyData.canLayAll0]; decide +kernel⟩
theorem dataOf_Ts : ∀ l : List T, ∃ ds, (l.map encT).mapM (dataOf st 7) = some ds ∧ PyData.canLayAll0 ds = true ∧ ds.isEmpty = l.isEmpty
  | [] => ⟨[], rfl, by simp only [PyData.canLayAll0], rfl⟩
  | t :: l => by
    refine e1a3 (dataOf_Ts l) fun ds h1 h2 _ => ?_
    refine e1a2 (dataOf_T (st := st) 3 t) fun d h3 h4 => ?_
    refine ⟨d :: ds, ?_, by simp only [PyData.canLayAll0, h4, h2]; rfl, rfl⟩
    rw [List.map_cons, List.mapM_cons, h3, h1]; rfl
theorem dataOf_L {n i : Nat} {l : List AVal} (h : st.At i (.list l)) : dataOf st (n + 1) (.obj i) = (l.mapM (dataOf st n)).map .list := by
  show (if i < st.next then match (st.get i).data with | .list l => (l.mapM (dataOf st n)).map PyData.list | _ => none else none) = _
  rw [if_pos h.1, h.2]
theorem aeq_tasks {i j : Nat} {l : List T} {B : Bool → ASt → Prop} (hi : st.At i (.list (l.map encT))) (hj : st.At j (.list [])) (q : B l.isEmpty st) : wp (aeq (.obj i) (.obj j)) st B := by
  refine e1a3 (dataOf_Ts (st := st) l) fun ds h1 h2 h3 => ?_
  refine aeq_of (x := .list ds) (y := .list []) (by rw [dataOf_L (n := 7) hi, h1]; rfl) (by rw [dataOf_L (n := 7) hj]; rfl) (by rw [PyData.canLay0]; exact h2) (by simp only [PyData.canLay0, PyData.canLayAll0]) ?_ q
  rw [← h3]
  cases ds <;> simp only [PyData.eqv, PyData.eqvAll] <;> rfl
end

section
variable {X : WIds} {loc : Loc} {H H' : WS} {F : Frm} {st : ASt} {n : Nat} {v w : V} {Q : AVal → ASt → Prop} {p : Pl} {k : Int} {P : List (Int × List D)}


theorem ok_w_let_go {pid : Nat} (r0 : RepW X loc H F st) (hP : PlanAt F pid P) (h : H.letGo P v = some H') (q : ∀ st', RepW X loc H' F st' → Q .none st') : wp ((R (n + 16)).call "_law_let_go" [.obj X.root, enc v, .obj pid]) st Q := by
  walk_at "fn"
  cases v with
  | int i =>
    o_facts h
    with_unfolding_all refine item_v0 ?_
    with_unfolding_all refine aeq_lit rfl rfl ?_
    with_unfolding_all refine br_t rfl ?_
    with_unfolding_all refine br_t rfl ?_
    exact q _ r0
  | cell m =>
    have h : (if H.small = true then if (H.holders m : Int) > 0 then some H else (getK m H.cells).bind fun c =>
      if c.due = true then if H.log.length ≤ 100000 ∧ H.vars.length ≤ 100000 ∧ (planOf P m).length ≤ 100000 ∧ H.tasks.length ≤ 100000 then some { H with cells := putK m { c with due := false } H.cells, log := H.log ++ [.destruct m], vars := putK (-m) (.cell m) H.vars, tasks := (planOf P m).map .deed ++ .deed (.unset (-m)) :: H.tasks } else none
      else if H.log.length ≤ 100000 ∧ H.cells.length ≤ 100000 ∧ c.slots.length ≤ 100000 ∧ H.tasks.length ≤ 100000 then some { H with cells := delK m H.cells, log := H.log ++ [.free m], tasks := (c.slots.map fun p => T.lose p.2) ++ H.tasks } else none
    else none) = some H' := h
    cases hsm : H.small with
    | false => rw [hsm, if_neg (by decide)] at h; o_facts h
    | true =>
    rw [hsm, if_pos rfl] at h
    with_unfolding_all refine item_v0 ?_
    with_unfolding_all refine aeq_lit rfl rfl ?_
    with_unfolding_all refine br_f rfl ?_
    with_unfolding_all refine item_v1c ?_
    walk_at "stop"
    refine ok_w_holders r0 hsm fun st1 r1 => ?_
    by_cases hn : (H.holders m : Int) > 0
    · rw [if_pos hn] at h; o_facts h
      have hn' : decide ((H.holders m : Int) > 0) = true := by simpa using hn
      with_unfolding_all refine br_t ‹_› ?_
      exact q _ r1
    · rw [if_neg hn] at h
      have hn' : decide ((H.holders m : Int) > 0) = false := by simpa using hn
      refine bind_K h fun c hc h => ?_
      with_unfolding_all refine br_f ‹_› ?_
      with_unfolding_all refine item_sdict (RepW.root ‹_›) rfl ?_
      with_unfolding_all refine item_v1c ?_
      with_unfolding_all refine item_cellsW ‹_› ‹_› ?_
      with_unfolding_all refine item_v1c ?_
      with_unfolding_all refine item_list (RepW.cell ‹_› ‹_›) (by decide) rfl ?_
      cases hd : c.due with
      | true =>
        rw [hd, if_pos rfl] at h
        split at h
        case isFalse => o_facts h
        rename_i hz
        o_facts h
        with_unfolding_all refine br_t rfl ?_
        walk_at "stop"
        refine set_due r1 hc fun st2 r2 => ?_
        with_unfolding_all refine item_sdict (RepW.root ‹_›) rfl ?_
        with_unfolding_all refine isL_at (RepW.log ‹_›) ?_
        walk_at "stop"
        refine log_appendW (l := .destruct m) r2 (Nat.le_trans hz.1 (by decide)) fun st3 r3 => ?_
        with_unfolding_all refine item_sdict (RepW.root ‹_›) rfl ?_
        walk_at "stop"
        refine set_varsW r3 (Nat.le_trans hz.2.1 (by decide)) fun st4 r4 => ?_
        with_unfolding_all refine item_sdict (RepW.root ‹_›) rfl ?_
        with_unfolding_all refine isL_at (RepW.tasks ‹_›) ?_
        walk_at "stop"
        refine tasks_append (t := .deed (.unset (-m))) r4 (Nat.le_trans hz.2.2.2 (by decide)) fun st5 r5 => ?_
        with_unfolding_all refine item_sdict (RepW.root ‹_›) rfl ?_
        with_unfolding_all refine isL_at (RepW.tasks ‹_›) ?_
        walk_at "stop"
        refine e2a2 (hP) fun vp lp hp1 hp2 => ?_
        refine isI_at (r5.frame _ _ hp1).at ?_
        with_unfolding_all refine wp_newW ‹_› (fun _ _ _ _ _ => ?_)
        walk_at "stop"
        rename_i e st6 r6 hF6 _
        refine m_get (r6.frame _ _ (.inl hp1)).at ?_
        obtain ⟨j, vj, hj1, hj2⟩ : ∃ j vj, (getK m lp).getD (.obj e) = .obj j ∧ (F.add e ⟨0, .list []⟩) j ⟨vj, .list ((planOf P m).map encD)⟩ := by
          unfold planOf
          cases hg : getK m P with
          | none => rw [(hp2 m).1 hg]; exact ⟨e, 0, rfl, .inr ⟨rfl, rfl⟩⟩
          | some ds =>
            refine e2a2 ((hp2 m).2 ds hg) fun j v h1 h2 => ?_
            rw [h1]; exact ⟨j, v, rfl, .inl h2⟩
        rw [hj1]
        walk_at "stop"
        refine back_list (r6.frame _ _ hj2).at (by rw [List.length_map]; exact Nat.le_trans hz.2.2.1 (by decide)) ?_
        refine wp_newW r6 fun i st7 r7 hF7 _ => ?_
        with_unfolding_all refine loi_l (RepW.top ‹_›) ?_
        walk_at "stop"
        refine its_z (its_lst r7.top ⟨by rw [List.length_reverse, List.length_map]; exact Nat.le_trans hz.2.2.1 (by decide), ?_⟩)
        walk_at "stop"
        refine compLoop_at (fun x => some (.tup [.str "deed", x])) rfl (fun x hx KY KN hy _ => ?_) ?_
        · with_unfolding_all refine br_t rfl ?_
          exact hy _ _ (by walk_at "sub") rfl
        have e1 : (((planOf P m).map encD).reverse.filterMap fun x => some (AVal.tup [.str "deed", x])) = ((planOf P m).map T.deed).reverse.map encT := by
          rw [List.filterMap_eq_map', ← List.map_reverse, ← List.map_reverse, List.map_map, List.map_map]; rfl
        rw [e1]
        with_unfolding_all refine wp_newW ‹_› (fun _ _ _ _ _ => ?_)
        walk_at "stop"
        rename_i t st8 r8 hF8 _
        refine tasks_extend r8 (by show (_ :: H.tasks).length + _ ≤ _; rw [List.length_cons, List.length_map]; lia -abstractProof) fun st9 r9 => ?_
        skip
        exact q _ r9.drop.drop
      | false =>
        rw [hd, if_neg (by decide)] at h
        split at h
        case isFalse => o_facts h
        rename_i hz
        o_facts h
        with_unfolding_all refine br_f rfl ?_
        with_unfolding_all refine item_sdict (RepW.root ‹_›) rfl ?_
        walk_at "stop"
        refine del_cellsW r1 hc (Nat.le_trans hz.2.1 (by decide)) fun o o' st2 r2 ho ho' => ?_
        with_unfolding_all refine item_sdict (RepW.root ‹_›) rfl ?_
        with_unfolding_all refine isL_at (RepW.log ‹_›) ?_
        walk_at "stop"
        refine log_appendW (l := .free m) r2 (Nat.le_trans hz.1 (by decide)) fun st3 r3 => ?_
        with_unfolding_all refine item_sdict (RepW.root ‹_›) rfl ?_
        with_unfolding_all refine isL_at (RepW.tasks ‹_›) ?_
        walk_at "stop"
        refine item_list (l := cellW (loc.slot m) c) (by rw [← ho]; exact (r3.frame _ _ (.inl (.inr ⟨rfl, rfl⟩))).at) (by decide) rfl ?_
        have has : st3.At (loc.slot m) (.idict (encM c.slots)) := by rw [← ho']; exact (r3.frame _ _ (.inr ⟨rfl, rfl⟩)).at
        with_unfolding_all refine isI_at ‹_› ?_
        walk_at "stop"
        refine its_z (its_values has ⟨by rw [List.length_map, len_encM]; exact Nat.le_trans hz.2.2.1 (by decide), ?_⟩)
        walk_at "stop"
        refine wp_newW r3 fun i st4 r4 hF4 _ => ?_
        walk_at "stop"
        refine back_list r4.top (by rw [List.length_map, len_encM]; exact Nat.le_trans hz.2.2.1 (by decide)) ?_
        refine wp_newW r4 fun i2 st5 r5 hF5 _ => ?_
        with_unfolding_all refine loi_l (RepW.top ‹_›) ?_
        walk_at "stop"
        refine its_z (its_lst r5.top ⟨by rw [List.length_reverse, List.length_map, len_encM]; exact Nat.le_trans hz.2.2.1 (by decide), ?_⟩)
        walk_at "stop"
        refine compLoop_at (fun x => some (.tup [.str "lose", x])) rfl (fun x hx KY KN hy _ => ?_) ?_
        · with_unfolding_all refine br_t rfl ?_
          exact hy _ _ (by walk_at "sub") rfl
        have e1 : (((encM c.slots).map fun p => p.2).reverse.filterMap fun x => some (AVal.tup [.str "lose", x])) = (c.slots.map fun p => T.lose p.2).reverse.map encT := by
          unfold encM
          rw [List.filterMap_eq_map', ← List.map_reverse, ← List.map_reverse, ← List.map_reverse, List.map_map, List.map_map, List.map_map]; rfl
        rw [e1]
        with_unfolding_all refine wp_newW ‹_› (fun _ _ _ _ _ => ?_)
        walk_at "stop"
        rename_i t st8 r8 hF8 _
        refine tasks_extend r8 (by rw [List.length_map]; exact Nat.le_trans (Nat.add_le_add hz.2.2.2 hz.2.2.1) (by decide)) fun st9 r9 => ?_
        skip
        exact q _ r9.drop.drop.drop.drop

theorem ok_w_done {m pid : Nat} {d : D} (r0 : RepW X loc H F st) (hP : PlanAt F pid P) (hz0 : H.tasks.length ≤ 100000) (h : WRuns P m { H with tasks := .deed d :: H.tasks } H') (q : ∀ loc' st', RepW X loc' H' F st' → Q .none st') : wp ((R (n + 46)).call "_law_done" [.obj X.root, encD d, .obj pid]) st Q := by
  walk_at "fn"
  with_unfolding_all refine item_sdict (RepW.root ‹_›) rfl ?_
  with_unfolding_all refine isL_at (RepW.tasks ‹_›) ?_
  walk_at "stop"
  refine tasks_append (t := .deed d) r0 (Nat.le_trans hz0 (by decide)) fun st1 r1 => ?_
  walk_at "stop"
  refine while_fix (fun m s => ∃ H loc, WRuns P m H H' ∧ RepW X loc H F s) ⟨_, _, h, r1⟩ ?_ ?_
  · intro m s h_ K hn _; refine e2a2 (h_) fun H loc hr r2 => ?_
    cases hr with
    | @cons _ _ H1 _ t ts ht hz hs k1 =>
    with_unfolding_all refine item_sdict (RepW.root ‹_›) rfl ?_
    with_unfolding_all refine wp_newW ‹_› (fun _ _ _ _ _ => ?_)
    walk_at "stop"
    rename_i j s3 r3 hF3 _
    refine aeq_tasks r3.tasks r3.top ?_
    refine br_t (by rw [ht]; simp) ?_
    have r3 := r3.drop
    with_unfolding_all refine item_sdict (RepW.root ‹_›) rfl ?_
    with_unfolding_all refine isL_at (RepW.tasks ‹_›) ?_
    walk_at "stop"
    refine tasks_pop r3 ht (by rw [ht, List.length_cons]; lia -abstractProof) fun s4 r4 => ?_
    cases t with
    | lose v =>
      dsimp only [encT]
      with_unfolding_all refine aeq_lit rfl rfl ?_
      with_unfolding_all refine br_t rfl ?_
      walk_at "stop"
      refine ok_w_let_go r4 hP hs fun s5 r5 => ?_
      exact hn _ s5 (by walk_at "sub") ⟨_, _, k1, r5⟩
    | deed d =>
      dsimp only [encT, encD]
      have hs : (({ H with tasks := ts } : WS).change d).bind (fun z => if z.2.length + z.1.tasks.length ≤ 100000 then some { z.1 with tasks := z.2.map .lose ++ z.1.tasks } else none) = some H1 := hs
      refine bind_K hs fun z hd hs => ?_
      split at hs
      case isFalse => o_facts hs
      rename_i hz2
      o_facts hs
      with_unfolding_all refine aeq_lit rfl rfl ?_
      with_unfolding_all refine br_f rfl ?_
      with_unfolding_all refine item_sdict (RepW.root ‹_›) rfl ?_
      with_unfolding_all refine isL_at (RepW.tasks ‹_›) ?_
      with_unfolding_all refine item_tup (by decide) rfl ?_
      with_unfolding_all refine item_tup (by decide) rfl ?_
      walk_at "stop"
      refine ok_w_change r4 hd fun loc5 i s5 r5 hF5 => ?_
      walk_at "stop"
      refine back_list r5.top (by rw [List.length_map]; lia -abstractProof) ?_
      refine wp_newW r5 fun i2 s6 r6 hF6 _ => ?_
      with_unfolding_all refine loi_l (RepW.top ‹_›) ?_
      walk_at "stop"
      refine its_z (its_lst r6.top ⟨by rw [List.length_reverse, List.length_map]; lia -abstractProof, ?_⟩)
      walk_at "stop"
      refine compLoop_at (fun x => some (.tup [.str "lose", x])) rfl (fun x hx KY KN hy _ => ?_) ?_
      · with_unfolding_all refine br_t rfl ?_
        exact hy _ _ (by walk_at "sub") rfl
      have e1 : ((z.2.map enc).reverse.filterMap fun x => some (AVal.tup [.str "lose", x])) = (z.2.map T.lose).reverse.map encT := by
        rw [List.filterMap_eq_map', ← List.map_reverse, ← List.map_reverse, List.map_map, List.map_map]; rfl
      rw [e1]
      with_unfolding_all refine wp_newW ‹_› (fun _ _ _ _ _ => ?_)
      walk_at "stop"
      rename_i t s8 r8 hF8 _
      refine tasks_extend r8 (by rw [List.length_map]; lia -abstractProof) fun s9 r9 => ?_
      exact hn _ s9 (by walk_at "sub") ⟨_, _, k1, r9.drop.drop⟩
  · intro s h_ G; refine e2a2 (h_) fun H loc hr r2 => ?_
    cases hr with
    | nil ht =>
    with_unfolding_all refine item_sdict (RepW.root ‹_›) rfl ?_
    with_unfolding_all refine wp_newW ‹_› (fun _ _ _ _ _ => ?_)
    walk_at "stop"
    rename_i j s3 r3 hF3 _
    refine aeq_tasks r3.tasks r3.top ?_
    refine br_f (by rw [ht]; rfl) ?_
    have r3 := r3.drop
    skip
    exact q _ _ r3
end
end
/-! P18 -/
section
set_option maxRecDepth 100000
set_option autoImplicit false
set_option maxHeartbeats 1000000

noncomputable def getv (l : List (Int × V)) (k : Int) : V := (getK k l).getD (.int 0)
noncomputable def HS.allHeld (H : HS) : List V := (H.vars.map fun p => getv H.vars p.1) ++ H.cells.flatMap fun p => match getK p.1 H.cells with
  | some c => c.slots.map fun q => getv c.slots q.1
  | none => []
noncomputable def cntV (n : Int) (l : List V) : Nat := (l.filter fun v => decide (v = .cell n)).length
structure CountsOK (H : HS) : Prop where
  size : H.allHeld.length ≤ 1000000
  sizeV : H.vars.length ≤ 1000000
  sizeC : H.cells.length ≤ 1000000
  live : ∀ n, V.cell n ∈ H.allHeld → (getK n H.cells).isSome
  right : ∀ n c, getK n H.cells = some c → c.count = cntV n H.allHeld

section
variable {X : HIds} {loc : Loc} {H H' : HS} {F : Frm} {st : ASt} {n : Nat} {v w : V} {c : C} {Q : AVal → ASt → Prop} {U : Unit → ASt → Prop} {k : Int}

theorem tmp_seti {i vr : Nat} {l : List (Int × AVal)} {x : AVal} (r : Rep X loc H (F.add i ⟨vr, .idict l⟩) st) (hF : ∀ o, ¬ F i o) (hz : l.length ≤ 1000000) (q : ∀ st', Rep X loc H (F.add i ⟨vr + 1, .idict (putK k x l)⟩) st' → (∀ j, j ≠ i → st'.get j = st.get j) → U () st') : wp (itemSet (.obj i) (.int k) x) st U :=
  set_idict r.top hz (q _ (r.put_tmp hF) fun _ hj => if_neg hj)


theorem ok_all_held (r0 : Rep X loc H F st) (hz : H.allHeld.length ≤ 1000000) (hzv : H.vars.length ≤ 1000000) (q : ∀ id vr st', Rep X loc H (F.add id ⟨vr, .list (H.allHeld.map enc)⟩) st' → (∀ o, ¬ F id o) → Q (.obj id) st') : wp ((R (n + 10)).call "all_held" [.inst "Counted" X.root]) st Q := by
  walk_at "fn"
  with_unfolding_all refine attr_get rfl (Rep.root ‹_›) rfl ?_
  with_unfolding_all refine loi_k (Rep.vars ‹_›) ?_
  walk_at "stop"
  refine its_z (its_keys r0.vars ⟨by rw [List.length_map, len_encM]; exact hzv, ?_⟩)
  walk_at "stop"
  have e0 : ((encM H.vars).map fun p => AVal.int p.1) = H.vars.map fun p => AVal.int p.1 := by unfold encM; rw [List.map_map]; rfl
  rw [e0]
  refine compLoop_at (fun x => match x with | .int k => some (enc (getv H.vars k)) | _ => none) rfl (fun x hx KY KN hy hn => ?_) ?_
  · refine e1a2 (List.mem_map.mp hx) fun p hp e2_ => ?_; subst e2_
    refine e1a1 (mem_getK hp) fun u hu => ?_
    with_unfolding_all refine br_t rfl ?_
    with_unfolding_all refine attr_get rfl (Rep.root ‹_›) rfl ?_
    with_unfolding_all refine item_m (Rep.vars ‹_›) ‹_› ?_
    refine hy _ _ (by walk_at "sub") ?_
    show some (enc (getv H.vars p.1)) = _
    unfold getv; rw [hu]; rfl
  have e1 : ((H.vars.map fun p => AVal.int p.1).filterMap fun x => match x with | .int k => some (enc (getv H.vars k)) | _ => none) = (H.vars.map fun p => getv H.vars p.1).map enc := by
    rw [List.filterMap_map, List.map_map, ← List.filterMap_eq_map]; rfl
  rw [e1]
  with_unfolding_all refine wp_new ‹_› (fun _ _ _ _ _ => ?_)
  with_unfolding_all refine attr_get rfl (Rep.root ‹_›) rfl ?_
  with_unfolding_all refine loi_k (Rep.cells ‹_›) ?_
  with_unfolding_all refine its_keys (Rep.cells ‹_›) ?_
  walk_at "stop"
  rename_i i st1 r1 hF1 _
  have e2 : ((cellsA loc H.cells).map fun p => AVal.int p.1) = H.cells.map fun p => AVal.int p.1 := by unfold cellsA; rw [List.map_map]; rfl
  rw [e2]
  have hiX : X.cells ≠ i := r1.off i _ (.inr ⟨rfl, rfl⟩) .cells rfl
  refine forLoop_at (fun us s => ∃ (ps : List (Int × C)) (done : List V) (vr : Nat), us = (ps.map fun p => AVal.int p.1) ∧ Rep X loc H (F.add i ⟨vr, .list (done.map enc)⟩) s ∧ s.get X.cells = st1.get X.cells ∧ (∀ p ∈ ps, p ∈ H.cells) ∧ done ++ (ps.flatMap fun p => match getK p.1 H.cells with
    | some c => c.slots.map fun q => getv c.slots q.1
    | none => []) = H.allHeld) ⟨H.cells, _, _, rfl, r1, rfl, fun _ h => h, rfl⟩ ?_ ?_
  · intro u us s h_; refine e3a5 (h_) fun ps done vr hu r5 hs hm hd => ?_
    cases ps with
    | nil => o_facts hu
    | cons pc ps =>
    rw [List.map_cons] at hu
    o_facts hu
    refine e1a1 (mem_getK (hm pc (.head _))) fun c hc => ?_
    rw [List.flatMap_cons, hc] at hd
    have hd : done ++ ((c.slots.map fun q => getv c.slots q.1) ++ _) = H.allHeld := hd
    refine ⟨by show (s.get _).ver = _; rw [hs]; rfl, fun K hn _ => ?_⟩
    with_unfolding_all refine attr_get rfl (Rep.root ‹_›) rfl ?_
    with_unfolding_all refine item_cells ‹_› ‹_› ?_
    with_unfolding_all refine attr_get rfl (Rep.cell ‹_› ‹_›) rfl ?_
    with_unfolding_all refine loi_k (Rep.slot ‹_› ‹_›) ?_
    with_unfolding_all refine its_keys (Rep.slot ‹_› ‹_›) ?_
    walk_at "stop"
    have hi : loc.slot pc.1 ≠ i := r5.off i _ (.inr ⟨rfl, rfl⟩) (.slot pc.1) (by show ((getK pc.1 H.cells).map _).isSome = true; rw [hc]; rfl)
    have e3 : ((encM c.slots).map fun p => AVal.int p.1) = c.slots.map fun p => AVal.int p.1 := by unfold encM; rw [List.map_map]; rfl
    rw [e3]
    refine forLoop_at (fun us2 s2 => ∃ (qs : List (Int × V)) (done2 : List V) (vr2 : Nat), us2 = (qs.map fun p => AVal.int p.1) ∧ Rep X loc H (F.add i ⟨vr2, .list (done2.map enc)⟩) s2 ∧ s2.get X.cells = st1.get X.cells ∧ s2.get (loc.slot pc.1) = s.get (loc.slot pc.1) ∧ (∀ p ∈ qs, p ∈ c.slots) ∧ done2 ++ (qs.map fun q => getv c.slots q.1) = done ++ c.slots.map fun q => getv c.slots q.1) ⟨c.slots, done, vr, rfl, r5, hs, rfl, fun _ h => h, rfl⟩ ?_ ?_
    · intro u2 us2 s2 h_; refine e3a6 (h_) fun qs done2 vr2 hu2 r6 hs6 hsl hm2 hd2 => ?_
      cases qs with
      | nil => o_facts hu2
      | cons pq qs =>
      rw [List.map_cons] at hu2
      o_facts hu2
      refine e1a1 (mem_getK (hm2 pq (.head _))) fun t ht => ?_
      refine ⟨by show (s2.get _).ver = _; rw [hsl]; rfl, fun K hn _ => ?_⟩
      have hlen : done2.length ≤ 1000000 := by
        have e4 := congrArg List.length hd2
        have e5 := congrArg List.length hd
        rw [List.length_append, List.length_append] at e4 e5
        lia -abstractProof
      with_unfolding_all refine isL_at (Rep.top ‹_›) ?_
      with_unfolding_all refine attr_get rfl (Rep.cell ‹_› ‹_›) rfl ?_
      with_unfolding_all refine item_m (Rep.slot ‹_› ‹_›) ‹_› ?_
      walk_at "stop"
      refine tmp_append r6 hF1 (by rw [List.length_map]; exact hlen) fun s7 r7 hk7 => ?_
      refine hn _ _ (by walk_at "sub") ⟨qs, done2 ++ [t], vr2 + 1, rfl, by rw [List.map_append]; exact r7, (hk7 _ hiX).trans hs6, (hk7 _ hi).trans hsl, fun p hp => hm2 p (.tail _ hp), ?_⟩
      rw [← hd2, List.map_cons, List.append_assoc]
      have : getv c.slots pq.1 = t := by unfold getv; rw [ht]; rfl
      rw [this]; rfl
    · intro s2 h_; refine e3a6 (h_) fun qs done2 vr2 hu2 r6 hs6 hsl hm2 hd2 => ?_
      cases qs with
      | cons => o_facts hu2
      | nil =>
      refine ⟨by show (s2.get _).ver = _; rw [hsl]; rfl, ?_⟩
      skip
      rw [List.map_nil, List.append_nil] at hd2
      subst hd2
      exact hn _ _ (by walk_at "sub") ⟨ps, _, _, rfl, r6, hs6, fun p hp => hm p (.tail _ hp), by rw [List.append_assoc]; exact hd⟩
  · intro s h_; refine e3a5 (h_) fun ps done vr hu r5 hs hm hd => ?_
    cases ps with
    | cons => o_facts hu
    | nil =>
    rw [List.flatMap_nil, List.append_nil] at hd
    subst hd
    refine ⟨by show (s.get _).ver = _; rw [hs]; rfl, ?_⟩
    with_unfolding_all refine attr_get rfl (Rep.root ‹_›) rfl ?_
    with_unfolding_all refine loi_l (Rep.tables ‹_›) ?_
    with_unfolding_all refine its_lst (Rep.tables ‹_›) ?_
    walk_at "stop"
    refine forLoop_nil rfl ?_
    skip
    exact q _ _ _ r5 hF1

noncomputable def encN (l : List (Int × Int)) : List (Int × AVal) := l.map fun p => (p.1, (fun _ i => AVal.int i) p.1 p.2)
theorem getK_encN {l : List (Int × Int)} : getK k (encN l) = (getK k l).map AVal.int := getK_mapv (f := fun _ i => AVal.int i)
theorem putK_encN {i : Int} {l : List (Int × Int)} : putK k (.int i) (encN l) = encN (putK k i l) := putK_mapv (f := fun _ i => AVal.int i)
theorem cntV_snoc {n : Int} {l : List V} {v : V} : cntV n (l ++ [v]) = cntV n l + if v = .cell n then 1 else 0 := by
  unfold cntV
  rw [List.filter_append, List.length_append]
  by_cases q : v = .cell n
  · simp [q]
  · simp [q]

theorem ok_counts_right (r0 : Rep X loc H F st) (h : CountsOK H) (q : ∀ st', Rep X loc H F st' → Q (.bool true) st') : wp ((R (n + 14)).call "counts_right" [.inst "Counted" X.root]) st Q := by
  walk_at "fn"
  with_unfolding_all refine mk_new ‹_› (fun _ _ _ _ _ => ?_)
  with_unfolding_all refine attr_get rfl (Rep.root ‹_›) rfl ?_
  with_unfolding_all refine loi_k (Rep.cells ‹_›) ?_
  with_unfolding_all refine its_keys (Rep.cells ‹_›) ?_
  walk_at "stop"
  rename_i i st1 r1 hF1 _
  have e2 : ((cellsA loc H.cells).map fun p => AVal.int p.1) = (H.cells.map (·.1)).map AVal.int := by unfold cellsA; rw [List.map_map, List.map_map]; rfl
  rw [e2]
  have hiX : X.cells ≠ i := r1.off i _ (.inr ⟨rfl, rfl⟩) .cells rfl
  refine forLoop_at (fun us s => ∃ (ks done : List Int) (cs : List (Int × Int)) (vr : Nat), us = ks.map AVal.int ∧ Rep X loc H (F.add i ⟨vr, .idict (encN cs)⟩) s ∧ s.get X.cells = st1.get X.cells ∧ done ++ ks = H.cells.map (·.1) ∧ cs.length ≤ done.length ∧ ∀ n, getK n cs = if n ∈ done then some 0 else none) ⟨H.cells.map (·.1), [], [], 0, rfl, r1, rfl, rfl, Nat.le_refl _, fun n => rfl⟩ ?_ ?_
  · intro u us s h_; refine e4a6 (h_) fun ks done cs vr hu r2 hs hd hl hg => ?_
    cases ks with
    | nil => o_facts hu
    | cons key ks =>
    rw [List.map_cons] at hu
    o_facts hu
    have hlen := congrArg List.length hd
    have hsz := h.sizeC
    rw [List.length_append, List.length_cons, List.length_map] at hlen
    refine ⟨by show (s.get _).ver = _; rw [hs]; rfl, fun K hn _ => ?_⟩
    walk_at "stop"
    refine tmp_seti r2 hF1 (by unfold encN; rw [List.length_map]; lia -abstractProof) fun s3 r3 hk3 => ?_
    rw [putK_encN] at r3
    refine hn _ _ (by walk_at "sub") ⟨ks, done ++ [key], _, _, rfl, r3, (hk3 _ hiX).trans hs, by rw [List.append_assoc]; exact hd, ?_, fun n => ?_⟩
    · have := length_putK_le (k := key) (v := (0 : Int)) (l := cs)
      rw [List.length_append, List.length_singleton]; lia -abstractProof
    · rw [getK_putK, hg n]
      by_cases q1 : n = key
      · rw [if_pos q1, if_pos (by rw [q1]; simp)]
      · rw [if_neg q1]
        by_cases q2 : n ∈ done
        · rw [if_pos q2, if_pos (by simp [q2])]
        · rw [if_neg q2, if_neg (by simp [q1, q2])]
  · intro s h_; refine e4a6 (h_) fun ks done cs vr hu r2 hs hd hl hg => ?_
    cases ks with
    | cons => o_facts hu
    | nil =>
    rw [List.append_nil] at hd
    refine ⟨by show (s.get _).ver = _; rw [hs]; rfl, ?_⟩
    walk_at "stop"
    refine ok_all_held r2 h.size h.sizeV fun j vj st3 r3 hF3 => ?_
    with_unfolding_all refine loi_l (Rep.top ‹_›) ?_
    with_unfolding_all refine its_lst (Rep.top ‹_›) ?_
    walk_at "stop"
    have r3 := r3.swap
    have hFi : ∀ o, ¬ (F.add j ⟨vj, .list (H.allHeld.map enc)⟩) i o := fun o h => h.elim (hF1 o) fun h => hF3 _ (.inr ⟨h.1.symm, rfl⟩)
    have hw : ∀ s : ASt, s.Ob j ⟨vj, .list (H.allHeld.map enc)⟩ → (Src.lst j).watch s = (Src.lst j).watch st3 := fun s hs => by
      show (s.get j).ver = (st3.get j).ver
      rw [hs.2, (r3.frame _ _ (.inl (.inr ⟨rfl, rfl⟩))).2]
    have hmem : ∀ n, n ∈ done ↔ (getK n H.cells).isSome = true := fun n => by
      rw [hd]
      constructor
      · intro hn
        refine e1a2 (List.mem_map.mp hn) fun p hp e2_ => ?_; subst e2_
        refine e1a1 (mem_getK hp) fun c hc => ?_
        rw [hc]; rfl
      · intro hn
        refine e1a1 (Option.isSome_iff_exists.mp hn) fun c hc => ?_
        exact List.mem_map.mpr ⟨_, getK_mem hc, rfl⟩
    have hl1 : done.length ≤ 1000000 := by rw [hd, List.length_map]; exact h.sizeC
    refine forLoop_at (fun us s => ∃ (done rest : List V) (cs : List (Int × Int)) (vr : Nat), us = rest.map enc ∧ Rep X loc H ((F.add j ⟨vj, .list (H.allHeld.map enc)⟩).add i ⟨vr, .idict (encN cs)⟩) s ∧ done ++ rest = H.allHeld ∧ cs.length ≤ 1000000 ∧ ∀ n, getK n cs = if (getK n H.cells).isSome = true then some ((cntV n done : Nat) : Int) else none) ⟨[], H.allHeld, cs, vr, rfl, r3, rfl, Nat.le_trans hl hl1, fun n => ?_⟩ ?_ ?_
    · rw [hg n]
      by_cases q1 : n ∈ done
      · rw [if_pos q1, if_pos ((hmem n).mp q1)]; rfl
      · rw [if_neg q1, if_neg (fun e => q1 ((hmem n).mpr e))]
    · intro u us s h_; refine e4a5 (h_) fun done2 rest cs2 vr2 hu r4 hd2 hl2 hg2 => ?_
      cases rest with
      | nil => o_facts hu
      | cons v rest =>
      rw [List.map_cons] at hu
      o_facts hu
      refine ⟨hw _ (r4.frame _ _ (.inl (.inr ⟨rfl, rfl⟩))), fun K hn _ => ?_⟩
      cases v with
      | int z =>
        with_unfolding_all refine item_v0 ?_
        with_unfolding_all refine aeq_lit rfl rfl ?_
        with_unfolding_all refine br_f rfl ?_
        refine hn _ _ (by walk_at "sub") ⟨done2 ++ [.int z], rest, cs2, vr2, rfl, r4, by rw [List.append_assoc]; exact hd2, hl2, fun n => ?_⟩
        have e6 : cntV n (done2 ++ [.int z]) = cntV n done2 := by rw [cntV_snoc, if_neg (fun e : V.int z = V.cell n => by o_facts e)]; rfl
        rw [e6]; exact hg2 n
      | cell m =>
        have hlm : (getK m H.cells).isSome = true := h.live m (by rw [← hd2]; simp)
        have hcm : getK m cs2 = some ((cntV m done2 : Nat) : Int) := by rw [hg2 m, if_pos hlm]
        with_unfolding_all refine item_v0 ?_
        with_unfolding_all refine aeq_lit rfl rfl ?_
        with_unfolding_all refine br_t rfl ?_
        with_unfolding_all refine item_v1c ?_
        walk_at "stop"
        refine in_idict r4.top ?_
        have hni : (!(getK m (encN cs2)).isSome) = false := by rw [getK_encN, hcm]; rfl
        with_unfolding_all refine br_f ‹_› ?_
        with_unfolding_all refine item_v1c ?_
        walk_at "stop"
        refine item_idict r4.top (by rw [getK_encN, hcm]; rfl) ?_
        walk_at "stop"
        refine tmp_seti r4 hFi (by unfold encN; rw [List.length_map]; exact hl2) fun s5 r5 _ => ?_
        rw [putK_encN] at r5
        refine hn _ _ (by walk_at "sub") ⟨done2 ++ [.cell m], rest, _, _, rfl, r5, by rw [List.append_assoc]; exact hd2, by rw [length_putK_some hcm]; exact hl2, fun n => ?_⟩
        rw [getK_putK]
        by_cases q1 : n = m
        · subst q1
          have e6 : cntV n (done2 ++ [.cell n]) = cntV n done2 + 1 := by rw [cntV_snoc, if_pos rfl]
          rw [if_pos rfl, if_pos hlm, e6]; rfl
        · have e6 : cntV n (done2 ++ [.cell m]) = cntV n done2 := by rw [cntV_snoc, if_neg (fun e : V.cell m = V.cell n => q1 (by o_facts e; rfl))]; rfl
          rw [if_neg q1, e6]; exact hg2 n
    · intro s h_; refine e4a5 (h_) fun done2 rest cs2 vr2 hu r4 hd2 hl2 hg2 => ?_
      cases rest with
      | cons => o_facts hu
      | nil =>
      rw [List.append_nil] at hd2
      subst hd2
      refine ⟨hw _ (r4.frame _ _ (.inl (.inr ⟨rfl, rfl⟩))), ?_⟩
      with_unfolding_all refine loi_k (Rep.top ‹_›) ?_
      with_unfolding_all refine its_keys (Rep.top ‹_›) ?_
      walk_at "stop"
      have e5 : ((encN cs2).map fun p => AVal.int p.1) = cs2.map fun p => AVal.int p.1 := by unfold encN; rw [List.map_map]; rfl
      rw [e5]
      refine forLoop_at (fun us s2 => ∃ ps : List (Int × Int), us = (ps.map fun p => AVal.int p.1) ∧ s2 = s ∧ ∀ p ∈ ps, p ∈ cs2) ⟨cs2, rfl, rfl, fun _ h => h⟩ ?_ ?_
      · intro u us s2 h_; obtain ⟨ps, hu, rfl, hm⟩ := h_
        cases ps with
        | nil => o_facts hu
        | cons pk ps =>
        rw [List.map_cons] at hu
        o_facts hu
        refine e1a1 (mem_getK (hm pk (.head _))) fun z hz => ?_
        have hz2 := hg2 pk.1
        rw [hz] at hz2
        cases hc : getK pk.1 H.cells with
        | none => rw [hc] at hz2; o_facts hz2
        | some c =>
        rw [hc, if_pos (by rfl)] at hz2
        have hcc := h.right _ _ hc
        refine ⟨rfl, fun K hn _ => ?_⟩
        with_unfolding_all refine attr_get rfl (Rep.root ‹_›) rfl ?_
        with_unfolding_all refine item_cells ‹_› ‹_› ?_
        with_unfolding_all refine attr_get rfl (Rep.cell ‹_› ‹_›) rfl ?_
        walk_at "stop"
        refine item_idict r4.top (by rw [getK_encN, hz]; rfl) ?_
        have hcz : (!decide (c.count = z)) = false := by
          rw [decide_eq_true (by rw [hcc]; o_facts hz2; rfl)]; rfl
        with_unfolding_all refine aeq_int ?_
        with_unfolding_all refine br_f ‹_› ?_
        exact hn _ _ (by walk_at "sub") ⟨ps, rfl, rfl, fun p hp => hm p (.tail _ hp)⟩
      · intro s2 h_; obtain ⟨ps, hu, rfl, hm⟩ := h_
        refine ⟨rfl, ?_⟩
        skip
        exact q _ r4.drop.drop
end
end
/-! P19 -/
section
set_option maxRecDepth 100000
set_option autoImplicit false
set_option maxHeartbeats 1000000

theorem PlanAt.mono {F F' : Frm} {i : Nat} {P : List (Int × List D)} (h : PlanAt F i P) (hs : ∀ i o, F i o → F' i o) : PlanAt F' i P := by
  refine e2a2 (h) fun vp l h1 h2 => ?_
  exact ⟨vp, l, hs _ _ h1, fun k => ⟨(h2 k).1, fun ds e => let ⟨j, v, a, b⟩ := (h2 k).2 ds e; ⟨j, v, a, hs _ _ b⟩⟩⟩

/- the two heaps side by side -/
structure Both (X : HIds) (loc : Loc) (H : HS) (Y : WIds) (locw : Loc) (W : WS) (F : Frm) (st : ASt) : Prop where
  h : Rep X loc H F st
  w : RepW Y locw W F st
  apart : ∀ t t', (content X loc H t).isSome → (contentW Y locw W t').isSome → t.id X loc ≠ t'.id Y locw
noncomputable def frmW (Y : WIds) (locw : Loc) (W : WS) (st : ASt) : Frm := fun i o => (∃ t, (contentW Y locw W t).isSome ∧ t.id Y locw = i) ∧ o = st.get i
noncomputable def frmH (X : HIds) (loc : Loc) (H : HS) (st : ASt) : Frm := fun i o => (∃ t, (content X loc H t).isSome ∧ t.id X loc = i) ∧ o = st.get i

section
variable {X : HIds} {loc loc' : Loc} {H H' : HS} {Y : WIds} {locw locw' : Loc} {W W' : WS} {F : Frm} {st st' : ASt}
theorem Both.frameH (b : Both X loc H Y locw W F st) : Rep X loc H (fun i o => F i o ∨ frmW Y locw W st i o) st := by
  refine ⟨b.h.dat, b.h.inj, fun i o h => ?_, fun i o h t ht => ?_⟩
  · rcases h with h | ⟨⟨t, ht, rfl⟩, rfl⟩
    · exact b.h.frame i o h
    · refine e1a1 (Option.isSome_iff_exists.mp ht) fun d hd => ?_
      exact ⟨(b.w.dat t d hd).1, rfl⟩
  · rcases h with h | ⟨⟨t', ht', rfl⟩, rfl⟩
    · exact b.h.off i o h t ht
    · exact b.apart t t' ht ht'
theorem Both.backH (b : Both X loc H Y locw W F st) (r : Rep X loc' H' (fun i o => F i o ∨ frmW Y locw W st i o) st') : Both X loc' H' Y locw W F st' := by
  have ob : ∀ t, (contentW Y locw W t).isSome → st'.Ob (t.id Y locw) (st.get (t.id Y locw)) := fun t ht => r.frame _ _ (.inr ⟨⟨t, ht, rfl⟩, rfl⟩)
  refine ⟨r.mono fun _ _ h => .inl h, ⟨fun t d hd => ?_, b.w.inj, fun i o h => r.frame i o (.inl h), b.w.off⟩, fun t t' ht ht' => r.off _ _ (.inr ⟨⟨t', ht', rfl⟩, rfl⟩) t ht⟩
  have := ob t (by rw [hd]; rfl)
  exact ⟨this.1, by rw [this.2]; exact (b.w.dat t d hd).2⟩
theorem Both.frameW (b : Both X loc H Y locw W F st) : RepW Y locw W (fun i o => F i o ∨ frmH X loc H st i o) st := by
  refine ⟨b.w.dat, b.w.inj, fun i o h => ?_, fun i o h t ht => ?_⟩
  · rcases h with h | ⟨⟨t, ht, rfl⟩, rfl⟩
    · exact b.w.frame i o h
    · refine e1a1 (Option.isSome_iff_exists.mp ht) fun d hd => ?_
      exact ⟨(b.h.dat t d hd).1, rfl⟩
  · rcases h with h | ⟨⟨t', ht', rfl⟩, rfl⟩
    · exact b.w.off i o h t ht
    · exact fun e => b.apart t' t ht' ht e.symm
theorem Both.backW (b : Both X loc H Y locw W F st) (r : RepW Y locw' W' (fun i o => F i o ∨ frmH X loc H st i o) st') : Both X loc H Y locw' W' F st' := by
  have ob : ∀ t, (content X loc H t).isSome → st'.Ob (t.id X loc) (st.get (t.id X loc)) := fun t ht => r.frame _ _ (.inr ⟨⟨t, ht, rfl⟩, rfl⟩)
  refine ⟨⟨fun t d hd => ?_, b.h.inj, fun i o h => r.frame i o (.inl h), b.h.off⟩, r.mono fun _ _ h => .inl h, fun t t' ht ht' e => r.off _ _ (.inr ⟨⟨t, ht, rfl⟩, rfl⟩) t' ht' e.symm⟩
  have := ob t (by rw [hd]; rfl)
  exact ⟨this.1, by rw [this.2]; exact (b.h.dat t d hd).2⟩
theorem Both.drop {i : Nat} {o : AObj} (b : Both X loc H Y locw W (F.add i o) st) : Both X loc H Y locw W F st := ⟨b.h.drop, b.w.mono fun _ _ h => .inl h, b.apart⟩
theorem wp_newB {Q : AVal → ASt → Prop} {d : AData} (b : Both X loc H Y locw W F st) (q : ∀ id st', Both X loc H Y locw W (F.add id ⟨0, d⟩) st' → (∀ o, ¬ F id o) → (∀ j, j ≠ id → st'.get j = st.get j) → Q (.obj id) st') : wp (newO d) st Q :=
  .mk <| (q _ _ ⟨b.h.new, b.w.new, b.apart⟩ (fun o h => Nat.lt_irrefl _ (b.h.frame _ o h).1) fun _ hj => if_neg hj)

variable {n m : Nat} {d : D} {P : List (Int × List D)} {Q : AVal → ASt → Prop}
theorem both_do_deed (b : Both X loc H Y locw W F st) (hP : PlanAt F X.plan P) (h : HRuns P m H [.deed d] H') (q : ∀ loc' st', Both X loc' H' Y locw W F st' → Q .none st') : wp ((R (n + 47)).call "do_deed" [.inst "Counted" X.root, encD d]) st Q :=
  ok_do_deed b.frameH (hP.mono fun _ _ h => .inl h) h fun loc' st' r => q _ _ (b.backH r)
theorem both_done (b : Both X loc H Y locw W F st) (hP : PlanAt F X.plan P) (hz : W.tasks.length ≤ 100000) (h : WRuns P m { W with tasks := .deed d :: W.tasks } W') (q : ∀ loc' st', Both X loc H Y loc' W' F st' → Q .none st') : wp ((R (n + 46)).call "_law_done" [.obj Y.root, encD d, .obj X.plan]) st Q :=
  ok_w_done b.frameW (hP.mono fun _ _ h => .inl h) hz h fun loc' st' r => q _ _ (b.backW r)
theorem both_counts (b : Both X loc H Y locw W F st) (h : CountsOK H) (q : ∀ st', Both X loc H Y locw W F st' → Q (.bool true) st') : wp ((R (n + 14)).call "counts_right" [.inst "Counted" X.root]) st Q :=
  ok_counts_right b.frameH h fun st' r => q _ (b.backH r)
end

/-! equal data -/
mutual
theorem eqv_refl : ∀ d : PyData, d.canLay0 = true → PyData.eqv d d = true
  | .none, _ => by simp only [PyData.eqv]
  | .bool b, _ => by simp only [PyData.eqv]; cases b <;> rfl
  | .int i, _ => by simp only [PyData.eqv]; simp
  | .str s, _ => by rw [str_beq]; simp
  | .list xs, h => by simp only [PyData.eqv]; exact eqvAll_refl xs (by simpa only [PyData.canLay0] using h)
  | .tuple xs, h => by simp only [PyData.eqv]; exact eqvAll_refl xs (by simpa only [PyData.canLay0] using h)
  | .dict _, h => by simp [PyData.canLay0] at h
theorem eqvAll_refl : ∀ l : List PyData, PyData.canLayAll0 l = true → PyData.eqvAll l l = true
  | [], _ => by simp only [PyData.eqvAll]
  | x :: xs, h => by
    simp only [PyData.canLayAll0, Bool.and_eq_true] at h
    simp only [PyData.eqvAll, eqv_refl x h.1, eqvAll_refl xs h.2]; rfl
end
noncomputable def Good (st : ASt) (n : Nat) (x : AVal) : Prop := ∃ d, dataOf st n x = some d ∧ d.canLay0 = true
section
variable {st : ASt} {n : Nat}
theorem Good.all : ∀ {l : List AVal}, (∀ x ∈ l, Good st n x) → ∃ ds, l.mapM (dataOf st n) = some ds ∧ PyData.canLayAll0 ds = true
  | [], _ => ⟨[], rfl, by simp only [PyData.canLayAll0]⟩
  | x :: l, h => by
    refine e1a2 (h x (.head _)) fun d h1 h2 => ?_
    refine e1a2 (Good.all (l := l) fun y hy => h y (.tail _ hy)) fun ds h3 h4 => ?_
    refine ⟨d :: ds, by rw [List.mapM_cons, h1, h3]; rfl, ?_⟩
    simp only [PyData.canLayAll0, h2, h4]; rfl
theorem Good.tup {l : List AVal} (h : ∀ x ∈ l, Good st n x) : Good st (n + 1) (.tup l) := by
  refine e1a2 (Good.all h) fun ds h1 h2 => ?_
  exact ⟨.tuple ds, by show (l.mapM (dataOf st n)).map PyData.tuple = _; rw [h1]; rfl, by simpa only [PyData.canLay0] using h2⟩
theorem Good.str {s : Str} (h : PyData.strOk s = true) : Good st n (.str s) := ⟨.str s, by cases n <;> rfl, by simpa only [PyData.canLay0] using h⟩
theorem Good.int {i : Int} : Good st n (.int i) := ⟨.int i, by cases n <;> rfl, by simp only [PyData.canLay0]⟩
theorem Good.enc {v : V} : Good st (n + 2) (enc v) := ⟨v.dat, dataOf_enc n v, v.dat_ok⟩
theorem Good.encL {l : L} : Good st (n + 2) (encL l) := by
  cases l <;> refine Good.tup (n := n + 1) fun x hx => ?_
  · simp only [List.mem_cons, List.not_mem_nil, or_false] at hx
    rcases hx with rfl | rfl | rfl
    · exact Good.str (by decide +kernel)
    · exact Good.int
    · exact Good.int
  · simp only [List.mem_cons, List.not_mem_nil, or_false] at hx
    rcases hx with rfl | rfl
    · exact Good.str (by decide +kernel)
    · exact Good.int
  · simp only [List.mem_cons, List.not_mem_nil, or_false] at hx
    rcases hx with rfl | rfl
    · exact Good.str (by decide +kernel)
    · exact Good.int
theorem Good.item {k : Int} {v : V} : Good st (n + 3) (.tup [.int k, Mine.enc v]) := Good.tup fun x hx => by
  simp only [List.mem_cons, List.not_mem_nil, or_false] at hx
  rcases hx with rfl | rfl
  · exact Good.int
  · exact Good.enc
variable {B : Bool → ASt → Prop}
theorem aeq_same {i j : Nat} {l : List AVal} (hi : st.At i (.list l)) (hj : st.At j (.list l)) (hg : ∀ x ∈ l, Good st 7 x) (q : B true st) : wp (aeq (.obj i) (.obj j)) st B := by
  refine e1a2 (Good.all hg) fun ds h1 h2 => ?_
  have h3 : (PyData.list ds).canLay0 = true := by simpa only [PyData.canLay0] using h2
  exact aeq_of (by rw [dataOf_L (n := 7) hi, h1]; rfl) (by rw [dataOf_L (n := 7) hj, h1]; rfl) h3 h3 (eqv_refl _ h3) q
theorem aeq_pair {i j : Nat} {s : Str} {l : List AVal} (hs : PyData.strOk s = true) (hi : st.At i (.list l)) (hj : st.At j (.list l)) (hg : ∀ x ∈ l, Good st 6 x) (q : B true st) : wp (aeq (.tup [.str s, .obj i]) (.tup [.str s, .obj j])) st B := by
  refine e1a2 (Good.all hg) fun ds h1 h2 => ?_
  have e : ∀ {i : Nat}, st.At i (.list l) → dataOf st 8 (.tup [.str s, .obj i]) = some (.tuple [.str s, .list ds]) := fun {i} hi => by
    show (List.mapM (dataOf st 7) [AVal.str s, AVal.obj i]).map PyData.tuple = _
    rw [List.mapM_cons, List.mapM_cons, dataOf_L (n := 6) hi, h1]; rfl
  have h3 : (PyData.tuple [.str s, .list ds]).canLay0 = true := by simp only [PyData.canLay0, PyData.canLayAll0, hs, h2]; rfl
  exact aeq_of (e hi) (e hj) h3 h3 (eqv_refl _ h3) q
theorem aeq_bool {a b : Bool} (q : B (decide (a = b)) st) : wp (aeq (.bool a) (.bool b)) st B := aeq_of rfl rfl (by rw [PyData.canLay0]) (by rw [PyData.canLay0]) (by rw [PyData.eqv]; cases a <;> cases b <;> rfl) q
end

noncomputable def HS.bufd (H : HS) (k : Int) : Bool := match getK k H.cells with
  | some c => c.buf
  | none => false
structure SameOK (H : HS) (W : WS) : Prop where
  counts : CountsOK H
  log : H.log = W.log
  last : H.last = W.last
  vars : H.vars = W.vars
  keys : H.cells.map (·.1) = W.cells.map (·.1)
  cells : ∀ n c, getK n H.cells = some c → ∃ w, getK n W.cells = some w ∧ c.sort = w.sort ∧ c.slots = w.slots ∧ (c.hasD && !c.isD) = w.due ∧ c.slots.length ≤ 1000000
  buf : sortI H.buffer = (H.cells.map (·.1)).filter H.bufd
  bufz : H.buffer.length < 64

section
variable {X : HIds} {loc loc' : Loc} {H H' : HS} {Y : WIds} {locw locw' : Loc} {W W' : WS} {F : Frm} {st st' : ASt} {n : Nat} {Q : AVal → ASt → Prop}

theorem mapM_asInt : ∀ l : List Int, (l.map AVal.int).mapM asIntO = some l
  | [] => rfl
  | a :: l => by rw [List.map_cons, List.mapM_cons, mapM_asInt l]; rfl
theorem sort_list {id : Nat} {l : List Int} (hl : st.At id (.list (l.map AVal.int))) (hz : l.length < 64) (k : wp (newO (.list ((sortI l).map AVal.int))) st Q) : wp (sortL id) st Q := by
  have hz : (l.map AVal.int).length < 64 := by rw [List.length_map]; exact hz
  with_unfolding_all exact ⟨_, hl, l, mapM_asInt l, hz, k.out⟩


theorem ok_is_same (b0 : Both X loc H Y locw W F st) (h : SameOK H W) (q : ∀ st', Both X loc H Y locw W F st' → Q (.bool true) st') : wp ((R (n + 24)).call "_law_is_same" [.inst "Counted" X.root, .obj Y.root]) st Q := by
  have r0 := b0.h
  have w0 := b0.w
  walk_at "fn"
  with_unfolding_all refine attr_get rfl (Rep.root ‹_›) rfl ?_
  with_unfolding_all refine item_sdict (RepW.root ‹_›) rfl ?_
  walk_at "stop"
  refine aeq_same r0.log (by rw [h.log]; exact w0.log) (fun x hx => ?_) ?_
  · refine e1a2 (List.mem_map.mp hx) fun l _ e2_ => ?_; subst e2_; exact Good.encL
  with_unfolding_all refine br_f rfl ?_
  with_unfolding_all refine attr_get rfl (Rep.root ‹_›) rfl ?_
  with_unfolding_all refine item_sdict (RepW.root ‹_›) rfl ?_
  with_unfolding_all refine aeq_int ?_
  refine br_f (by rw [decide_eq_true h.last]; rfl) ?_
  with_unfolding_all refine attr_get rfl (Rep.root ‹_›) rfl ?_
  with_unfolding_all refine isI_at (Rep.vars ‹_›) ?_
  walk_at "stop"
  refine its_z (its_items r0.vars ⟨by rw [List.length_map, len_encM]; exact h.counts.sizeV, ?_⟩)
  walk_at "stop"
  refine wp_newB b0 fun i1 st1 b1 hF1 _ => ?_
  have r1 := b1.h
  have w1 := b1.w
  with_unfolding_all refine item_sdict (RepW.root ‹_›) rfl ?_
  with_unfolding_all refine isI_at (RepW.vars ‹_›) ?_
  walk_at "stop"
  refine its_z (its_items w1.vars ⟨by rw [List.length_map, len_encM, ← h.vars]; exact h.counts.sizeV, ?_⟩)
  walk_at "stop"
  refine wp_newB b1 fun i2 st2 b2 hF2 _ => ?_
  walk_at "stop"
  have r2 := b2.h
  have w2 := b2.w
  refine aeq_same r2.top2 (by rw [h.vars]; exact r2.top) (fun x hx => ?_) ?_
  · refine e1a2 (List.mem_map.mp hx) fun p hp e2_ => ?_; subst e2_
    refine e1a2 (List.mem_map.mp hp) fun p' _ e2_ => ?_; subst e2_
    exact Good.item
  have b2 := b2.drop.drop
  have r2 := b2.h
  have w2 := b2.w
  with_unfolding_all refine br_f rfl ?_
  with_unfolding_all refine attr_get rfl (Rep.root ‹_›) rfl ?_
  with_unfolding_all refine loi_k (Rep.cells ‹_›) ?_
  walk_at "stop"
  have ek1 : ∀ loc (l : List (Int × C)), ((cellsA loc l).map fun p => AVal.int p.1) = (l.map (·.1)).map AVal.int := fun loc l => by unfold cellsA; rw [List.map_map, List.map_map]; rfl
  have ek2 : ∀ loc (l : List (Int × WC)), ((objsW loc l).map fun p => AVal.int p.1) = (l.map (·.1)).map AVal.int := fun loc l => by unfold objsW; rw [List.map_map, List.map_map]; rfl
  refine its_z (its_keys r2.cells ?_)
  rw [ek1]
  refine ⟨by rw [List.length_map, List.length_map]; exact h.counts.sizeC, ?_⟩
  walk_at "stop"
  refine wp_newB b2 fun i3 st3 b3 hF3 _ => ?_
  have r3 := b3.h
  have w3 := b3.w
  with_unfolding_all refine item_sdict (RepW.root ‹_›) rfl ?_
  with_unfolding_all refine loi_k (RepW.cells ‹_›) ?_
  walk_at "stop"
  refine its_z (its_keys w3.cells ?_)
  rw [ek2, ← h.keys]
  refine ⟨by rw [List.length_map, List.length_map]; exact h.counts.sizeC, ?_⟩
  walk_at "stop"
  refine wp_newB b3 fun i4 st4 b4 hF4 _ => ?_
  walk_at "stop"
  refine aeq_same b4.h.top2 b4.h.top (fun x hx => ?_) ?_
  · refine e1a2 (List.mem_map.mp hx) fun p hp e2_ => ?_; subst e2_
    exact Good.int
  have b4 := b4.drop.drop
  have r4 := b4.h
  have w4 := b4.w
  with_unfolding_all refine br_f rfl ?_
  walk_at "stop"
  refine both_counts b4 h.counts fun st5 b5 => ?_
  have r5 := b5.h
  have w5 := b5.w
  with_unfolding_all refine br_f rfl ?_
  with_unfolding_all refine attr_get rfl (Rep.root ‹_›) rfl ?_
  with_unfolding_all refine loi_k (Rep.cells ‹_›) ?_
  with_unfolding_all refine its_keys (Rep.cells ‹_›) ?_
  walk_at "stop"
  rw [ek1]
  refine forLoop_at (fun us s => ∃ (ks : List Int), us = ks.map AVal.int ∧ Both X loc H Y locw W F s ∧ s.get X.cells = st5.get X.cells ∧ ∀ k ∈ ks, (getK k H.cells).isSome = true) ⟨H.cells.map (·.1), rfl, b5, rfl, fun k hk => ?_⟩ ?_ ?_
  · refine e1a2 (List.mem_map.mp hk) fun p hp e2_ => ?_; subst e2_
    refine e1a1 (mem_getK hp) fun c hc => ?_
    rw [hc]; rfl
  · intro u us s h_; refine e1a4 (h_) fun ks hu b6 hs hm => ?_
    cases ks with
    | nil => o_facts hu
    | cons key ks =>
    rw [List.map_cons] at hu
    o_facts hu
    refine e1a1 (Option.isSome_iff_exists.mp (hm key (.head _))) fun c hc => ?_
    refine e1a5 (h.cells key c hc) fun wc hwc hsort hslots hdue hlen => ?_
    refine ⟨by show (s.get _).ver = _; rw [hs]; rfl, fun K hn _ => ?_⟩
    have r6 := b6.h
    have w6 := b6.w
    with_unfolding_all refine attr_get rfl (Rep.root ‹_›) rfl ?_
    with_unfolding_all refine item_cells ‹_› ‹_› ?_
    with_unfolding_all refine item_sdict (RepW.root ‹_›) rfl ?_
    with_unfolding_all refine item_cellsW ‹_› ‹_› ?_
    with_unfolding_all refine attr_get rfl (Rep.cell ‹_› ‹_›) rfl ?_
    with_unfolding_all refine attr_get rfl (Rep.cell ‹_› ‹_›) rfl ?_
    with_unfolding_all refine isI_at (Rep.slot ‹_› ‹_›) ?_
    walk_at "stop"
    refine its_z (its_items (r6.slot hc) ⟨by rw [List.length_map, len_encM]; exact hlen, ?_⟩)
    walk_at "stop"
    refine wp_newB b6 fun i7 s7 b7 hF7 hs7 => ?_
    have r7 := b7.h
    have w7 := b7.w
    with_unfolding_all refine item_list (RepW.cell ‹_› ‹_›) (by decide) rfl ?_
    with_unfolding_all refine item_list (RepW.cell ‹_› ‹_›) (by decide) rfl ?_
    with_unfolding_all refine isI_at (RepW.slot ‹_› ‹_›) ?_
    walk_at "stop"
    refine its_z (its_items (w7.slot hwc) ⟨by rw [List.length_map, len_encM, ← hslots]; exact hlen, ?_⟩)
    walk_at "stop"
    refine wp_newB b7 fun i8 s8 b8 hF8 hs8 => ?_
    have hX7 : X.cells ≠ i7 := b7.h.off i7 _ (.inr ⟨rfl, rfl⟩) .cells rfl
    have hX8 : X.cells ≠ i8 := b8.h.off i8 _ (.inr ⟨rfl, rfl⟩) .cells rfl
    walk_at "stop"
    rw [← hsort]
    refine aeq_pair (encK_ok _) b8.h.top2 (by rw [hslots]; exact b8.h.top) (fun x hx => ?_) ?_
    · refine e1a2 (List.mem_map.mp hx) fun p hp e2_ => ?_; subst e2_
      refine e1a2 (List.mem_map.mp hp) fun p' _ e2_ => ?_; subst e2_
      exact Good.item
    have b9 := b8.drop.drop
    have r9 := b9.h
    have w9 := b9.w
    have hs9 : s8.get X.cells = st5.get X.cells := (hs8 _ hX8).trans ((hs7 _ hX7).trans hs)
    with_unfolding_all refine br_f rfl ?_
    with_unfolding_all refine attr_get rfl (Rep.cell ‹_› ‹_›) rfl ?_
    cases hD : c.hasD with
    | false =>
      have hD' : wc.due = false := by rw [← hdue, hD]; rfl
      with_unfolding_all refine br_f rfl ?_
      with_unfolding_all refine item_list (RepW.cell ‹_› ‹_›) (by decide) rfl ?_
      walk_at "stop"
      refine aeq_bool ?_
      refine br_f (by rw [hD']; rfl) ?_
      skip
      exact hn _ _ (by walk_at "sub") ⟨ks, rfl, b9, hs9, fun k hk => hm k (.tail _ hk)⟩
    | true =>
      have hD' : wc.due = !c.isD := by rw [← hdue, hD]; rfl
      with_unfolding_all refine br_t rfl ?_
      with_unfolding_all refine attr_get rfl (Rep.cell ‹_› ‹_›) rfl ?_
      with_unfolding_all refine item_list (RepW.cell ‹_› ‹_›) (by decide) rfl ?_
      walk_at "stop"
      refine aeq_bool ?_
      refine br_f (by rw [hD']; simp) ?_
      skip
      exact hn _ _ (by walk_at "sub") ⟨ks, rfl, b9, hs9, fun k hk => hm k (.tail _ hk)⟩
  · intro s h_; refine e1a4 (h_) fun ks hu b6 hs hm => ?_
    refine ⟨by show (s.get _).ver = _; rw [hs]; rfl, ?_⟩
    have r6 := b6.h
    have w6 := b6.w
    with_unfolding_all refine attr_get rfl (Rep.root ‹_›) rfl ?_
    with_unfolding_all refine loi_k (Rep.cells ‹_›) ?_
    walk_at "stop"
    refine its_z (its_keys r6.cells ?_)
    rw [ek1]
    refine ⟨by rw [List.length_map, List.length_map]; exact h.counts.sizeC, ?_⟩
    walk_at "stop"
    refine compLoop_at (fun x => match x with | .int k => if H.bufd k = true then some (.int k) else none | _ => none) rfl (fun x hx KY KN hy hn => ?_) ?_
    · refine e1a2 (List.mem_map.mp hx) fun k hk e2_ => ?_; subst e2_
      refine e1a2 (List.mem_map.mp hk) fun p hp e2_ => ?_; subst e2_
      refine e1a1 (mem_getK hp) fun c hc => ?_
      have hb : H.bufd p.1 = c.buf := by unfold HS.bufd; rw [hc]
      cases e : c.buf with
      | true =>
        with_unfolding_all refine attr_get rfl (Rep.root ‹_›) rfl ?_
        with_unfolding_all refine item_cells ‹_› ‹_› ?_
        with_unfolding_all refine attr_get rfl (Rep.cell ‹_› ‹_›) rfl ?_
        with_unfolding_all refine br_t ‹_› ?_
        with_unfolding_all refine br_t rfl ?_
        refine hy _ _ (by walk_at "sub") ?_
        show (if H.bufd p.1 = true then _ else _) = _
        rw [hb, e]; rfl
      | false =>
        with_unfolding_all refine attr_get rfl (Rep.root ‹_›) rfl ?_
        with_unfolding_all refine item_cells ‹_› ‹_› ?_
        with_unfolding_all refine attr_get rfl (Rep.cell ‹_› ‹_›) rfl ?_
        with_unfolding_all refine br_f ‹_› ?_
        with_unfolding_all refine br_f rfl ?_
        refine hn _ (by walk_at "sub") ?_
        show (if H.bufd p.1 = true then _ else _) = _
        rw [hb, e]; rfl
    have e1 : (((H.cells.map (·.1)).map AVal.int).filterMap fun x => match x with | .int k => if H.bufd k = true then some (AVal.int k) else none | _ => none) = ((H.cells.map (·.1)).filter H.bufd).map AVal.int := by
      generalize H.cells.map (·.1) = l
      induction l with
      | nil => rfl
      | cons a l ih =>
        rw [List.map_cons, List.filter_cons]
        by_cases e : H.bufd a = true
        · rw [if_pos e, List.map_cons, List.filterMap_cons_some (b := .int a) (by show (if H.bufd a = true then some (AVal.int a) else none) = _; rw [if_pos e]), ih]
        · rw [if_neg e, List.filterMap_cons_none (by show (if H.bufd a = true then some (AVal.int a) else none) = _; rw [if_neg e]), ih]
    rw [e1, ← h.buf]
    walk_at "stop"
    refine wp_newB b6 fun i7 s7 b7 hF7 hs7 => ?_
    have r7 := b7.h
    with_unfolding_all refine attr_get rfl (Rep.root ‹_›) rfl ?_
    walk_at "stop"
    refine sort_list r7.buffer h.bufz ?_
    refine wp_newB b7 fun i8 s8 b8 hF8 hs8 => ?_
    walk_at "stop"
    refine aeq_same b8.h.top b8.h.top2 (fun x hx => ?_) ?_
    · refine e1a2 (List.mem_map.mp hx) fun p hp e2_ => ?_; subst e2_
      exact Good.int
    exact q _ b8.drop.drop
end
end
/-! P20 -/
section
set_option maxRecDepth 100000
set_option autoImplicit false
set_option maxHeartbeats 400000

noncomputable def D.vs : D → List Int
  | .setInt x _ => [x]
  | .newArray x => [x]
  | .newObject x _ => [x]
  | .assign x y => [x, y]
  | .put x _ y => [x, y]
  | .take x y _ => [x, y]
  | .makeRef x y => [x, y]
  | .putRef x _ y => [x, y]
  | .unset x => [x]
  | .unsetAt x _ => [x]
noncomputable def D.ks : D → List Int
  | .put _ k _ => [k]
  | .take _ _ k => [k]
  | .putRef _ k _ => [k]
  | .unsetAt _ k => [k]
  | _ => []
structure GoodD (m : Int) (d : D) : Prop where
  vs : ∀ x ∈ d.vs, 0 ≤ x ∨ x = -m
  ks : ∀ k ∈ d.ks, 0 ≤ k ∧ k ≤ 2

section
variable {st : ASt} {Q : AVal → ASt → Prop} {B : Bool → ASt → Prop}
theorem bin_mod {i j : Int} (hj : j ≠ 0) (q : Q (.int (Int.fmod i j)) st) : wp (req (j ≠ 0) (ret (.int (Int.fmod i j)))) st Q := by with_unfolding_all exact ⟨hj, q⟩
theorem bin_fdiv {i j : Int} (hj : j ≠ 0) (hs : j.natAbs < 1073741824) (q : Q (.int (Int.fdiv i j)) st) : wp (req (j ≠ 0 ∧ Builtin.divisionGoesByPylong i j = false) (ret (.int (Int.fdiv i j)))) st Q := by
  with_unfolding_all exact ⟨⟨hj, PyProof.noPylong_small hs⟩, q⟩
theorem isIn2 {a b c : Int} (q : B (decide (a = c) || decide (b = c)) st) : wp (isIn (.int c) [.int a, .int b]) st B :=
  ⟨[.int a, .int b], .int c, rfl, rfl, by simp only [PyData.canLayAll0, PyData.canLay0]; rfl, by simpa only [List.any_cons, List.any_nil, int_beq, Bool.or_false] using q⟩
theorem leafD {m : Int} (q : ∀ d, GoodD m d → Q (encD d) st) (d : D) (h : GoodD m d) : Q (encD d) st := q d h
end

theorem fmod4 (x : Int) : 0 ≤ Int.fmod x 4 := Int.fmod_nonneg_of_pos x (by decide)
theorem fmod3 (x : Int) : 0 ≤ Int.fmod x 3 ∧ Int.fmod x 3 ≤ 2 := ⟨Int.fmod_nonneg_of_pos x (by decide), by have := Int.fmod_lt_of_pos x (b := 3) (by decide); lia -abstractProof⟩
theorem good1 {m a : Int} (ha : 0 ≤ a) : ∀ x ∈ [a], 0 ≤ x ∨ x = -m := fun x hx => by
  rw [List.mem_singleton] at hx; subst hx; exact .inl ha
theorem good2 {m a b : Int} (ha : 0 ≤ a) (hb : 0 ≤ b ∨ b = -m) : ∀ x ∈ [a, b], 0 ≤ x ∨ x = -m := fun x hx => by
  simp only [List.mem_cons, List.not_mem_nil, or_false] at hx
  rcases hx with rfl | rfl
  · exact .inl ha
  · exact hb
theorem goodk0 : ∀ k ∈ ([] : List Int), 0 ≤ k ∧ k ≤ 2 := fun _ h => by o_facts h
theorem goodk1 {a : Int} (h : 0 ≤ a ∧ a ≤ 2) : ∀ k ∈ [a], 0 ≤ k ∧ k ≤ 2 := fun k hk => by
  rw [List.mem_singleton] at hk; subst hk; exact h

section
variable {st : ASt} {n : Nat} {Q : AVal → ASt → Prop}


noncomputable def deedRest : List Stmt := ((tabOf "_law_deed").map fun d => d.body.drop 2).getD []
noncomputable def deedScope : Scope := ((tabOf "_law_deed").map fun d => d.scope).getD default
theorem exs_nil {r : Rec} {env : AEnv} {P : Out → ASt → Prop} (q : P (.next env) st) : exs r [] env st P := q
theorem exs_set {r : Rec} {b : List Stmt} {env env' : AEnv} {P : Out → ASt → Prop} (h : ∀ K : Out → ASt → Prop, K (.next env') st → exs r b env st K) (q : P (.next env') st) : exs r b env st P := h P q
theorem then_next {f : AEnv → M Out} {env : AEnv} {P : Out → ASt → Prop} (q : f env st P) : thn (thenO f) P (.next env) st := q
theorem deed_rest {nm : Str} {pr : Arguments} {s0 s1 : Stmt} {bd : List Stmt} {sc : Scope} {ps : Pos} {vars : List (Str × AVal)} {P : Out → ASt → Prop} (h : tabOf "_law_deed" = some ⟨nm, pr, s0 :: s1 :: bd, sc, ps⟩) (k : exs (R n) bd ⟨sc, vars⟩ st P) : exs (R n) deedRest ⟨deedScope, vars⟩ st P := by
  have e1 : deedRest = bd := by unfold deedRest; rw [h]; rfl
  have e2 : deedScope = sc := by unfold deedScope; rw [h]; rfl
  rw [e1, e2]; exact k

theorem deed_tail {bd : List Stmt} {env : AEnv} {vx vm : AVal} {way a b key nn m : Int} (h1 : deedRest = bd) (h2 : ⟨deedScope, [("x", vx), ("mine", vm), ("way", .int way), ("a", .int a), ("b", .int b), ("key", .int key), ("n", .int nn)]⟩ = env) (ha : 0 ≤ a) (hb : 0 ≤ b ∨ b = -m) (hk : 0 ≤ key ∧ key ≤ 2) (q : ∀ d, GoodD m d → Q (encD d) st) : exs (R (n + 19)) bd env st (thn outK Q) := by
  subst h1 h2
  refine deed_rest (by rfl) ?_
  with_unfolding_all refine aeq_int ?_
  by_cases h0 : way = 0
  · have h0 := decide_eq_true h0
    with_unfolding_all refine br_t ‹_› ?_; exact leafD q (.newArray _) (by exact ⟨good1 ‹_›, goodk0⟩)
  have h0 := decide_eq_false h0
  with_unfolding_all refine br_f ‹_› ?_
  with_unfolding_all refine aeq_int ?_
  by_cases h1 : way = 1
  · have h1 := decide_eq_true h1
    with_unfolding_all refine br_t ‹_› ?_; with_unfolding_all refine bin_mod (by decide) ?_; with_unfolding_all refine aeq_int ?_; exact leafD q (.newObject _ _) (by exact ⟨good1 ‹_›, goodk0⟩)
  have h1 := decide_eq_false h1
  with_unfolding_all refine br_f ‹_› ?_
  with_unfolding_all refine aeq_int ?_
  by_cases h2 : way = 2
  · have h2 := decide_eq_true h2
    with_unfolding_all refine br_t ‹_› ?_; with_unfolding_all refine bin_mod (by decide) ?_; exact leafD q (.setInt _ _) (by exact ⟨good1 ‹_›, goodk0⟩)
  have h2 := decide_eq_false h2
  with_unfolding_all refine br_f ‹_› ?_
  with_unfolding_all refine aeq_int ?_
  by_cases h3 : way = 3
  · have h3 := decide_eq_true h3
    with_unfolding_all refine br_t ‹_› ?_; exact leafD q (.assign _ _) (by exact ⟨good2 ‹_› ‹_›, goodk0⟩)
  have h3 := decide_eq_false h3
  with_unfolding_all refine br_f ‹_› ?_
  with_unfolding_all refine isIn2 ?_
  cases h4 : (decide (4 = way) || decide (5 = way)) with
  | true => with_unfolding_all refine br_t rfl ?_; exact leafD q (.put _ _ _) (by exact ⟨good2 ‹_› ‹_›, goodk1 ‹_›⟩)
  | false =>
  with_unfolding_all refine br_f rfl ?_
  with_unfolding_all refine aeq_int ?_
  by_cases h6 : way = 6
  · have h6 := decide_eq_true h6
    with_unfolding_all refine br_t ‹_› ?_; exact leafD q (.take _ _ _) (by exact ⟨good2 ‹_› ‹_›, goodk1 ‹_›⟩)
  have h6 := decide_eq_false h6
  with_unfolding_all refine br_f ‹_› ?_
  with_unfolding_all refine aeq_int ?_
  by_cases h7 : way = 7
  · have h7 := decide_eq_true h7
    by_cases h8 : Int.fmod nn 2 = 0
    · have h8 := decide_eq_true h8
      with_unfolding_all refine br_t ‹_› ?_; with_unfolding_all refine bin_mod (by decide) ?_; with_unfolding_all refine aeq_int ?_; with_unfolding_all refine br_t ‹_› ?_; exact leafD q (.makeRef _ _) (by exact ⟨good2 ‹_› ‹_›, goodk0⟩)
    · have h8 := decide_eq_false h8
      with_unfolding_all refine br_t ‹_› ?_; with_unfolding_all refine bin_mod (by decide) ?_; with_unfolding_all refine aeq_int ?_; with_unfolding_all refine br_f ‹_› ?_; exact leafD q (.putRef _ _ _) (by exact ⟨good2 ‹_› ‹_›, goodk1 ‹_›⟩)
  have h7 := decide_eq_false h7
  with_unfolding_all refine br_f ‹_› ?_
  with_unfolding_all refine aeq_int ?_
  by_cases h8 : way = 8
  · have h8 := decide_eq_true h8
    with_unfolding_all refine br_t ‹_› ?_; exact leafD q (.unset _) (by exact ⟨good1 ‹_›, goodk0⟩)
  · have h8 := decide_eq_false h8
    with_unfolding_all refine br_f ‹_› ?_; exact leafD q (.unsetAt _ _) (by exact ⟨good1 ‹_›, goodk1 ‹_›⟩)

theorem ok_law_deed_n {x : Int} (q : ∀ d, GoodD 0 d → Q (encD d) st) : wp ((R (n + 20)).call "_law_deed" [.int x, .none]) st Q := by
  walk_at "fn"
  repeat (walk_at "stop"; with_unfolding_all refine bin_mod (by decide) ?_; with_unfolding_all refine bin_fdiv (by decide) (by decide) ?_; with_unfolding_all refine bin_mod (by decide) ?_; with_unfolding_all refine bin_fdiv (by decide) (by decide) ?_; with_unfolding_all refine bin_mod (by decide) ?_; with_unfolding_all refine bin_fdiv (by decide) (by decide) ?_; with_unfolding_all refine bin_mod (by decide) ?_; with_unfolding_all refine bin_fdiv (by decide) (by decide) ?_)
  with_unfolding_all refine br_f rfl ?_
  with_unfolding_all refine br_f rfl ?_
  refine exs_nil ?_
  refine then_next ?_
  refine deed_tail (by with_unfolding_all rfl) (by with_unfolding_all rfl) (fmod4 _) (.inl (fmod4 _)) (fmod3 _) q

theorem ok_law_deed_m {x m : Int} (q : ∀ d, GoodD m d → Q (encD d) st) : wp ((R (n + 20)).call "_law_deed" [.int x, .int (-m)]) st Q := by
  walk_at "fn"
  repeat (walk_at "stop"; with_unfolding_all refine bin_mod (by decide) ?_; with_unfolding_all refine bin_fdiv (by decide) (by decide) ?_; with_unfolding_all refine bin_mod (by decide) ?_; with_unfolding_all refine bin_fdiv (by decide) (by decide) ?_; with_unfolding_all refine bin_mod (by decide) ?_; with_unfolding_all refine bin_fdiv (by decide) (by decide) ?_; with_unfolding_all refine bin_mod (by decide) ?_; with_unfolding_all refine bin_fdiv (by decide) (by decide) ?_)
  with_unfolding_all refine br_t rfl ?_
  walk_at "stop"
  with_unfolding_all refine bin_mod (by decide) ?_
  by_cases hn : Int.fmod (Int.fdiv x 480) 3 > 0
  · refine br_t (decide_eq_true hn) ?_
    apply exs_set
    · intro K k
      with_unfolding_all exact k
    refine then_next ?_
    refine deed_tail (by with_unfolding_all rfl) (by with_unfolding_all rfl) (fmod4 _) (.inr rfl) (fmod3 _) q
  · refine br_f (decide_eq_false hn) ?_
    refine exs_nil ?_
    refine then_next ?_
    refine deed_tail (by with_unfolding_all rfl) (by with_unfolding_all rfl) (fmod4 _) (.inl (fmod4 _)) (fmod3 _) q
end
end
/-! P21 -/
section
set_option maxRecDepth 100000
set_option autoImplicit false
set_option maxHeartbeats 2000000

/- these objects lie there -/
noncomputable def AFr (F : Frm) (st : ASt) : Prop := ∀ i o, F i o → st.Ob i o
section
variable {F F' : Frm} {st : ASt} {Q : Nat → ASt → Prop} {U : Unit → ASt → Prop} {i j : Nat} {o p : AObj} {d : AData}
theorem AFr.top {vr : Nat} (h : AFr (F.add i ⟨vr, d⟩) st) : st.At i d := (h i _ (.inr ⟨rfl, rfl⟩)).at
theorem AFr.swap (h : AFr ((F.add i o).add j p) st) : AFr ((F.add j p).add i o) st := fun a b q => h a b (q.elim (fun q => q.elim (fun q => .inl (.inl q)) .inr) fun q => .inl (.inr q))
theorem AFr.put (h : AFr (F.add i o) st) (hF : ∀ o, ¬ F i o) : AFr (F.add i ⟨o.ver + 1, d⟩) (st.put i d) := fun a b q => by
  rcases q with q | ⟨rfl, rfl⟩
  · exact Ob_put_ne (h a b (.inl q)) fun e => hF b (e ▸ q)
  · have oi := h a o (.inr ⟨rfl, rfl⟩)
    exact ⟨oi.1, by show (if a = a then (⟨_, d⟩ : AObj) else _) = _; rw [if_pos rfl, oi.2]⟩
theorem new_dA {Q : Nat → ASt → Prop} (h : AFr F st) (q : ∀ id st', AFr (F.add id ⟨0, d⟩) st' → (∀ o, ¬ F id o) → id = st.next → st'.next = st.next + 1 → Q id st') : newD d st Q :=
  wp_newD (q _ _ (fun a b q => by
    rcases q with q | ⟨rfl, rfl⟩
    · exact Ob_new (h a b q)
    · exact Ob_new_self) (fun o q => Nat.lt_irrefl _ (h _ o q).1) rfl rfl)
theorem wp_newA {Q : AVal → ASt → Prop} (h : AFr F st) (q : ∀ id st', AFr (F.add id ⟨0, d⟩) st' → (∀ o, ¬ F id o) → id = st.next → st'.next = st.next + 1 → Q (.obj id) st') : wp (newO d) st Q := ⟨new_dA h q⟩
theorem mk_newA {Q : AVal → ASt → Prop} (h : AFr F st) (q : ∀ id st', AFr (F.add id ⟨0, .idict []⟩) st' → (∀ o, ¬ F id o) → id = st.next → st'.next = st.next + 1 → Q (.obj id) st') : wp (mkI []) st Q := by with_unfolding_all exact ⟨[], rfl, rfl, (wp_newA h q).out⟩
theorem set_tmpA {vr : Nat} {l : List (Str × AVal)} {c a : Str} {v : AVal} (h : AFr (F.add i ⟨vr, .sdict l⟩) st) (hF : ∀ o, ¬ F i o) (hc : (attrsOf c).contains a = true) (hz : l.length ≤ 100) (q : ∀ st', AFr (F.add i ⟨vr + 1, .sdict (putK a v l)⟩) st' → st'.next = st.next → U () st') : wp (attrSet (.inst c i) a v) st U :=
  attr_set hc h.top hz (q _ (h.put hF) rfl)
end

/-! the two heaps at the start -/
noncomputable def H0 : HS := ⟨[], [], [], 0, [], 0⟩
noncomputable def W0 : WS := ⟨[], [], [], [], [], 0⟩
section
variable {F : Frm} {st : ASt} {n : Nat} {Q : AVal → ASt → Prop}

theorem ok_Counted (h : AFr F st) (q : ∀ X loc st', Rep X loc H0 F st' → (∀ t, (content X loc H0 t).isSome → st.next ≤ t.id X loc) → st.next ≤ st'.next → Q (.inst "Counted" X.root) st') : wp ((R (n + 8)).call "Counted" [.int 1000]) st Q := by
  walk_at "init"
  refine new_dA h fun a st1 h1 hFa ga n1 => ?_
  walk_at "stop"
  refine mk_newA h1 fun b1 st2 h2 f1 g1 n2 => ?_
  have h2 := h2.swap
  have e1 : ∀ o, ¬ (F.add b1 ⟨0, .idict []⟩) a o := fun o q => q.elim (hFa o) fun q => f1 _ (.inr ⟨q.1.symm, rfl⟩)
  walk_at "stop"
  refine set_tmpA h2 e1 rfl (by show (0 : Nat) ≤ 100; decide) fun st3 h3 n3 => ?_
  walk_at "stop"
  refine mk_newA h3 fun b2 st4 h4 f2 g2 n4 => ?_
  have h4 := h4.swap
  have e2 : ∀ o, ¬ ((F.add b1 ⟨0, .idict []⟩).add b2 ⟨0, .idict []⟩) a o := fun o q => q.elim (e1 o) fun q => f2 _ (.inr ⟨q.1.symm, rfl⟩)
  walk_at "stop"
  refine set_tmpA h4 e2 rfl (by show (1 : Nat) ≤ 100; decide) fun st5 h5 n5 => ?_
  walk_at "stop"
  refine wp_newA h5 fun b3 st6 h6 f3 g3 n6 => ?_
  have h6 := h6.swap
  have e3 : ∀ o, ¬ (((F.add b1 ⟨0, .idict []⟩).add b2 ⟨0, .idict []⟩).add b3 ⟨0, .list []⟩) a o := fun o q => q.elim (e2 o) fun q => f3 _ (.inr ⟨q.1.symm, rfl⟩)
  walk_at "stop"
  refine set_tmpA h6 e3 rfl (by show (2 : Nat) ≤ 100; decide) fun st7 h7 n7 => ?_
  walk_at "stop"
  refine set_tmpA h7 e3 rfl (by show (3 : Nat) ≤ 100; decide) fun st8 h8 n8 => ?_
  walk_at "stop"
  refine wp_newA h8 fun b4 st9 h9 f4 g4 n9 => ?_
  have h9 := h9.swap
  have e4 : ∀ o, ¬ ((((F.add b1 ⟨0, .idict []⟩).add b2 ⟨0, .idict []⟩).add b3 ⟨0, .list []⟩).add b4 ⟨0, .list []⟩) a o := fun o q => q.elim (e3 o) fun q => f4 _ (.inr ⟨q.1.symm, rfl⟩)
  walk_at "stop"
  refine set_tmpA h9 e4 rfl (by show (4 : Nat) ≤ 100; decide) fun st10 h10 n10 => ?_
  walk_at "stop"
  refine set_tmpA h10 e4 rfl (by show (5 : Nat) ≤ 100; decide) fun st11 h11 n11 => ?_
  walk_at "stop"
  refine set_tmpA h11 e4 rfl (by show (6 : Nat) ≤ 100; decide) fun st12 h12 n12 => ?_
  walk_at "stop"
  refine mk_newA h12 fun b5 st13 h13 f5 g5 n13 => ?_
  have h13 := h13.swap
  have e5 : ∀ o, ¬ (((((F.add b1 ⟨0, .idict []⟩).add b2 ⟨0, .idict []⟩).add b3 ⟨0, .list []⟩).add b4 ⟨0, .list []⟩).add b5 ⟨0, .idict []⟩) a o := fun o q => q.elim (e4 o) fun q => f5 _ (.inr ⟨q.1.symm, rfl⟩)
  walk_at "stop"
  refine set_tmpA h13 e5 rfl (by show (7 : Nat) ≤ 100; decide) fun st14 h14 n14 => ?_
  walk_at "stop"
  refine wp_newA h14 fun b6 st15 h15 f6 g6 n15 => ?_
  have h15 := h15.swap
  have e6 : ∀ o, ¬ ((((((F.add b1 ⟨0, .idict []⟩).add b2 ⟨0, .idict []⟩).add b3 ⟨0, .list []⟩).add b4 ⟨0, .list []⟩).add b5 ⟨0, .idict []⟩).add b6 ⟨0, .list []⟩) a o := fun o q => q.elim (e5 o) fun q => f6 _ (.inr ⟨q.1.symm, rfl⟩)
  walk_at "stop"
  refine set_tmpA h15 e6 rfl (by show (8 : Nat) ≤ 100; decide) fun st16 h16 n16 => ?_
  skip
  refine q ⟨a, b1, b2, b3, b4, b5, b6⟩ ⟨fun _ => 0, fun _ => 0⟩ st16 ?_ ?_ (by lia -abstractProof)
  · have ha := (h16 a _ (.inr ⟨rfl, rfl⟩)).at
    have hb6 := (h16 b6 _ (.inl (.inr ⟨rfl, rfl⟩))).at
    have hb5 := (h16 b5 _ (.inl (.inl (.inr ⟨rfl, rfl⟩)))).at
    have hb4 := (h16 b4 _ (.inl (.inl (.inl (.inr ⟨rfl, rfl⟩))))).at
    have hb3 := (h16 b3 _ (.inl (.inl (.inl (.inl (.inr ⟨rfl, rfl⟩)))))).at
    have hb2 := (h16 b2 _ (.inl (.inl (.inl (.inl (.inl (.inr ⟨rfl, rfl⟩))))))).at
    have hb1 := (h16 b1 _ (.inl (.inl (.inl (.inl (.inl (.inl (.inr ⟨rfl, rfl⟩)))))))).at
    have live : ∀ t, (content (⟨a, b1, b2, b3, b4, b5, b6⟩ : HIds) ⟨fun _ => 0, fun _ => 0⟩ H0 t).isSome = true → t = .root ∨ t = .cells ∨ t = .vars ∨ t = .log ∨ t = .buffer ∨ t = .tables := fun t ht => by
      cases t with
      | cell n => o_facts ht
      | slot n => o_facts ht
      | _ => simp
    have big : ∀ t, (content (⟨a, b1, b2, b3, b4, b5, b6⟩ : HIds) ⟨fun _ => 0, fun _ => 0⟩ H0 t).isSome = true → st.next ≤ t.id ⟨a, b1, b2, b3, b4, b5, b6⟩ ⟨fun _ => 0, fun _ => 0⟩ := fun t ht => by
      rcases live t ht with rfl | rfl | rfl | rfl | rfl | rfl <;> simp only [Tag.id] <;> lia -abstractProof
    refine ⟨fun t d hd => ?_, fun t t' ht ht' e => ?_, fun i o hi => h16 i o (.inl (.inl (.inl (.inl (.inl (.inl (.inl hi))))))), fun i o hi t ht e => ?_⟩
    · cases t with
      | root => o_facts hd; exact ha
      | cells => o_facts hd; exact hb1
      | vars => o_facts hd; exact hb2
      | log => o_facts hd; exact hb3
      | buffer => o_facts hd; exact hb4
      | tables => o_facts hd; exact hb6
      | cell n => o_facts hd
      | slot n => o_facts hd
    · rcases live t ht with rfl | rfl | rfl | rfl | rfl | rfl <;> rcases live t' ht' with rfl | rfl | rfl | rfl | rfl | rfl <;> first | rfl | (exfalso; simp only [Tag.id] at e; lia -abstractProof)
    · have := (h i o hi).1
      have := big t ht
      lia -abstractProof
  · intro t ht
    cases t with
    | cell n => o_facts ht
    | slot n => o_facts ht
    | _ => simp only [Tag.id]; lia -abstractProof

theorem ok_world (h : AFr F st) (q : ∀ Y loc st', RepW Y loc W0 F st' → (∀ t, (contentW Y loc W0 t).isSome → st.next ≤ t.id Y loc) → st.next ≤ st'.next → Q (.obj Y.root) st') : wp ((R (n + 8)).call "_law_world" []) st Q := by
  walk_at "fn"
  walk_at "stop"
  refine mk_newA h fun b1 st1 h1 f1 g1 n1 => ?_
  walk_at "stop"
  refine mk_newA h1 fun b2 st2 h2 f2 g2 n2 => ?_
  walk_at "stop"
  refine wp_newA h2 fun b3 st3 h3 f3 g3 n3 => ?_
  walk_at "stop"
  refine wp_newA h3 fun b4 st4 h4 f4 g4 n4 => ?_
  walk_at "stop"
  refine wp_newA h4 fun b5 st5 h5 f5 g5 n5 => ?_
  walk_at "stop"
  with_unfolding_all refine ⟨[("cells", .obj b1), ("vars", .obj b2), ("log", .obj b3), ("tasks", .obj b4), ("hand", .obj b5), ("last", .int 0)], rfl, by rfl, wp.out ?_⟩
  refine wp_newA h5 fun a st6 h6 f6 g6 n6 => ?_
  have ha := (h6 a _ (.inr ⟨rfl, rfl⟩)).at
  have hb5 := (h6 b5 _ (.inl (.inr ⟨rfl, rfl⟩))).at
  have hb4 := (h6 b4 _ (.inl (.inl (.inr ⟨rfl, rfl⟩)))).at
  have hb3 := (h6 b3 _ (.inl (.inl (.inl (.inr ⟨rfl, rfl⟩))))).at
  have hb2 := (h6 b2 _ (.inl (.inl (.inl (.inl (.inr ⟨rfl, rfl⟩)))))).at
  have hb1 := (h6 b1 _ (.inl (.inl (.inl (.inl (.inl (.inr ⟨rfl, rfl⟩))))))).at
  have live : ∀ t, (contentW (⟨a, b1, b2, b3, b4, b5⟩ : WIds) ⟨fun _ => 0, fun _ => 0⟩ W0 t).isSome = true → t = .root ∨ t = .cells ∨ t = .vars ∨ t = .log ∨ t = .tasks ∨ t = .hand := fun t ht => by
    cases t with
    | cell n => o_facts ht
    | slot n => o_facts ht
    | _ => simp
  have big : ∀ t, (contentW (⟨a, b1, b2, b3, b4, b5⟩ : WIds) ⟨fun _ => 0, fun _ => 0⟩ W0 t).isSome = true → st.next ≤ t.id ⟨a, b1, b2, b3, b4, b5⟩ ⟨fun _ => 0, fun _ => 0⟩ := fun t ht => by
    rcases live t ht with rfl | rfl | rfl | rfl | rfl | rfl <;> simp only [TagW.id] <;> lia -abstractProof
  refine q ⟨a, b1, b2, b3, b4, b5⟩ ⟨fun _ => 0, fun _ => 0⟩ st6 ⟨fun t d hd => ?_, fun t t' ht ht' e => ?_, fun i o hi => h6 i o (.inl (.inl (.inl (.inl (.inl (.inl hi)))))), fun i o hi t ht e => ?_⟩ big (by lia -abstractProof)
  · cases t with
    | root => o_facts hd; exact ha
    | cells => o_facts hd; exact hb1
    | vars => o_facts hd; exact hb2
    | log => o_facts hd; exact hb3
    | tasks => o_facts hd; exact hb4
    | hand => o_facts hd; exact hb5
    | cell n => o_facts hd
    | slot n => o_facts hd
  · rcases live t ht with rfl | rfl | rfl | rfl | rfl | rfl <;> rcases live t' ht' with rfl | rfl | rfl | rfl | rfl | rfl <;> first | rfl | (exfalso; simp only [TagW.id] at e; lia -abstractProof)
  · have := (h i o hi).1
    have := big t ht
    lia -abstractProof
end
end
/-! P22 -/
section
set_option maxRecDepth 100000
set_option autoImplicit false
set_option maxHeartbeats 2000000

structure PlanOK (P : List (Int × List D)) : Prop where
  len : ∀ k ds, getK k P = some ds → ds.length ≤ 2
  num : ∀ k ds, getK k P = some ds → 1 ≤ k ∧ k ≤ 12
  good : ∀ k ds, getK k P = some ds → ∀ d ∈ ds, GoodD k d

section
variable {st : ASt} {Q : AVal → ASt → Prop} {n : Nat}
theorem bin_mul {i j : Int} (h : Builtin.Int.intBits i ≤ 64) (q : Q (.int (i * j)) st) : wp (req (Builtin.Int.intBits i ≤ 64) (ret (.int (i * j)))) st Q := by with_unfolding_all exact ⟨h, q⟩
theorem bin_pow {i j : Int} (hi : i = 5) (h : 0 ≤ j ∧ j ≤ 100) (q : Q (.int (i ^ j.toNat)) st) : wp (req (i = 5 ∧ 0 ≤ j ∧ j ≤ 100) (ret (.int (i ^ j.toNat)))) st Q := by with_unfolding_all exact ⟨⟨hi, h⟩, q⟩
theorem bits_small {i : Int} (h : i.natAbs < 2 ^ 64) : Builtin.Int.intBits i ≤ 64 := by
  unfold Builtin.Int.intBits
  split
  · exact Nat.zero_le _
  · rename_i q
    have h0 : i.natAbs ≠ 0 := fun e => q (by simpa using Int.natAbs_eq_zero.mp e)
    have := (Nat.log2_lt h0).mpr h
    lia -abstractProof
theorem sum_list {id : Nat} {l : List Int} (hl : st.At id (.list (l.map AVal.int))) (q : Q (.int l.sum) st) : wp (sumL id) st Q := by with_unfolding_all exact ⟨_, hl, l, mapM_asInt l, q⟩
theorem compLoop_all {r : Rec} {src : Src} {ver : Nat} {t elt : Expr} {ifs : List Expr} {Q : List AVal → ASt → Prop} {env : AEnv} (Rr : AVal → Prop) (hw : src.watch st = ver) {items : List AVal}
  (step : ∀ v ∈ items, ∀ (KY : AEnv → AVal → ASt → Prop) (KN : AEnv → ASt → Prop), (∀ e y, Sub env e → Rr y → KY e y st) → assignT r t env v st fun e s => tests r e ifs s fun b s => BrP b (r.ev elt e s (KY e)) (KN e s))
  (q : ∀ ys, ys.length = items.length → (∀ y ∈ ys, Rr y) → Q ys st) : wp (compLoop r src ver t elt ifs items env) st Q := by
  induction items generalizing Q with
  | nil => exact ⟨hw, q [] rfl fun _ h => by o_facts h⟩
  | cons v vs ih =>
    refine ⟨hw, step v (.head _) (fun e y s => weak (compLoop r src ver t elt ifs vs) e s fun ys s => Q (y :: ys) s) _ fun e y hs hr => ⟨env, hs.sc, hs.vars, wp.out (ih (Q := fun ys s => Q (y :: ys) s) (fun w hw => step w (.tail _ hw)) fun ys hl hys => ?_)⟩⟩
    refine q (y :: ys) (by rw [List.length_cons, List.length_cons, hl]) fun z hz => ?_
    rcases List.mem_cons.mp hz with rfl | hz
    · exact hr
    · exact hys z hz
theorem encD_list {m : Int} : ∀ ys : List AVal, (∀ y ∈ ys, ∃ d, GoodD m d ∧ y = encD d) → ∃ ds : List D, ys = ds.map encD ∧ ∀ d ∈ ds, GoodD m d
  | [], _ => ⟨[], rfl, fun _ h => by o_facts h⟩
  | y :: ys, h => by
    refine e1a2 (h y (.head _)) fun d h1 e2_ => ?_; subst e2_
    refine e1a2 (encD_list ys fun z hz => h z (.tail _ hz)) fun ds e1_ h2 => ?_; subst e1_
    refine ⟨d :: ds, rfl, fun z hz => ?_⟩
    rcases List.mem_cons.mp hz with rfl | hz
    · exact h1
    · exact h2 z hz

noncomputable def told : List Int := [481, 20, 24, 113, 274, 87, 364, 3392, 28, 8, 501, 502, 54, 18]
theorem ok_told (q : wp (newO (.list (told.map AVal.int))) st Q) : wp ((R (n + 6)).call "_law_told" []) st Q := by
  walk_at "fn"
  walk_at "stop"
  exact q

noncomputable def gSum : AVal → Option AVal
  | .tup [.int k, .int y] => some (.int ((k + 3) * y))
  | _ => none
theorem fm_gSum : ∀ (xs : List Int) (k : Nat), ((xs.map AVal.int).zipIdx k |>.map fun p => AVal.tup [.int (p.2 : Int), p.1]).filterMap gSum = ((xs.zipIdx k).map fun p => ((p.2 : Int) + 3) * p.1).map AVal.int
  | [], _ => rfl
  | x :: xs, k => by
    rw [List.map_cons, List.zipIdx_cons, List.map_cons, List.filterMap_cons_some (f := gSum) (b := .int (((k : Int) + 3) * x)) rfl, fm_gSum xs (k + 1), List.zipIdx_cons, List.map_cons, List.map_cons]

theorem ok_plan {F : Frm} {sid vs : Nat} {xs : List Int} (h : AFr F st) (hs : F sid ⟨vs, .list (xs.map AVal.int)⟩) (hz : xs.length ≤ 63) (q : ∀ pid P F' st', (∀ i o, F i o → F' i o) → (∀ i o, F' i o → F i o ∨ st.next ≤ i) → AFr F' st' → PlanAt (fun i o => F' i o ∧ st.next ≤ i) pid P → PlanOK P → Q (.obj pid) st') : wp ((R (n + 32)).call "_law_plan" [.obj sid]) st Q := by
  walk_at "fn"
  walk_at "stop"
  refine mk_newA h fun pid st1 h1 f1 g1 n1 => ?_
  walk_at "stop"
  refine its_range (by decide) ?_
  walk_at "stop"
  refine forLoop_at (fun us s => ∃ (ns : List Nat) (vr : Nat) (l : List (Int × AVal)) (P : List (Int × List D)) (G : Frm), us = (ns.map fun (k : Nat) => AVal.int (1 + (k : Int))) ∧ (∀ k ∈ ns, k < 12) ∧ AFr (G.add pid ⟨vr, .idict l⟩) s ∧ (∀ o, ¬ G pid o) ∧ (∀ i o, F i o → G i o) ∧ (∀ i o, G i o → F i o ∨ st.next ≤ i) ∧ st.next ≤ s.next ∧ (∀ k, (getK k P = none → getK k l = none) ∧ ∀ ds, getK k P = some ds → ∃ j v, getK k l = some (.obj j) ∧ G j ⟨v, .list (ds.map encD)⟩ ∧ st.next ≤ j) ∧ PlanOK P ∧ l.length + ns.length ≤ 12) ⟨List.range 12, 0, [], [], F, rfl, fun k hk => List.mem_range.mp hk, h1, f1, fun _ _ h => h, fun _ _ h => .inl h, by lia -abstractProof, fun _ => ⟨fun _ => rfl, fun _ e => (by o_facts e)⟩, ⟨fun _ _ e => (by o_facts e), fun _ _ e => (by o_facts e), fun _ _ e => (by o_facts e)⟩, (by decide)⟩ ?_ ?_
  · intro u us s h_; obtain ⟨ns, vr, l, P, G, hu, hns, h2, hG, hFG, hGF, hn2, hrel, hP, hlen⟩ := h_
    cases ns with
    | nil => o_facts hu
    | cons k ns =>
    rw [List.map_cons] at hu
    o_facts hu
    rw [List.length_cons] at hlen
    have hk := hns k (.head _)
    refine ⟨rfl, fun K hn _ => ?_⟩
    have hsid := (h2 sid _ (.inl (hFG _ _ hs))).at
    with_unfolding_all refine isL_at ‹_› ?_
    walk_at "stop"
    refine its_z (its_enum hsid ⟨by rw [List.length_map, List.length_zipIdx, List.length_map]; lia -abstractProof, ?_⟩)
    walk_at "stop"
    refine compLoop_at gSum rfl (fun x hx KY KN hy _ => ?_) ?_
    · refine e1a2 (List.mem_map.mp hx) fun p hp e2_ => ?_; subst e2_
      obtain ⟨px, pk⟩ := p
      have hpx := List.mem_zipIdx hp
      rw [List.length_map] at hpx
      have hpk : pk < 63 := by lia -abstractProof
      obtain ⟨y, rfl⟩ : ∃ y, px = AVal.int y := by
        have := hpx.2.2
        rw [List.getElem_map] at this
        exact ⟨_, this⟩
      with_unfolding_all refine br_t rfl ?_
      walk_at "stop"
      refine bin_mul (bits_small (by lia -abstractProof)) ?_
      exact hy _ _ (by walk_at "sub") rfl
    rw [fm_gSum]
    walk_at "stop"
    refine wp_newA h2 fun e1 s3 h3 f3 g3 n3 => ?_
    walk_at "stop"
    refine sum_list h3.top ?_
    walk_at "stop"
    refine bin_mul (by decide +kernel) ?_
    walk_at "stop"
    refine bin_fdiv (by lia -abstractProof) (by lia -abstractProof) ?_
    walk_at "stop"
    with_unfolding_all refine ⟨[(1, .int 493), (2, .int 644)], rfl, by rfl, wp.out ?_⟩
    refine wp_newA h3 fun e2 s4 h4 f4 g4 n4 => ?_
    walk_at "stop"
    refine isI_at h4.top ?_
    walk_at "stop"
    refine bin_mul (by decide +kernel) ?_
    walk_at "stop"
    refine m_get h4.top ?_
    obtain ⟨z, hz2⟩ : ∃ z, (getK (1 + (k : Int)) [((1 : Int), AVal.int 493), (2, .int 644)]).getD (.int (13 * (1 + (k : Int)))) = .int z := by
      show ∃ z, (if (1 : Int) = 1 + (k : Int) then some (AVal.int 493) else if (2 : Int) = 1 + (k : Int) then some (.int 644) else none).getD _ = _
      split
      · exact ⟨_, rfl⟩
      · split
        · exact ⟨_, rfl⟩
        · exact ⟨_, rfl⟩
    rw [hz2]
    walk_at "stop"
    generalize (((List.map (fun p : Int × Nat => ((p.2 : Int) + 3) * p.1) (xs.zipIdx 0)).sum.fdiv (7 * (1 + (k : Int)))) + z) = x
    refine bin_mod (by decide) ?_
    have hx3 := fmod3 x
    walk_at "stop"
    refine its_z (its_range ⟨by decide, by lia -abstractProof, by lia -abstractProof⟩ ⟨by rw [List.length_map, List.length_range]; lia -abstractProof, ?_⟩)
    walk_at "stop"
    refine compLoop_all (fun y => ∃ d, GoodD (1 + (k : Int)) d ∧ y = encD d) rfl (fun v hv KY KN hy => ?_) fun ys hyl hys => ?_
    · refine e1a2 (List.mem_map.mp hv) fun j hj e2_ => ?_; subst e2_
      rw [List.mem_range] at hj
      have hj2 : j < 2 := by lia -abstractProof
      with_unfolding_all refine br_t rfl ?_
      walk_at "stop"
      refine bin_mul (by decide +kernel) ?_
      walk_at "stop"
      refine bin_pow rfl (by lia -abstractProof) ?_
      have hp : (5 : Int) ^ (5 * (0 + (j : Int))).toNat = 1 ∨ (5 : Int) ^ (5 * (0 + (j : Int))).toNat = 3125 := by
        have : j = 0 ∨ j = 1 := by lia -abstractProof
        rcases this with rfl | rfl
        · exact .inl (by decide)
        · exact .inr (by decide)
      walk_at "stop"
      refine bin_fdiv (by lia -abstractProof) (by lia -abstractProof) ?_
      walk_at "stop"
      exact ok_law_deed_m fun d hd => hy _ _ (by walk_at "sub") ⟨d, hd, rfl⟩
    refine e1a2 (encD_list ys hys) fun ds e1_ hds => ?_; subst e1_
    rw [List.length_map, List.length_map, List.length_range] at hyl
    walk_at "stop"
    refine wp_newA h4 fun e3 s5 h5 f5 g5 n5 => ?_
    walk_at "stop"
    have hne : e3 ≠ pid := fun e => f5 ⟨vr, .idict l⟩ (.inl (.inl (.inr ⟨e, rfl⟩)))
    have h6 : AFr ((G.add e3 ⟨0, .list (ds.map encD)⟩).add pid ⟨vr, .idict l⟩) s5 := fun i o q => h5 i o (by
      rcases q with (q | q) | q
      · exact .inl (.inl (.inl (.inl q)))
      · exact .inr q
      · exact .inl (.inl (.inl (.inr q))))
    have hG6 : ∀ o, ¬ (G.add e3 ⟨0, .list (ds.map encD)⟩) pid o := fun o q => q.elim (hG o) fun q => hne q.1.symm
    refine set_idict h6.top (by lia -abstractProof) ?_
    refine hn _ _ (by walk_at "sub") ⟨ns, _, _, putK (1 + (k : Int)) ds P, G.add e3 ⟨0, .list (ds.map encD)⟩, rfl, fun k hk => hns k (.tail _ hk), h6.put hG6, hG6, fun i o q => .inl (hFG i o q), fun i o q => ?_, ?_, fun k' => ?_, ⟨fun k' ds' e => ?_, fun k' ds' e => ?_, fun k' ds' e => ?_⟩, ?_⟩
    · rcases q with q | ⟨rfl, rfl⟩
      · exact hGF i o q
      · exact .inr (by lia -abstractProof)
    · show st.next ≤ s5.next
      lia -abstractProof
    · rw [getK_putK, getK_putK]
      by_cases e : k' = 1 + (k : Int)
      · rw [if_pos e, if_pos e]
        exact ⟨fun q => (by cases q), fun ds' q => by cases q; exact ⟨e3, 0, rfl, .inr ⟨rfl, rfl⟩, by lia -abstractProof⟩⟩
      · rw [if_neg e, if_neg e]
        exact ⟨(hrel k').1, fun ds' q => let ⟨j, v, a, b, c⟩ := (hrel k').2 ds' q; ⟨j, v, a, .inl b, c⟩⟩
    · rw [getK_putK] at e
      by_cases q : k' = 1 + (k : Int)
      · rw [if_pos q] at e; o_facts e; lia -abstractProof
      · rw [if_neg q] at e; exact hP.len k' ds' e
    · rw [getK_putK] at e
      by_cases q : k' = 1 + (k : Int)
      · lia -abstractProof
      · rw [if_neg q] at e; exact hP.num k' ds' e
    · rw [getK_putK] at e
      by_cases q : k' = 1 + (k : Int)
      · rw [if_pos q] at e; o_facts e; rw [q]; exact hds
      · rw [if_neg q] at e; exact hP.good k' ds' e
    · have := length_putK_le (k := 1 + (k : Int)) (v := AVal.obj e3) (l := l)
      lia -abstractProof
  · intro s h_; obtain ⟨ns, vr, l, P, G, hu, hns, h2, hG, hFG, hGF, hn2, hrel, hP, hlen⟩ := h_
    cases ns with
    | cons => o_facts hu
    | nil =>
    refine ⟨rfl, ?_⟩
    skip
    refine q pid P (G.add pid ⟨vr, .idict l⟩) _ (fun i o h => .inl (hFG i o h)) (fun i o h => ?_) h2 ⟨vr, l, ⟨.inr ⟨rfl, rfl⟩, by lia -abstractProof⟩, fun k => ⟨(hrel k).1, fun ds e => let ⟨j, v, a, b, c⟩ := (hrel k).2 ds e; ⟨j, v, a, .inl b, c⟩⟩⟩ hP
    rcases h with h | ⟨rfl, rfl⟩
    · exact hGF _ _ h
    · exact .inr (by lia -abstractProof)
end
end
/-! P23 -/
section
set_option maxRecDepth 100000
set_option autoImplicit false
set_option maxHeartbeats 2000000

/- what the plain law has to give -/
noncomputable def Plain : Prop := ∀ P, PlanOK P → ∃ Inv : Nat → HS → WS → Prop, Inv 18 H0 W0 ∧ (∀ n H W, Inv n H W → SameOK H W ∧ W.tasks.length ≤ 100000) ∧
  ∀ n H W d, Inv (n + 1) H W → GoodD 0 d → ∃ m m' H' W', HRuns P m H [.deed d] H' ∧ WRuns P m' { W with tasks := .deed d :: W.tasks } W' ∧ Inv n H' W'

section
variable {X : HIds} {loc loc' : Loc} {H H' : HS} {Y : WIds} {locw locw' : Loc} {W W' : WS} {F : Frm} {st st' : ASt}
theorem Both.start (r : Rep X loc H F st) (w : RepW Y locw W (fun i o => F i o ∨ frmH X loc H st i o) st') : Both X loc H Y locw W F st' := by
  have ob : ∀ t, (content X loc H t).isSome → st'.Ob (t.id X loc) (st.get (t.id X loc)) := fun t ht => w.frame _ _ (.inr ⟨⟨t, ht, rfl⟩, rfl⟩)
  refine ⟨⟨fun t d hd => ?_, r.inj, fun i o h => w.frame i o (.inl h), r.off⟩, w.mono fun _ _ h => .inl h, fun t t' ht ht' e => w.off _ _ (.inr ⟨⟨t, ht, rfl⟩, rfl⟩) t' ht' e.symm⟩
  have := ob t (by rw [hd]; rfl)
  exact ⟨this.1, by rw [this.2]; exact (r.dat t d hd).2⟩
theorem frmH_AFr (r : Rep X loc H F st) : AFr (fun i o => F i o ∨ frmH X loc H st i o) st := fun i o h => by
  rcases h with h | ⟨⟨t, ht, rfl⟩, rfl⟩
  · exact r.frame i o h
  · refine e1a1 (Option.isSome_iff_exists.mp ht) fun d hd => ?_
    exact ⟨(r.dat t d hd).1, rfl⟩
noncomputable def frmB (X : HIds) (loc : Loc) (H : HS) (Y : WIds) (locw : Loc) (W : WS) (F : Frm) (st : ASt) : Frm := fun i o => F i o ∨ frmH X loc H st i o ∨ frmW Y locw W st i o
theorem Both.toA (b : Both X loc H Y locw W F st) : AFr (frmB X loc H Y locw W F st) st := fun i o h => by
  rcases h with h | ⟨⟨t, ht, rfl⟩, rfl⟩ | ⟨⟨t, ht, rfl⟩, rfl⟩
  · exact b.h.frame i o h
  · refine e1a1 (Option.isSome_iff_exists.mp ht) fun d hd => ?_
    exact ⟨(b.h.dat t d hd).1, rfl⟩
  · refine e1a1 (Option.isSome_iff_exists.mp ht) fun d hd => ?_
    exact ⟨(b.w.dat t d hd).1, rfl⟩
theorem Both.ofA {G : Frm} (b : Both X loc H Y locw W F st) (h : AFr G st') (hG : ∀ i o, frmB X loc H Y locw W F st i o → G i o) : Both X loc H Y locw W (fun i o => F i o ∨ (G i o ∧ st.next ≤ i)) st' := by
  refine ⟨⟨fun t d hd => ?_, b.h.inj, fun i o q => ?_, fun i o q t ht e => ?_⟩, ⟨fun t d hd => ?_, b.w.inj, fun i o q => ?_, fun i o q t ht e => ?_⟩, b.apart⟩
  · have := h _ _ (hG _ _ (.inr (.inl ⟨⟨t, by rw [hd]; rfl, rfl⟩, rfl⟩)))
    exact ⟨this.1, by rw [this.2]; exact (b.h.dat t d hd).2⟩
  · exact q.elim (fun q => h _ _ (hG _ _ (.inl q))) fun q => h _ _ q.1
  · rcases q with q | q
    · exact b.h.off i o q t ht e
    · refine e1a1 (Option.isSome_iff_exists.mp ht) fun d hd => ?_
      have := (b.h.dat t d hd).1
      lia -abstractProof
  · have := h _ _ (hG _ _ (.inr (.inr ⟨⟨t, by rw [hd]; rfl, rfl⟩, rfl⟩)))
    exact ⟨this.1, by rw [this.2]; exact (b.w.dat t d hd).2⟩
  · exact q.elim (fun q => h _ _ (hG _ _ (.inl q))) fun q => h _ _ q.1
  · rcases q with q | q
    · exact b.w.off i o q t ht e
    · refine e1a1 (Option.isSome_iff_exists.mp ht) fun d hd => ?_
      have := (b.w.dat t d hd).1
      lia -abstractProof
/- the plan comes into the heap -/
theorem set_planB {pid : Nat} {U : Unit → ASt → Prop} (b : Both X loc H Y locw W F st) (q : ∀ st', Both { X with plan := pid } loc H Y locw W F st' → U () st') : wp (attrSet (.inst "Counted" X.root) "plan" (.obj pid)) st U := by
  refine attr_set rfl b.h.root (by show (9 : Nat) ≤ 100; decide) (q _ ?_)
  have e : ∀ t : Tag, t.id { X with plan := pid } loc = t.id X loc := fun t => by cases t <;> rfl
  have ec : ∀ t : Tag, t ≠ .root → content { X with plan := pid } loc H t = content X loc H t := fun t ht => by
    cases t <;> first | rfl | exact absurd rfl ht
  have live : ∀ t : Tag, (content { X with plan := pid } loc H t).isSome → (content X loc H t).isSome := fun t ht => by
    cases t <;> first | rfl | exact ht
  refine ⟨⟨fun t d hd => ?_, fun t t' ht ht' q => b.h.inj t t' (live t ht) (live t' ht') (by rw [← e, ← e]; exact q), fun i o q => ?_, fun i o q t ht => by rw [e]; exact b.h.off i o q t (live t ht)⟩, ⟨fun t d hd => ?_, b.w.inj, fun i o q => ?_, b.w.off⟩, fun t t' ht ht' => by rw [e]; exact b.apart t t' (live t ht) ht'⟩
  · rw [e]
    by_cases q : t = .root
    · subst q; o_facts hd
      exact At_put_self b.h.root.1
    · rw [ec t q] at hd
      exact At_put_ne (b.h.dat t d hd) fun e => q (b.h.inj t .root (by rw [hd]; rfl) rfl e)
  · exact Ob_put_ne (b.h.frame i o q) fun e => b.h.off i o q .root rfl e.symm
  · exact At_put_ne (b.w.dat t d hd) fun e => b.apart .root t rfl (by rw [hd]; rfl) e.symm
  · exact Ob_put_ne (b.w.frame i o q) fun e => b.h.off i o q .root rfl e.symm
end

noncomputable def lawRest2 : List Stmt := ((fnOfTab "law").map fun d => d.body.drop 1).getD []
noncomputable def lawScope2 : Scope := ((fnOfTab "law").map fun d => d.scope).getD default
section
variable {n : Nat} {st : ASt} {B : Bool → ASt → Prop}
theorem law_start {nm : Str} {pr : Arguments} {s0 : Stmt} {bd : List Stmt} {sc : Scope} {ps : Pos} {vars : List (Str × AVal)} {P : Out → ASt → Prop} (h : tabOf "law" = some ⟨nm, pr, s0 :: bd, sc, ps⟩) (k : (exs (R n) bd { sc := sc, vars := vars }) st P) : (exs (R n) lawRest2 { sc := lawScope2, vars := vars }) st P := by
  have h := (tabOf_eq _).trans h
  have e1 : lawRest2 = bd := by unfold lawRest2; rw [h]; rfl
  have e2 : lawScope2 = sc := by unfold lawScope2; rw [h]; rfl
  rw [e1, e2]; exact k

theorem law_ok (S : Plain) {xs : List Int} (hz : xs.length ≤ 63) : (exs (R 60) lawRest2 { sc := lawScope2, vars := [("script", .obj 0)] }) { next := 1, get := fun _ => ⟨0, .list (xs.map AVal.int)⟩ } fun x _ => x = .ret (.bool true) := by
  refine law_start (by rfl) ?_
  generalize hst : ({ next := 1, get := fun _ => ⟨0, .list (xs.map AVal.int)⟩ } : ASt) = st0
  have hA : AFr (fun i o => i = 0 ∧ o = ⟨0, .list (xs.map AVal.int)⟩) st0 := by
    intro i o h_; obtain ⟨rfl, rfl⟩ := h_
    subst hst
    exact ⟨Nat.zero_lt_one, rfl⟩
  walk_at "stop"
  refine ok_Counted hA fun X loc st1 r1 big1 n1 => ?_
  walk_at "stop"
  refine ok_world (frmH_AFr r1) fun Y locw st2 w2 big2 n2 => ?_
  have b2 := Both.start r1 w2
  walk_at "stop"
  refine ok_plan b2.toA (sid := 0) (vs := 0) (.inl ⟨rfl, rfl⟩) hz fun pid P F' st3 hF1 hF2 hA3 hP hPO => ?_
  have b3 := b2.ofA hA3 hF1
  have hP3 : PlanAt (fun i o => (i = 0 ∧ o = ⟨0, .list (xs.map AVal.int)⟩) ∨ (F' i o ∧ st2.next ≤ i)) pid P := hP.mono fun i o h => .inr h
  walk_at "stop"
  refine set_planB b3 fun st4 b4 => ?_
  generalize hX : ({ X with plan := pid } : HIds) = X4 at b4
  have hroot : X.root = X4.root := by rw [← hX]
  have hpl : pid = X4.plan := by rw [← hX]
  rw [hroot]
  rw [hpl] at hP3
  obtain ⟨F4, hF4⟩ : ∃ F4 : Frm, F4 = fun i o => (i = 0 ∧ o = (⟨0, .list (xs.map AVal.int)⟩ : AObj)) ∨ (F' i o ∧ st2.next ≤ i) := ⟨_, rfl⟩
  rw [← hF4] at b4 hP3
  have hsc : F4 0 ⟨0, .list (xs.map AVal.int)⟩ := by rw [hF4]; exact .inl ⟨rfl, rfl⟩
  refine e1a3 (S P hPO) fun Inv hI0 hI1 hI2 => ?_
  walk_at "stop"
  refine ok_told ?_
  refine wp_newB b4 fun lid st5 b5 hF5 _ => ?_
  have r5 := b5.h
  with_unfolding_all refine isL_at (Rep.top ‹_›) ?_
  with_unfolding_all refine its_enum (Rep.top ‹_›) ?_
  walk_at "stop"
  have hw5 : ∀ s : ASt, s.Ob lid ⟨0, .list (told.map AVal.int)⟩ → (Src.enum lid).watch s = (Src.enum lid).watch st5 := fun s hs => by
    show (s.get lid).ver = (st5.get lid).ver
    rw [hs.2, (b5.h.frame _ _ (.inr ⟨rfl, rfl⟩)).2]
  refine forLoop_at (fun us s => ∃ H W loc locw, Both X4 loc H Y locw W (Frm.add F4 lid ⟨0, .list (told.map AVal.int)⟩) s ∧ Inv (us.length + 4) H W ∧ ∀ u ∈ us, ∃ (k : Nat) (t : Int), u = .tup [.int k, .int t] ∧ k < 1000) ⟨_, _, _, _, b5, hI0, fun u hu => ?_⟩ ?_ ?_
  · obtain ⟨⟨pv, pk⟩, hp, rfl⟩ := List.mem_map.mp hu
    have hpx := List.mem_zipIdx hp
    rw [List.length_map] at hpx
    have h2 := hpx.2.2
    rw [List.getElem_map] at h2
    refine ⟨pk, _, by rw [h2], ?_⟩
    have : told.length = 14 := rfl
    lia -abstractProof
  · intro u us s h_; refine e4a3 (h_) fun H W loc locw b6 hI hu => ?_
    refine e2a2 (hu u (.head _)) fun k t e2_ hk => ?_; subst e2_
    have r6 := b6.h
    have hs6 : s.At 0 (.list (xs.map AVal.int)) := (r6.frame _ _ (.inl hsc)).at
    refine ⟨hw5 _ (r6.frame _ _ (.inr ⟨rfl, rfl⟩)), fun K hn _ => ?_⟩
    walk_at "stop"
    refine len_list hs6 (by rw [List.length_map]; lia -abstractProof) ?_
    have hI3 : Inv (us.length + 4 + 1) H W := by
      have h := hI
      rw [List.length_cons, Nat.add_right_comm] at h
      exact h
    have hP6 : PlanAt (Frm.add F4 lid ⟨0, .list (told.map AVal.int)⟩) X4.plan P := hP3.add
    by_cases hk2 : (k : Int) < ((xs.map AVal.int).length : Int)
    · refine br_t (decide_eq_true hk2) ?_
      rw [List.length_map] at hk2
      obtain ⟨y, hy⟩ : ∃ y, (xs.map AVal.int)[((k : Nat) : Int).toNat]? = some (.int y) := by
        have hlt : k < xs.length := by lia -abstractProof
        refine ⟨xs[k], ?_⟩
        rw [Int.toNat_natCast, List.getElem?_map, List.getElem?_eq_getElem hlt]; rfl
      walk_at "stop"
      refine item_list hs6 ⟨by lia -abstractProof, by lia -abstractProof⟩ hy ?_
      walk_at "stop"
      refine ok_law_deed_n fun d hd => ?_
      walk_at "stop"
      refine e4a3 (hI2 _ H W d hI3 hd) fun m m' H' W' hr wr hI' => ?_
      refine both_do_deed b6 hP6 hr fun loc7 s7 b7 => ?_
      have r7 := b7.h
      have w7 := b7.w
      with_unfolding_all refine attr_get rfl (Rep.root ‹_›) rfl ?_
      walk_at "stop"
      refine both_done b7 hP6 (hI1 _ _ _ hI).2 wr fun locw8 s8 b8 => ?_
      walk_at "stop"
      refine ok_is_same b8 (hI1 _ _ _ hI').1 fun s9 b9 => ?_
      with_unfolding_all refine br_f rfl ?_
      exact hn _ _ (by walk_at "sub") ⟨_, _, _, _, b9, hI', fun u hu' => hu u (.tail _ hu')⟩
    · refine br_f (decide_eq_false hk2) ?_
      clear hk2
      walk_at "stop"
      refine ok_law_deed_n fun d hd => ?_
      walk_at "stop"
      refine e4a3 (hI2 _ H W d hI3 hd) fun m m' H' W' hr wr hI' => ?_
      refine both_do_deed b6 hP6 hr fun loc7 s7 b7 => ?_
      have r7 := b7.h
      have w7 := b7.w
      with_unfolding_all refine attr_get rfl (Rep.root ‹_›) rfl ?_
      walk_at "stop"
      refine both_done b7 hP6 (hI1 _ _ _ hI).2 wr fun locw8 s8 b8 => ?_
      walk_at "stop"
      refine ok_is_same b8 (hI1 _ _ _ hI').1 fun s9 b9 => ?_
      with_unfolding_all refine br_f rfl ?_
      exact hn _ _ (by walk_at "sub") ⟨_, _, _, _, b9, hI', fun u hu' => hu u (.tail _ hu')⟩
  · intro s h_; refine e4a3 (h_) fun H W loc locw b6 hI hu => ?_
    have hP6 : PlanAt (Frm.add F4 lid ⟨0, .list (told.map AVal.int)⟩) X4.plan P := hP3.add
    refine ⟨hw5 _ (b6.h.frame _ _ (.inr ⟨rfl, rfl⟩)), ?_⟩
    walk_at "stop"
    refine its_range (by decide) ?_
    walk_at "stop"
    refine forLoop_at (fun us s => ∃ H W loc locw, Both X4 loc H Y locw W (Frm.add F4 lid ⟨0, .list (told.map AVal.int)⟩) s ∧ Inv us.length H W ∧ ∀ u ∈ us, ∃ (k : Nat), u = .int (0 + (k : Int))) ⟨_, _, _, _, b6, hI, fun u hu => ?_⟩ ?_ ?_
    · refine e1a2 (List.mem_map.mp hu) fun k _ e2_ => ?_; subst e2_
      exact ⟨k, rfl⟩
    · intro u us s h_; refine e4a3 (h_) fun H W loc locw b6 hI hu => ?_
      refine e1a1 (hu u (.head _)) fun k e1_ => ?_; subst e1_
      refine ⟨rfl, fun K hn _ => ?_⟩
      have r6 := b6.h
      refine e4a3 (hI2 _ H W (.unset (0 + (k : Int))) hI ⟨good1 (by lia -abstractProof), goodk0⟩) fun m m' H' W' hr wr hI' => ?_
      walk_at "stop"
      refine both_do_deed (d := .unset (0 + (k : Int))) b6 hP6 hr fun loc7 s7 b7 => ?_
      have r7 := b7.h
      have w7 := b7.w
      with_unfolding_all refine attr_get rfl (Rep.root ‹_›) rfl ?_
      walk_at "stop"
      refine both_done (d := .unset (0 + (k : Int))) b7 hP6 (hI1 _ _ _ hI).2 wr fun locw8 s8 b8 => ?_
      skip
      exact hn _ _ (by walk_at "sub") ⟨_, _, _, _, b8, hI', fun u hu' => hu u (.tail _ hu')⟩
    · intro s h_; refine e4a3 (h_) fun H W loc locw b6 hI hu => ?_
      refine ⟨rfl, ?_⟩
      walk_at "stop"
      refine ok_is_same b6 (hI1 _ _ _ hI).1 fun s9 b9 => ?_
      exact rfl
end
end
end Mine
namespace Mine
open PySem PySem.W PyProof.Rows
local macro_rules | `(tactic| o_facts $h) => `(tactic| first | (replace $h:ident := Option.some.inj $h:ident; subst $h:ident) | ((fail_if_success (cases $h:ident; done)); cases $h:ident) | (injection $h:ident; done) | cases $h:ident)
/-! Q1 -/
section
set_option autoImplicit false

/-! sums over the values of a table -/
section
variable {α : Type} {f : α → Nat} {k : Int} {v : α}
noncomputable def sumF (f : α → Nat) : List (Int × α) → Nat
  | [] => 0
  | p :: r => f p.2 + sumF f r
noncomputable def optF (f : α → Nat) : Option α → Nat
  | none => 0
  | some a => f a
theorem sumF_put : ∀ {l : List (Int × α)}, sumF f (putK k v l) + optF f (getK k l) = sumF f l + f v
  | [] => by show f v + 0 + 0 = 0 + f v; lia -abstractProof
  | (j, w) :: r => by
    show sumF f (if j = k then (j, v) :: r else (j, w) :: putK k v r) + optF f (if j = k then some w else getK k r) = f w + sumF f r + f v
    by_cases q : j = k
    · rw [if_pos q, if_pos q]; show f v + sumF f r + f w = _; lia -abstractProof
    · rw [if_neg q, if_neg q]
      have := sumF_put (l := r)
      show f w + sumF f (putK k v r) + optF f (getK k r) = _; lia -abstractProof
theorem getK_none_iff : ∀ {l : List (Int × α)}, getK k l = none ↔ k ∉ l.map (·.1)
  | [] => by simp [getK]
  | (j, w) :: r => by
    show (if j = k then some w else getK k r) = none ↔ _
    rw [List.map_cons, List.mem_cons, not_or, ← getK_none_iff]
    by_cases q : j = k
    · rw [if_pos q]; simp [q]
    · rw [if_neg q]; exact ⟨fun h => ⟨fun e => q e.symm, h⟩, fun h => h.2⟩
theorem getK_some_mem {w : α} {l : List (Int × α)} (h : getK k l = some w) : k ∈ l.map (·.1) := List.mem_map.mpr ⟨_, getK_mem h, rfl⟩
theorem getK_of_mem {w : α} : ∀ {l : List (Int × α)}, (l.map (·.1)).Nodup → (k, w) ∈ l → getK k l = some w
  | (j, u) :: r, nd, h => by
    rw [List.map_cons, List.nodup_cons] at nd
    show (if j = k then some u else getK k r) = _
    rcases List.mem_cons.mp h with h | h
    · o_facts h; rw [if_pos rfl]
    · rw [if_neg (fun e => nd.1 (by rw [e]; exact List.mem_map.mpr ⟨_, h, rfl⟩))]
      exact getK_of_mem nd.2 h
theorem keys_del {l : List (Int × α)} : (delK k l).map (·.1) = (l.map (·.1)).filter fun j => decide (j ≠ k) := by
  unfold delK; rw [List.filter_map]; rfl
theorem keys_put_some {w : α} : ∀ {l : List (Int × α)}, getK k l = some w → (putK k v l).map (·.1) = l.map (·.1)
  | (j, u) :: r, h => by
    show ((if j = k then (j, v) :: r else (j, u) :: putK k v r).map (·.1)) = _
    by_cases q : j = k
    · rw [if_pos q]; rfl
    · rw [getK, if_neg q] at h
      rw [if_neg q, List.map_cons, keys_put_some h]; rfl
theorem keys_put_none {l : List (Int × α)} (h : getK k l = none) : (putK k v l).map (·.1) = l.map (·.1) ++ [k] := by rw [putK_new h, List.map_append]; rfl
theorem nodup_put {l : List (Int × α)} (nd : (l.map (·.1)).Nodup) : ((putK k v l).map (·.1)).Nodup := by
  cases h : getK k l with
  | some w => rw [keys_put_some h]; exact nd
  | none =>
    rw [keys_put_none h, List.nodup_append]
    refine ⟨nd, by simp, fun a ha b hb e => ?_⟩
    rw [List.mem_singleton] at hb
    exact getK_none_iff.mp h (by rw [← hb, ← e]; exact ha)
theorem nodup_del {l : List (Int × α)} (nd : (l.map (·.1)).Nodup) : ((delK k l).map (·.1)).Nodup := by
  rw [keys_del]; exact nd.filter _
theorem delK_none {l : List (Int × α)} (h : getK k l = none) : delK k l = l := by
  unfold delK
  rw [List.filter_eq_self]
  intro p hp
  have := getK_none_iff.mp h
  simp only [decide_eq_true_eq]
  exact fun e => this (by rw [← e]; exact List.mem_map.mpr ⟨p, hp, rfl⟩)
theorem sumF_del : ∀ {l : List (Int × α)}, (l.map (·.1)).Nodup → sumF f (delK k l) + optF f (getK k l) = sumF f l
  | [], _ => rfl
  | (j, w) :: r, nd => by
    rw [List.map_cons, List.nodup_cons] at nd
    have ih := sumF_del (l := r) nd.2
    by_cases q : j = k
    · have e : delK k ((j, w) :: r) = r := by
        unfold delK
        rw [List.filter_cons_of_neg (by simpa using q)]
        exact delK_none (getK_none_iff.mpr (by rw [← q]; exact nd.1))
      rw [e, getK, if_pos q]; show sumF f r + f w = f w + sumF f r; lia -abstractProof
    · have e : delK k ((j, w) :: r) = (j, w) :: delK k r := by
        unfold delK
        rw [List.filter_cons_of_pos (by simpa using q)]
      rw [e, getK, if_neg q]; show f w + sumF f (delK k r) + optF f (getK k r) = f w + sumF f r; lia -abstractProof
theorem sumF_get {w : α} {l : List (Int × α)} (h : getK k l = some w) : f w ≤ sumF f l := by
  have := sumF_put (f := f) (k := k) (v := w) (l := l)
  rw [h, putK_old h] at this
  have e : optF f (some w) = f w := rfl
  have e2 : ∀ {l : List (Int × α)}, getK k l = some w → f w ≤ sumF f l := fun {l} => by
    induction l with
    | nil => intro h; o_facts h
    | cons p r ih =>
      obtain ⟨j, u⟩ := p
      intro h
      show f w ≤ f u + sumF f r
      by_cases q : j = k
      · rw [getK, if_pos q] at h; o_facts h; lia -abstractProof
      · rw [getK, if_neg q] at h; have := ih h; lia -abstractProof
  exact e2 h
theorem sumF_pos : ∀ {l : List (Int × α)}, sumF f l > 0 → ∃ p ∈ l, f p.2 > 0
  | [], h => absurd h (Nat.lt_irrefl _)
  | p :: r, h => by
    by_cases q : f p.2 > 0
    · exact ⟨p, .head _, q⟩
    · have : sumF f r > 0 := by
        have : f p.2 + sumF f r > 0 := h
        lia -abstractProof
      refine e1a2 (sumF_pos this) fun p' h1 h2 => ?_
      exact ⟨p', .tail _ h1, h2⟩
theorem sumF_congr {g : α → Nat} : ∀ {l : List (Int × α)}, (∀ p ∈ l, f p.2 = g p.2) → sumF f l = sumF g l
  | [], _ => rfl
  | p :: r, h => by
    show f p.2 + sumF f r = g p.2 + sumF g r
    rw [h p (.head _), sumF_congr fun q hq => h q (.tail _ hq)]
theorem sumF_map {β : Type} {g : β → α} : ∀ {l : List (Int × β)}, sumF f (l.map fun p => (p.1, g p.2)) = sumF (fun b => f (g b)) l
  | [] => rfl
  | p :: r => by show f (g p.2) + _ = f (g p.2) + _; rw [sumF_map]
theorem len_sumF : ∀ {l : List (Int × α)}, l.length = sumF (fun _ => 1) l
  | [] => rfl
  | _ :: r => by
    show r.length + 1 = 1 + sumF _ r
    rw [len_sumF (l := r)]; lia -abstractProof
theorem sumF_le {m : Nat} : ∀ {l : List (Int × α)}, (∀ p ∈ l, f p.2 ≤ m) → sumF f l ≤ m * l.length
  | [], _ => Nat.zero_le _
  | p :: r, h => by
    have h1 := h p (.head _)
    have h2 := sumF_le (l := r) fun q hq => h q (.tail _ hq)
    show f p.2 + sumF f r ≤ m * (r.length + 1)
    rw [Nat.mul_succ]; lia -abstractProof
end

/-! counting -/
noncomputable def one (v : V) (n : Int) : Nat := if v = .cell n then 1 else 0
noncomputable def cntL (n : Int) (l : List (Int × V)) : Nat := sumF (fun v => one v n) l
noncomputable def cntH (n : Int) (H : HS) : Nat := cntL n H.vars + sumF (fun c => cntL n c.slots) H.cells
noncomputable def oneO (o : Option V) (n : Int) : Nat := optF (fun v => one v n) o
noncomputable def C.due (c : C) : Bool := c.hasD && !c.isD
noncomputable def HS.Due (H : HS) (m : Int) : Prop := ∃ c, getK m H.cells = some c ∧ c.due = true
noncomputable def HS.E (H : HS) : Nat := H.vars.length + sumF (fun c => c.slots.length) H.cells
noncomputable def HS.nr (H : HS) : Nat := sumF (fun c => if c.sort = .ref then 0 else 1) H.cells
noncomputable def HS.dn (H : HS) : Nat := sumF (fun c => if c.due = true then 1 else 0) H.cells
theorem one_int {i n : Int} : one (.int i) n = 0 := rfl
theorem one_self {n : Int} : one (.cell n) n = 1 := if_pos rfl
theorem one_ne {n m : Int} (h : m ≠ n) : one (.cell m) n = 0 := if_neg fun e => h (by o_facts e; rfl)
theorem one_pos {v : V} {n : Int} (h : one v n > 0) : v = .cell n := by
  unfold one at h; split at h
  · assumption
  · lia -abstractProof

/- the counted heap in order: x n are the holders of n that are neither names nor slots -/
structure HI (H : HS) (x : Int → Nat) : Prop where
  asc : (H.cells.map (·.1)).Pairwise (· < ·)
  rng : ∀ n c, getK n H.cells = some c → 1 ≤ n ∧ n ≤ H.last
  lst : 0 ≤ H.last
  vnd : (H.vars.map (·.1)).Nodup
  snd : ∀ n c, getK n H.cells = some c → (c.slots.map (·.1)).Nodup
  skey : ∀ n c k v, getK n H.cells = some c → getK k c.slots = some v → 0 ≤ k ∧ k ≤ 2
  cnt : ∀ n c, getK n H.cells = some c → c.count = ((cntH n H + x n : Nat) : Int)
  live : ∀ n, cntH n H + x n > 0 → (getK n H.cells).isSome
  ref : ∀ n c, getK n H.cells = some c → c.sort = .ref → ∃ v, c.slots = [(0, v)] ∧ H.isRef v = false
  bnd : H.buffer.Nodup
  buf : ∀ n, n ∈ H.buffer ↔ ∃ c, getK n H.cells = some c ∧ c.buf = true
  bref : ∀ n c, getK n H.cells = some c → c.buf = true → c.sort ≠ .ref
  neg : ∀ m, 1 ≤ m → (getK (-m) H.vars).isSome → m ≤ H.last ∧ ¬ H.Due m

theorem HI.congr {H : HS} {x y : Int → Nat} (h : HI H x) (e : ∀ n, x n = y n) : HI H y := by
  have : x = y := funext e
  exact this ▸ h
theorem HI.cnd {H : HS} {x : Int → Nat} (h : HI H x) : (H.cells.map (·.1)).Nodup := h.asc.imp fun h => Int.ne_of_lt h
theorem HI.liveV {H : HS} {x : Int → Nat} (h : HI H x) {k n : Int} (hv : getK k H.vars = some (.cell n)) : (getK n H.cells).isSome := h.live n (by
  have : one (.cell n) n ≤ cntL n H.vars := sumF_get (f := fun v => one v n) hv
  rw [one_self] at this
  unfold cntH; lia -abstractProof)
theorem HI.liveS {H : HS} {x : Int → Nat} (h : HI H x) {m k n : Int} {c : C} (hc : getK m H.cells = some c) (hv : getK k c.slots = some (.cell n)) : (getK n H.cells).isSome := h.live n (by
  have h1 : one (.cell n) n ≤ cntL n c.slots := sumF_get (f := fun v => one v n) hv
  have h2 : cntL n c.slots ≤ sumF (fun c => cntL n c.slots) H.cells := sumF_get (f := fun c : C => cntL n c.slots) hc
  rw [one_self] at h1
  unfold cntH; lia -abstractProof)
theorem HI.liveX {H : HS} {x : Int → Nat} {n : Int} (h : HI H x) (hx : x n > 0) : (getK n H.cells).isSome := h.live n (by lia -abstractProof)

theorem pw_put {l : List (Int × C)} {k : Int} {c : C} (h : (l.map (·.1)).Pairwise (· < ·)) (hk : getK k l = none → ∀ j ∈ l.map (·.1), j < k) : ((putK k c l).map (·.1)).Pairwise (· < ·) := by
  cases e : getK k l with
  | some w => rw [keys_put_some e]; exact h
  | none =>
    rw [keys_put_none e, List.pairwise_append]
    exact ⟨h, by simp, fun a ha b hb => by rw [List.mem_singleton] at hb; subst hb; exact hk e a ha⟩
end
/-! Q2 -/
section
set_option autoImplicit false

section
variable {H : HS} {x y : Int → Nat} {n m k : Int} {c c' : C} {v : V}
theorem getK_setC : getK m (H.setC n c).cells = if m = n then some c else getK m H.cells := getK_putK
theorem cellOf_setC_sort (hc : getK n H.cells = some c) (hs : c'.sort = c.sort) : (H.setC n c').isRef v = H.isRef v := by
  unfold HS.isRef HS.cellOf
  cases v with
  | int i => rfl
  | cell j =>
    show (match getK j (H.setC n c').cells with | some c => decide (c.sort = K.ref) | none => false) = (match getK j H.cells with | some c => decide (c.sort = K.ref) | none => false)
    rw [getK_setC]
    by_cases q : j = n
    · subst q; rw [if_pos rfl, hc]; show decide (c'.sort = .ref) = decide (c.sort = .ref); rw [hs]
    · rw [if_neg q]
theorem sum_setC {f : C → Nat} (hc : getK n H.cells = some c) : sumF f (H.setC n c').cells + f c = sumF f H.cells + f c' := by
  have := sumF_put (f := f) (k := n) (v := c') (l := H.cells)
  rw [hc] at this; exact this
theorem keys_setC (hc : getK n H.cells = some c) : (H.setC n c').cells.map (·.1) = H.cells.map (·.1) := keys_put_some hc

/- a cell keeps its sort; its count and slots change -/
theorem HI.setC (h : HI H x) (hc : getK n H.cells = some c) (hs : c'.sort = c.sort) (hb : c'.buf = c.buf)
    (hnd : (c'.slots.map (·.1)).Nodup) (hk : ∀ k v, getK k c'.slots = some v → 0 ≤ k ∧ k ≤ 2)
    (hr : c.sort = .ref → ∃ v, c'.slots = [(0, v)] ∧ H.isRef v = false)
    (hcnt : c'.count + cntL n c.slots = ((cntH n H + cntL n c'.slots + y n : Nat) : Int)) (hy : ∀ m, cntL m c'.slots + y m = cntL m c.slots + x m ∨ m = n)
    (hlv : y n + cntH n H + cntL n c'.slots > 0 → True)
    (hdue : c'.due = true → c.due = true ∨ getK (-n) H.vars = none) : HI (H.setC n c') y := by
  have hsum : ∀ m, cntH m (H.setC n c') + cntL m c.slots = cntH m H + cntL m c'.slots := fun m => by
    have := sum_setC (f := fun c => cntL m c.slots) (c' := c') hc
    show cntL m H.vars + sumF _ _ + _ = cntL m H.vars + sumF _ _ + _
    lia -abstractProof
  have some_iff : ∀ m, (getK m (H.setC n c').cells).isSome = (getK m H.cells).isSome := fun m => by
    rw [getK_setC]
    by_cases q : m = n
    · subst q; rw [if_pos rfl, hc]; rfl
    · rw [if_neg q]
  refine ⟨by rw [keys_setC hc]; exact h.asc, fun m d hd => ?_, h.lst, h.vnd, fun m d hd => ?_, fun m d k v hd hv => ?_, fun m d hd => ?_, fun m hm => ?_, fun m d hd hds => ?_, h.bnd, fun m => ?_, fun m d hd hdb => ?_, fun m hm hv => ?_⟩
  · rw [getK_setC] at hd
    by_cases q : m = n
    · subst q; exact h.rng m c hc
    · rw [if_neg q] at hd; exact h.rng m d hd
  · rw [getK_setC] at hd
    by_cases q : m = n
    · rw [if_pos q] at hd; o_facts hd; exact hnd
    · rw [if_neg q] at hd; exact h.snd m d hd
  · rw [getK_setC] at hd
    by_cases q : m = n
    · rw [if_pos q] at hd; o_facts hd; exact hk k v hv
    · rw [if_neg q] at hd; exact h.skey m d k v hd hv
  · rw [getK_setC] at hd
    have := hsum m
    by_cases q : m = n
    · subst q; rw [if_pos rfl] at hd; o_facts hd; lia -abstractProof
    · rw [if_neg q] at hd
      have h1 := h.cnt m d hd
      rcases hy m with h2 | h2
      · lia -abstractProof
      · exact absurd h2 q
  · rw [some_iff]
    by_cases q : m = n
    · subst q; rw [hc]; rfl
    · refine h.live m ?_
      have := hsum m
      rcases hy m with h2 | h2
      · lia -abstractProof
      · exact absurd h2 q
  · rw [getK_setC] at hd
    by_cases q : m = n
    · rw [if_pos q] at hd; o_facts hd
      refine e1a2 (hr (hs ▸ hds)) fun v h1 h2 => ?_
      exact ⟨v, h1, by rw [cellOf_setC_sort hc hs]; exact h2⟩
    · rw [if_neg q] at hd
      refine e1a2 (h.ref m d hd hds) fun v h1 h2 => ?_
      exact ⟨v, h1, by rw [cellOf_setC_sort hc hs]; exact h2⟩
  · rw [show (H.setC n c').buffer = H.buffer from rfl, h.buf m]
    constructor
    · intro  h_; refine e1a2 (h_) fun d h1 h2 => ?_
      by_cases q : m = n
      · subst q; rw [hc] at h1; o_facts h1
        exact ⟨c', by rw [getK_setC, if_pos rfl], by rw [hb]; exact h2⟩
      · exact ⟨d, by rw [getK_setC, if_neg q]; exact h1, h2⟩
    · intro  h_; refine e1a2 (h_) fun d h1 h2 => ?_
      rw [getK_setC] at h1
      by_cases q : m = n
      · subst q; rw [if_pos rfl] at h1; o_facts h1
        exact ⟨c, hc, by rw [← hb]; exact h2⟩
      · rw [if_neg q] at h1; exact ⟨d, h1, h2⟩
  · rw [getK_setC] at hd
    by_cases q : m = n
    · rw [if_pos q] at hd; o_facts hd
      rw [hs]; exact h.bref n c hc (by rw [← hb]; exact hdb)
    · rw [if_neg q] at hd; exact h.bref m d hd hdb
  · refine e0a2 (h.neg m hm hv) fun h1 h2 => ?_
    refine ⟨h1, fun ⟨d, hd, hdd⟩ => ?_⟩
    rw [getK_setC] at hd
    by_cases q : m = n
    · subst q; rw [if_pos rfl] at hd; o_facts hd
      rcases hdue hdd with h3 | h3
      · exact h2 ⟨c, hc, h3⟩
      · have hv : (getK (-m) H.vars).isSome = true := hv
        rw [h3] at hv; o_facts hv
    · rw [if_neg q] at hd; exact h2 ⟨d, hd, hdd⟩

/- the count alone -/
theorem HI.setCount (h : HI H x) (hc : getK n H.cells = some c) (hs : c'.sort = c.sort) (hl : c'.slots = c.slots) (hb : c'.buf = c.buf)
    (hcnt : c'.count = ((cntH n H + y n : Nat) : Int)) (hy : ∀ m, m ≠ n → y m = x m) (hdue : c'.due = true → c.due = true ∨ getK (-n) H.vars = none) : HI (H.setC n c') y := by
  refine h.setC hc hs hb (by rw [hl]; exact h.snd n c hc) (fun k v hv => h.skey n c k v hc (by rw [← hl]; exact hv)) (fun q => by rw [hl]; exact h.ref n c hc q) (by rw [hl]; lia -abstractProof) (fun m => ?_) (fun _ => trivial) hdue
  by_cases q : m = n
  · exact .inr q
  · exact .inl (by rw [hl, hy m q])

/- the names change -/
theorem HI.setVars {l : List (Int × V)} (h : HI H x) (hnd : (l.map (·.1)).Nodup) (hc : ∀ m, cntL m l + y m = cntL m H.vars + x m)
    (hneg : ∀ m, 1 ≤ m → (getK (-m) l).isSome → m ≤ H.last ∧ ¬ H.Due m) : HI { H with vars := l } y := by
  have e : ∀ m, cntH m { H with vars := l } + y m = cntH m H + x m := fun m => by
    have := hc m
    show cntL m l + sumF (fun c => cntL m c.slots) H.cells + _ = cntL m H.vars + sumF (fun c => cntL m c.slots) H.cells + _
    lia -abstractProof
  refine ⟨h.asc, h.rng, h.lst, hnd, h.snd, h.skey, fun m d hd => ?_, fun m hm => h.live m (by rw [← e m]; exact hm), h.ref, h.bnd, h.buf, h.bref, hneg⟩
  have := e m
  have := h.cnt m d hd
  lia -abstractProof

/- a new cell, and the names with it -/
theorem HI.add {l : List (Int × V)} (h : HI H x) (hb : c.buf = false)
    (hsnd : (c.slots.map (·.1)).Nodup) (hk : ∀ k v, getK k c.slots = some v → 0 ≤ k ∧ k ≤ 2) (hr : c.sort = .ref → ∃ v, c.slots = [(0, v)] ∧ H.isRef v = false) (hsl : cntL (H.last + 1) c.slots = 0)
    (hnd : (l.map (·.1)).Nodup) (hcn : c.count = ((cntL (H.last + 1) l + y (H.last + 1) : Nat) : Int)) (hc : ∀ m, m ≠ H.last + 1 → cntL m l + cntL m c.slots + y m = cntL m H.vars + x m)
    (hneg : ∀ m, 1 ≤ m → (getK (-m) l).isSome → m ≤ H.last ∧ ¬ H.Due m) : HI { H with cells := putK (H.last + 1) c H.cells, vars := l, last := H.last + 1 } y := by
  have hnone : getK (H.last + 1) H.cells = none := by
    cases e : getK (H.last + 1) H.cells with
    | none => rfl
    | some d => have := h.rng _ d e; lia -abstractProof
  have hz : cntH (H.last + 1) H + x (H.last + 1) = 0 := by
    by_cases q : cntH (H.last + 1) H + x (H.last + 1) > 0
    · have := h.live _ q; rw [hnone] at this; cases this
    · lia -abstractProof
  have hg : ∀ m, getK m (putK (H.last + 1) c H.cells) = if m = H.last + 1 then some c else getK m H.cells := fun m => getK_putK
  have hsum : ∀ m, sumF (fun c => cntL m c.slots) (putK (H.last + 1) c H.cells) = sumF (fun c => cntL m c.slots) H.cells + cntL m c.slots := fun m => by
    have := sumF_put (f := fun c : C => cntL m c.slots) (k := H.last + 1) (v := c) (l := H.cells)
    rw [hnone] at this; exact this
  have hcells0 : sumF (fun c => cntL (H.last + 1) c.slots) H.cells = 0 := by unfold cntH at hz; lia -abstractProof
  have isr : ∀ v d, H.isRef v = d → (∀ j, v = .cell j → (getK j H.cells).isSome) → ({ H with cells := putK (H.last + 1) c H.cells, vars := l, last := H.last + 1 } : HS).isRef v = d := fun v d e hl => by
    rw [← e]
    unfold HS.isRef HS.cellOf
    cases v with
    | int i => rfl
    | cell j =>
      show (match getK j (putK (H.last + 1) c H.cells) with | some c => decide (c.sort = K.ref) | none => false) = (match getK j H.cells with | some c => decide (c.sort = K.ref) | none => false)
      rw [hg]
      by_cases q : j = H.last + 1
      · have := hl j rfl; rw [q, hnone] at this; cases this
      · rw [if_neg q]
  have hlv : ∀ m, m ≠ H.last + 1 → (getK m H.cells).isSome → (getK m (putK (H.last + 1) c H.cells)).isSome := fun m q hm => by rw [hg, if_neg q]; exact hm
  have tot : ∀ m, cntH m ({ H with cells := putK (H.last + 1) c H.cells, vars := l, last := H.last + 1 } : HS) + y m = if m = H.last + 1 then cntL m l + y m else cntH m H + x m := fun m => by
    have h1 := hsum m
    show cntL m l + sumF (fun c => cntL m c.slots) (putK (H.last + 1) c H.cells) + y m = _
    by_cases q : m = H.last + 1
    · subst q; rw [if_pos rfl, h1, hcells0, hsl]; lia -abstractProof
    · rw [if_neg q, h1]; have := hc m q
      show _ = cntL m H.vars + sumF _ _ + _; lia -abstractProof
  refine ⟨pw_put h.asc fun _ j hj => ?_, fun m d hd => ?_, ?_, hnd, fun m d hd => ?_, fun m d k v hd hv => ?_, fun m d hd => ?_, fun m hm => ?_, fun m d hd hds => ?_, h.bnd, fun m => ?_, fun m d hd hdb => ?_, fun m hm hv => ?_⟩
  · refine e1a2 (List.mem_map.mp hj) fun p hp e2_ => ?_; subst e2_
    have := (h.rng p.1 p.2 (getK_of_mem h.cnd hp)).2
    lia -abstractProof
  · have hd : getK m (putK (H.last + 1) c H.cells) = some d := hd
    rw [hg] at hd
    show 1 ≤ m ∧ m ≤ H.last + 1
    by_cases q : m = H.last + 1
    · have := h.lst; lia -abstractProof
    · rw [if_neg q] at hd; have := h.rng m d hd; lia -abstractProof
  · show 0 ≤ H.last + 1
    have := h.lst; lia -abstractProof
  · have hd : getK m (putK (H.last + 1) c H.cells) = some d := hd
    rw [hg] at hd
    by_cases q : m = H.last + 1
    · rw [if_pos q] at hd; o_facts hd; exact hsnd
    · rw [if_neg q] at hd; exact h.snd m d hd
  · have hd : getK m (putK (H.last + 1) c H.cells) = some d := hd
    rw [hg] at hd
    by_cases q : m = H.last + 1
    · rw [if_pos q] at hd; o_facts hd; exact hk k v hv
    · rw [if_neg q] at hd; exact h.skey m d k v hd hv
  · have hd : getK m (putK (H.last + 1) c H.cells) = some d := hd
    rw [hg] at hd
    rw [tot m]
    by_cases q : m = H.last + 1
    · rw [if_pos q] at hd; o_facts hd
      rw [if_pos q, q]; exact hcn
    · rw [if_neg q] at hd
      rw [if_neg q]; exact h.cnt m d hd
  · rw [tot m] at hm
    show (getK m (putK (H.last + 1) c H.cells)).isSome = true
    by_cases q : m = H.last + 1
    · rw [hg, if_pos q]; rfl
    · rw [if_neg q] at hm; exact hlv m q (h.live m hm)
  · have hd : getK m (putK (H.last + 1) c H.cells) = some d := hd
    rw [hg] at hd
    by_cases q : m = H.last + 1
    · rw [if_pos q] at hd; o_facts hd
      refine e1a2 (hr hds) fun v h1 h2 => ?_
      refine ⟨v, h1, isr v false h2 fun j hj => ?_⟩
      subst hj
      by_cases q2 : j = H.last + 1
      · subst q2
        rw [h1] at hsl
        have : one (.cell (H.last + 1)) (H.last + 1) + 0 = 0 := hsl
        rw [one_self] at this; lia -abstractProof
      · refine h.live j ?_
        have h4 := hc j q2
        rw [h1] at h4
        have h5 : cntL j [((0 : Int), V.cell j)] = 1 := by show one (.cell j) j + 0 = 1; rw [one_self]
        unfold cntH; lia -abstractProof
    · rw [if_neg q] at hd
      refine e1a2 (h.ref m d hd hds) fun v h1 h2 => ?_
      refine ⟨v, h1, isr v false h2 fun j hj => ?_⟩
      subst hj
      exact h.liveS hd (k := 0) (by rw [h1]; rfl)
  · show m ∈ H.buffer ↔ ∃ d, getK m (putK (H.last + 1) c H.cells) = some d ∧ d.buf = true
    rw [h.buf m, hg]
    by_cases q : m = H.last + 1
    · rw [if_pos q]
      constructor
      · rintro ⟨d, h1, _⟩; rw [q, hnone] at h1; o_facts h1
      · rintro ⟨d, h1, h2⟩; o_facts h1; rw [hb] at h2; o_facts h2
    · rw [if_neg q]
  · have hd : getK m (putK (H.last + 1) c H.cells) = some d := hd
    rw [hg] at hd
    by_cases q : m = H.last + 1
    · rw [if_pos q] at hd; o_facts hd; rw [hb] at hdb; o_facts hdb
    · rw [if_neg q] at hd; exact h.bref m d hd hdb
  · refine e0a2 (hneg m hm hv) fun h1 h2 => ?_
    refine ⟨by show m ≤ H.last + 1; lia -abstractProof, fun ⟨d, hd, hdd⟩ => h2 ?_⟩
    have hd : getK m (putK (H.last + 1) c H.cells) = some d := hd
    rw [hg, if_neg (by lia -abstractProof)] at hd
    exact ⟨d, hd, hdd⟩

/- a cell goes -/
theorem HI.del {g : List L} {fr : Int} (h : HI H x) (hc : getK n H.cells = some c) (hz : cntH n H + x n = 0) : HI { H with cells := delK n H.cells, buffer := H.buffer.erase n, freed := fr, log := g } (fun m => x m + cntL m c.slots) := by
  have hg : ∀ m, getK m (delK n H.cells) = if m = n then none else getK m H.cells := fun m => getK_delK
  have hsum : ∀ m, sumF (fun c => cntL m c.slots) (delK n H.cells) + cntL m c.slots = sumF (fun c => cntL m c.slots) H.cells := fun m => by
    have := sumF_del (f := fun c : C => cntL m c.slots) (k := n) h.cnd
    rw [hc] at this; exact this
  have tot : ∀ m, cntH m ({ H with cells := delK n H.cells, buffer := H.buffer.erase n, freed := fr, log := g } : HS) + (x m + cntL m c.slots) = cntH m H + x m := fun m => by
    have := hsum m
    show cntL m H.vars + sumF (fun c => cntL m c.slots) (delK n H.cells) + _ = cntL m H.vars + sumF _ _ + _
    lia -abstractProof
  have notn : ∀ m, cntH m H + x m > 0 → m ≠ n := fun m hm q => by subst q; lia -abstractProof
  have isr : ∀ v, (∀ j, v = .cell j → j ≠ n) → ({ H with cells := delK n H.cells, buffer := H.buffer.erase n, freed := fr, log := g } : HS).isRef v = H.isRef v := fun v hv => by
    unfold HS.isRef HS.cellOf
    cases v with
    | int i => rfl
    | cell j =>
      show (match getK j (delK n H.cells) with | some c => decide (c.sort = K.ref) | none => false) = (match getK j H.cells with | some c => decide (c.sort = K.ref) | none => false)
      rw [hg, if_neg (hv j rfl)]
  have sub : ∀ m d, getK m (delK n H.cells) = some d → getK m H.cells = some d ∧ m ≠ n := fun m d hd => by
    rw [hg] at hd
    by_cases q : m = n
    · rw [if_pos q] at hd; o_facts hd
    · rw [if_neg q] at hd; exact ⟨hd, q⟩
  refine ⟨?_, fun m d hd => h.rng m d (sub m d hd).1, h.lst, h.vnd, fun m d hd => h.snd m d (sub m d hd).1, fun m d k v hd hv => h.skey m d k v (sub m d hd).1 hv, fun m d hd => ?_, fun m hm => ?_, fun m d hd hds => ?_, h.bnd.erase n, fun m => ?_, fun m d hd hdb => h.bref m d (sub m d hd).1 hdb, fun m hm hv => ?_⟩
  · show ((delK n H.cells).map (·.1)).Pairwise _
    rw [keys_del]; exact h.asc.filter _
  · rw [tot m]; exact h.cnt m d (sub m d hd).1
  · rw [tot m] at hm
    show (getK m (delK n H.cells)).isSome = true
    rw [hg, if_neg (notn m hm)]; exact h.live m hm
  · refine e0a2 (sub m d hd) fun h1 h2 => ?_
    refine e1a2 (h.ref m d h1 hds) fun v h3 h4 => ?_
    refine ⟨v, h3, ?_⟩
    rw [isr v fun j hj => ?_]
    · exact h4
    · subst hj
      refine notn j ?_
      have h5 : one (.cell j) j ≤ cntL j d.slots := sumF_get (f := fun v => one v j) (k := 0) (by rw [h3]; rfl)
      have h6 : cntL j d.slots ≤ sumF (fun c => cntL j c.slots) H.cells := sumF_get (f := fun c : C => cntL j c.slots) h1
      rw [one_self] at h5
      unfold cntH; lia -abstractProof
  · show m ∈ H.buffer.erase n ↔ ∃ d, getK m (delK n H.cells) = some d ∧ d.buf = true
    rw [List.Nodup.mem_erase_iff h.bnd, h.buf m, hg]
    by_cases q : m = n
    · rw [if_pos q]
      exact ⟨fun h => absurd q h.1, fun ⟨_, h, _⟩ => by o_facts h⟩
    · rw [if_neg q]
      exact ⟨fun h => h.2, fun h => ⟨q, h⟩⟩
  · refine e0a2 (h.neg m hm hv) fun h1 h2 => ?_
    exact ⟨h1, fun ⟨d, hd, hdd⟩ => h2 ⟨d, (sub m d hd).1, hdd⟩⟩

/- a cell comes into the buffer -/
theorem HI.mark {cl : Str} (h : HI H x) (hc : getK n H.cells = some c) (hb : c.buf = false) (hr : c.sort ≠ .ref) : HI { H.setC n { c with colour := cl, buf := true } with buffer := H.buffer ++ [n] } x := by
  have hg : ∀ m, getK m (putK n { c with colour := cl, buf := true } H.cells) = if m = n then some { c with colour := cl, buf := true } else getK m H.cells := fun m => getK_putK
  have hnb : n ∉ H.buffer := fun q => by
    refine e1a2 ((h.buf n).mp q) fun d h1 h2 => ?_
    rw [hc] at h1; o_facts h1; rw [hb] at h2; o_facts h2
  have hsum : ∀ m, cntH m ({ H.setC n { c with colour := cl, buf := true } with buffer := H.buffer ++ [n] } : HS) = cntH m H := fun m => by
    have := sum_setC (f := fun c => cntL m c.slots) (c' := { c with colour := cl, buf := true }) hc
    show cntL m H.vars + sumF _ (putK n _ H.cells) = cntL m H.vars + sumF _ _
    have this : sumF (fun c => cntL m c.slots) (putK n { c with colour := cl, buf := true } H.cells) + cntL m c.slots = sumF (fun c => cntL m c.slots) H.cells + cntL m c.slots := this
    lia -abstractProof
  have get : ∀ m d, getK m (putK n { c with colour := cl, buf := true } H.cells) = some d → ∃ e, getK m H.cells = some e ∧ d.sort = e.sort ∧ d.slots = e.slots ∧ d.count = e.count ∧ d.due = e.due := fun m d hd => by
    rw [hg] at hd
    by_cases q : m = n
    · rw [if_pos q] at hd; o_facts hd; subst q; exact ⟨c, hc, rfl, rfl, rfl, rfl⟩
    · rw [if_neg q] at hd; exact ⟨d, hd, rfl, rfl, rfl, rfl⟩
  have isr : ∀ v, ({ H.setC n { c with colour := cl, buf := true } with buffer := H.buffer ++ [n] } : HS).isRef v = H.isRef v := fun v => cellOf_setC_sort (c' := { c with colour := cl, buf := true }) hc rfl
  refine ⟨?_, fun m d hd => ?_, h.lst, h.vnd, fun m d hd => ?_, fun m d k v hd hv => ?_, fun m d hd => ?_, fun m hm => ?_, fun m d hd hds => ?_, ?_, fun m => ?_, fun m d hd hdb => ?_, fun m hm hv => ?_⟩
  · show ((putK n _ H.cells).map (·.1)).Pairwise _
    rw [keys_put_some hc]; exact h.asc
  · refine e1a2 (get m d hd) fun e h1 h2 => ?_; exact h.rng m e h1
  · refine e1a4 (get m d hd) fun e h1 h2 h3 h4 => ?_; rw [h3]; exact h.snd m e h1
  · refine e1a4 (get m d hd) fun e h1 h2 h3 h4 => ?_; rw [h3] at hv; exact h.skey m e k v h1 hv
  · refine e1a5 (get m d hd) fun e h1 h2 h3 h4 h5 => ?_; rw [h4, hsum]; exact h.cnt m e h1
  · rw [hsum] at hm
    show (getK m (putK n _ H.cells)).isSome = true
    rw [hg]
    by_cases q : m = n
    · rw [if_pos q]; rfl
    · rw [if_neg q]; exact h.live m hm
  · refine e1a4 (get m d hd) fun e h1 h2 h3 h4 => ?_
    refine e1a2 (h.ref m e h1 (by rw [← h2]; exact hds)) fun v h5 h6 => ?_
    exact ⟨v, by rw [h3]; exact h5, by rw [isr]; exact h6⟩
  · show (H.buffer ++ [n]).Nodup
    rw [List.nodup_append]
    exact ⟨h.bnd, by simp, fun a ha b hb e => by rw [List.mem_singleton] at hb; exact hnb (by rw [← hb, ← e]; exact ha)⟩
  · show m ∈ H.buffer ++ [n] ↔ ∃ d, getK m (putK n { c with colour := cl, buf := true } H.cells) = some d ∧ d.buf = true
    rw [List.mem_append, List.mem_singleton, h.buf m, hg]
    by_cases q : m = n
    · rw [if_pos q]; exact ⟨fun _ => ⟨_, rfl, rfl⟩, fun _ => .inr q⟩
    · rw [if_neg q]; exact ⟨fun h => h.elim id fun e => absurd e q, fun h => .inl h⟩
  · have hd : getK m (putK n { c with colour := cl, buf := true } H.cells) = some d := hd
    rw [hg] at hd
    by_cases q : m = n
    · rw [if_pos q] at hd; o_facts hd; exact hr
    · rw [if_neg q] at hd; exact h.bref m d hd hdb
  · refine e0a2 (h.neg m hm hv) fun h1 h2 => ?_
    refine ⟨h1, fun ⟨d, hd, hdd⟩ => ?_⟩
    refine e1a5 (get m d hd) fun e h3 h4 h5 h6 h7 => ?_
    exact h2 ⟨e, h3, by rw [← h7]; exact hdd⟩
end
end
/-! Q3 -/
section
set_option autoImplicit false

noncomputable def wc (c : C) : WC := ⟨c.sort, c.slots, c.due⟩
/- the law's own heap that goes with a counted heap -/
noncomputable def toW (H : HS) (ts : List T) (hd : List V) : WS := { cells := H.cells.map fun p => (p.1, wc p.2), vars := H.vars, log := H.log, tasks := ts, hand := hd, last := H.last }
noncomputable def LiveV (H : HS) (v : V) : Prop := ∀ n, v = .cell n → (getK n H.cells).isSome
noncomputable def lsN (n : Int) : List V → Nat
  | [] => 0
  | v :: r => one v n + lsN n r
theorem lsN_append {n : Int} : ∀ {a b : List V}, lsN n (a ++ b) = lsN n a + lsN n b
  | [], b => by show _ = 0 + _; rw [Nat.zero_add]; rfl
  | v :: a, b => by show one v n + lsN n (a ++ b) = one v n + lsN n a + lsN n b; rw [lsN_append]; lia -abstractProof

theorem sub_len : ∀ {l m : List Int}, l.Nodup → (∀ a ∈ l, a ∈ m) → l.length ≤ m.length
  | [], _, _, _ => Nat.zero_le _
  | a :: l, m, nd, h => by
    rw [List.nodup_cons] at nd
    have h1 : a ∈ m := h a (.head _)
    have := sub_len (l := l) (m := m.erase a) nd.2 fun b hb => (List.mem_erase_of_ne (fun e => nd.1 (by rw [← e]; exact hb))).mpr (h b (.tail _ hb))
    rw [List.length_erase_of_mem h1] at this
    have h2 : 0 < m.length := List.length_pos_of_mem h1
    rw [List.length_cons]; lia -abstractProof

structure Sz (H : HS) : Prop where
  e : H.E ≤ 90000
  last : H.last ≤ 90000
  log : H.log.length ≤ 90000

section
variable {H H' H'' : HS} {x y : Int → Nat} {n m k : Int} {c c' : C} {v w : V} {ts : List T} {hd : List V} {l : List (Int × V)}

theorem HI.cells_len (h : HI H x) : (H.cells.length : Int) ≤ H.last := by
  have h1 := sub_len (l := H.cells.map (·.1)) (m := (List.range H.last.toNat).map fun (i : Nat) => (i : Int) + 1) h.cnd fun a ha => by
    refine e1a2 (List.mem_map.mp ha) fun p hp e2_ => ?_; subst e2_
    have := h.rng p.1 p.2 (getK_of_mem h.cnd hp)
    refine List.mem_map.mpr ⟨(p.1 - 1).toNat, List.mem_range.mpr (by lia -abstractProof), ?_⟩
    show (((p.1 - 1).toNat : Nat) : Int) + 1 = p.1
    lia -abstractProof
  rw [List.length_map, List.length_map, List.length_range] at h1
  have := h.lst
  lia -abstractProof
theorem HI.buf_len (h : HI H x) : H.buffer.length ≤ H.cells.length := by
  have := sub_len (l := H.buffer) (m := H.cells.map (·.1)) h.bnd fun a ha => by
    refine e1a2 ((h.buf a).mp ha) fun c hc _ => ?_
    exact getK_some_mem hc
  rwa [List.length_map] at this
theorem Sz.vars (z : Sz H) : H.vars.length ≤ 90000 := Nat.le_trans (Nat.le_add_right _ _) z.e
theorem Sz.slots (z : Sz H) (hc : getK n H.cells = some c) : c.slots.length ≤ 90000 := by
  have h1 : c.slots.length ≤ sumF (fun c => c.slots.length) H.cells := sumF_get (f := fun c : C => c.slots.length) hc
  have h2 := z.e
  unfold HS.E at h2; lia -abstractProof
theorem Sz.pl {p : Pl} (z : Sz H) (hp : H.pl p = some l) : l.length ≤ 90000 := by
  cases p with
  | vars => o_facts hp; exact z.vars
  | slots n =>
    have hp : (getK n H.cells).map (·.slots) = some l := hp
    cases e : getK n H.cells with
    | none => rw [e] at hp; o_facts hp
    | some c => rw [e] at hp; o_facts hp; exact z.slots e

theorem toW_get : getK n (toW H ts hd).cells = (getK n H.cells).map wc := getK_mapv (f := fun _ c => wc c)
theorem toW_pl {p : Pl} : (toW H ts hd).pl p = H.pl p := by
  cases p with
  | vars => rfl
  | slots n => show (getK n (toW H ts hd).cells).map _ = (getK n H.cells).map _; rw [toW_get]; cases getK n H.cells <;> rfl
theorem toW_setC (hc : getK n H.cells = some c) (e : wc c' = wc c) : toW (H.setC n c') ts hd = toW H ts hd := by
  have : (putK n c' H.cells).map (fun p => (p.1, wc p.2)) = H.cells.map fun p => (p.1, wc p.2) := by
    rw [← putK_mapv (f := fun _ c => wc c), e, putK_old]
    rw [getK_mapv (f := fun _ c => wc c), hc]; rfl
  unfold toW HS.setC
  rw [this]
theorem toW_setC2 : toW (H.setC n c') ts hd = (toW H ts hd).setC n (wc c') := by
  unfold toW HS.setC WS.setC
  simp only
  rw [← putK_mapv (f := fun _ c => wc c)]
theorem toW_setPl {p : Pl} (hp : H.pl p = some l) {l' : List (Int × V)} : (toW H ts hd).setPl p l' = toW (H.setPl p l') ts hd := by
  cases p with
  | vars => rfl
  | slots n =>
    have hp : (getK n H.cells).map (·.slots) = some l := hp
    cases e : getK n H.cells with
    | none => rw [e] at hp; o_facts hp
    | some c =>
      show (match getK n (toW H ts hd).cells with | some c => (toW H ts hd).setC n { c with slots := l' } | none => toW H ts hd) = toW (match getK n H.cells with | some c => H.setC n { c with slots := l' } | none => H) ts hd
      rw [toW_get, e]
      show (toW H ts hd).setC n { wc c with slots := l' } = toW (H.setC n { c with slots := l' }) ts hd
      rw [toW_setC2]; rfl
theorem toW_isRef (hv : LiveV H v) : (toW H ts hd).isRef v = some (H.isRef v) := by
  cases v with
  | int i => rfl
  | cell n =>
    refine e1a1 (Option.isSome_iff_exists.mp (hv n rfl)) fun c hc => ?_
    show (getK n (toW H ts hd).cells).map _ = _
    rw [toW_get, hc, isRef_some (H := H) (v := .cell n) hc]; rfl
theorem LiveV.int {i : Int} : LiveV H (.int i) := fun _ e => by o_facts e
theorem LiveV.cell (hc : getK n H.cells = some c) : LiveV H (.cell n) := fun _ e => by o_facts e; rw [hc]; rfl
theorem LiveV.get (hv : LiveV H (.cell n)) : ∃ c, getK n H.cells = some c := Option.isSome_iff_exists.mp (hv n rfl)
theorem HI.liveVar (h : HI H x) : LiveV H (H.var k) := fun n e => by
  unfold HS.var at e
  cases hg : getK k H.vars with
  | none => rw [hg] at e; o_facts e
  | some v => rw [hg] at e; have e : v = .cell n := e; subst e; exact h.liveV hg
theorem HI.liveSlot (h : HI H x) (hc : getK n H.cells = some c) (hg : getK k c.slots = some v) : LiveV H v := fun j e => by
  subst e; exact h.liveS hc hg
theorem HI.pl_live {p : Pl} (h : HI H x) (hp : H.pl p = some l) (hg : getK k l = some v) : LiveV H v := by
  cases p with
  | vars => o_facts hp; exact fun n e => by subst e; exact h.liveV hg
  | slots n =>
    have hp : (getK n H.cells).map (·.slots) = some l := hp
    cases e : getK n H.cells with
    | none => rw [e] at hp; o_facts hp
    | some c => rw [e] at hp; o_facts hp; exact h.liveSlot e hg
theorem HI.refOf (h : HI H x) (hr : H.isRef v = true) : ∃ n c u, v = .cell n ∧ getK n H.cells = some c ∧ c.sort = .ref ∧ c.slots = [(0, u)] ∧ H.isRef u = false ∧ LiveV H u := by
  cases v with
  | int i => o_facts hr
  | cell n =>
    cases hc : getK n H.cells with
    | none => rw [isRef_none (H := H) (v := .cell n) hc] at hr; o_facts hr
    | some c =>
      rw [isRef_some (H := H) (v := .cell n) hc, decide_eq_true_eq] at hr
      refine e1a2 (h.ref n c hc hr) fun u h1 h2 => ?_
      exact ⟨n, c, u, rfl, hc, hr, h1, h2, h.liveSlot hc (k := 0) (by rw [h1]; rfl)⟩
theorem inner_ok (h : HI H x) (hv : LiveV H v) : ∃ w, H.inner v = some w ∧ (∀ ts hd, (toW H ts hd).inner v = some w) ∧ LiveV H w ∧ H.isRef w = false := by
  cases hr : H.isRef v with
  | false =>
    refine ⟨v, by unfold HS.inner; rw [hr]; rfl, fun ts hd => ?_, hv, hr⟩
    unfold WS.inner
    rw [toW_isRef hv, hr]; rfl
  | true =>
    refine e3a6 (h.refOf hr) fun n c u e3_ hc hs hl hu hlu => ?_; subst e3_
    refine ⟨u, ?_, fun ts hd => ?_, hlu, hu⟩
    · unfold HS.inner
      rw [hr, if_pos rfl, show H.cellOf (.cell n) = some c from hc, Option.bind_some, hl]; rfl
    · unfold WS.inner
      rw [toW_isRef hv, hr, Option.bind_some, if_pos rfl, show V.num (.cell n) = n from rfl, toW_get, hc]
      show getK 0 (wc c).slots = some u
      show getK 0 c.slots = some u
      rw [hl]; rfl
theorem value_ok (h : HI H x) : ∃ w, H.valueOf k = some w ∧ (∀ ts hd, (toW H ts hd).valueOf k = some w) ∧ LiveV H w ∧ H.isRef w = false := inner_ok h h.liveVar

/- how far a deed's step may go -/
structure Grow (H H' : HS) (dl dE dr dd dg k : Nat) : Prop where
  last : H.last ≤ H'.last ∧ H'.last ≤ H.last + dl
  e : H'.E + k ≤ H.E + dE
  nr : H'.nr ≤ H.nr + dr
  dn : H'.dn ≤ H.dn + dd
  log : H'.log.length ≤ H.log.length + dg
  due : ∀ m, H'.Due m → H.Due m ∨ H.last < m
  keep : ∀ m c, getK m H.cells = some c → ∃ c', getK m H'.cells = some c' ∧ c'.sort = c.sort
theorem Grow.refl : Grow H H 0 0 0 0 0 0 := ⟨⟨Int.le_refl _, by lia -abstractProof⟩, Nat.le_refl _, Nat.le_refl _, Nat.le_refl _, Nat.le_refl _, fun _ h => .inl h, fun _ c h => ⟨c, h, rfl⟩⟩
theorem Grow.trans {a1 a2 a3 a4 a5 a6 b1 b2 b3 b4 b5 b6 : Nat} (g : Grow H H' a1 a2 a3 a4 a5 a6) (g' : Grow H' H'' b1 b2 b3 b4 b5 b6) : Grow H H'' (a1 + b1) (a2 + b2) (a3 + b3) (a4 + b4) (a5 + b5) (a6 + b6) := by
  have l1 := g.last; have l2 := g'.last; have e1 := g.e; have e2 := g'.e; have r1 := g.nr; have r2 := g'.nr; have d1 := g.dn; have d2 := g'.dn; have o1 := g.log; have o2 := g'.log
  refine ⟨⟨by lia -abstractProof, by lia -abstractProof⟩, by lia -abstractProof, by lia -abstractProof, by lia -abstractProof, by lia -abstractProof, fun m h => ?_, fun m c h => ?_⟩
  · rcases g'.due m h with h | h
    · exact g.due m h
    · exact .inr (by lia -abstractProof)
  · refine e1a2 (g.keep m c h) fun c1 h1 h2 => ?_
    refine e1a2 (g'.keep m c1 h1) fun c2 h3 h4 => ?_
    exact ⟨c2, h3, h4.trans h2⟩
theorem Grow.le {a1 a2 a3 a4 a5 a6 b1 b2 b3 b4 b5 b6 : Nat} (g : Grow H H' a1 a2 a3 a4 a5 a6) (h1 : a1 ≤ b1) (h2 : a2 + b6 ≤ b2 + a6) (h3 : a3 ≤ b3) (h4 : a4 ≤ b4) (h5 : a5 ≤ b5) : Grow H H' b1 b2 b3 b4 b5 b6 := by
  have l1 := g.last; have e1 := g.e; have r1 := g.nr; have d1 := g.dn; have o1 := g.log
  exact ⟨⟨by lia -abstractProof, by lia -abstractProof⟩, by lia -abstractProof, by lia -abstractProof, by lia -abstractProof, by lia -abstractProof, g.due, g.keep⟩
theorem Grow.live {a1 a2 a3 a4 a5 a6 : Nat} (g : Grow H H' a1 a2 a3 a4 a5 a6) (hv : LiveV H v) : LiveV H' v := fun n e => by
  refine e1a1 (Option.isSome_iff_exists.mp (hv n e)) fun c hc => ?_
  refine e1a2 (g.keep n c hc) fun c' h _ => ?_
  rw [h]; rfl
theorem Grow.isRef {a1 a2 a3 a4 a5 a6 : Nat} (g : Grow H H' a1 a2 a3 a4 a5 a6) (hv : LiveV H v) : H'.isRef v = H.isRef v := by
  cases v with
  | int i => rfl
  | cell n =>
    refine e1a1 (hv.get) fun c hc => ?_
    refine e1a2 (g.keep n c hc) fun c' h1 h2 => ?_
    rw [isRef_some (H := H') (v := .cell n) h1, isRef_some (H := H) (v := .cell n) hc, h2]

theorem Grow.setC {d : Nat} (hc : getK n H.cells = some c) (hs : c'.sort = c.sort) (hl : c'.slots.length ≤ c.slots.length + d) (hdue : c'.due = true → c.due = true) : Grow H (H.setC n c') 0 d 0 0 0 0 := by
  refine ⟨⟨Int.le_refl _, by show H.last ≤ H.last + 0; lia -abstractProof⟩, ?_, ?_, ?_, Nat.le_refl _, fun m ⟨e, he, hed⟩ => .inl ?_, fun m e he => ?_⟩
  · have := sum_setC (f := fun c => c.slots.length) (c' := c') hc
    unfold HS.E
    show H.vars.length + _ + 0 ≤ H.vars.length + _ + d
    lia -abstractProof
  · have := sum_setC (f := fun c => if c.sort = .ref then 0 else 1) (c' := c') hc
    unfold HS.nr
    simp only [hs] at this
    lia -abstractProof
  · have := sum_setC (f := fun c => if c.due = true then 1 else 0) (c' := c') hc
    unfold HS.dn
    have h2 : (if c'.due = true then 1 else 0) ≤ (if c.due = true then 1 else 0) := by
      by_cases q : c'.due = true
      · rw [if_pos q, if_pos (hdue q)]; exact Nat.le_refl _
      · rw [if_neg q]; exact Nat.zero_le _
    lia -abstractProof
  · rw [getK_setC] at he
    by_cases q : m = n
    · subst q; rw [if_pos rfl] at he; o_facts he; exact ⟨c, hc, hdue hed⟩
    · rw [if_neg q] at he; exact ⟨e, he, hed⟩
  · rw [getK_setC]
    by_cases q : m = n
    · subst q; rw [hc] at he; o_facts he; rw [if_pos rfl]; exact ⟨c', rfl, hs⟩
    · rw [if_neg q]; exact ⟨e, he, rfl⟩
theorem Grow.setVars {d k : Nat} (hl : l.length + k ≤ H.vars.length + d) : Grow H { H with vars := l } 0 d 0 0 0 k :=
  ⟨⟨Int.le_refl _, by show H.last ≤ H.last + 0; lia -abstractProof⟩, by unfold HS.E; show l.length + sumF (fun c => c.slots.length) H.cells + k ≤ H.vars.length + sumF (fun c => c.slots.length) H.cells + d; lia -abstractProof, Nat.le_refl _, Nat.le_refl _, Nat.le_refl _, fun _ h => .inl h, fun _ c h => ⟨c, h, rfl⟩⟩

theorem gain_ok (h : HI H x) (hv : LiveV H v) : HI (H.gain v) (fun n => x n + one v n) ∧ (∀ ts hd, toW (H.gain v) ts hd = toW H ts hd) ∧ Grow H (H.gain v) 0 0 0 0 0 0 ∧ ∀ m c, getK m H.cells = some c → ∃ c', getK m (H.gain v).cells = some c' ∧ wc c' = wc c := by
  cases v with
  | int i => exact ⟨h.congr fun _ => rfl, fun _ _ => rfl, Grow.refl, fun m c hc => ⟨c, hc, rfl⟩⟩
  | cell n =>
    refine e1a1 (hv.get) fun c hc => ?_
    have e : H.gain (.cell n) = H.setC n { c with count := c.count + 1 } := by
      unfold HS.gain; rw [show H.cellOf (.cell n) = some c from hc]; rfl
    rw [e]
    refine ⟨h.setCount hc rfl rfl rfl ?_ (fun m hm => by rw [one_ne (fun q => hm q.symm)]; rfl) (fun q => .inl q), fun _ _ => toW_setC hc rfl, Grow.setC hc rfl (Nat.le_refl _) id, fun m d hd => ?_⟩
    · have := h.cnt n c hc
      show c.count + 1 = _
      rw [one_self]; lia -abstractProof
    · rw [getK_setC]
      by_cases q : m = n
      · subst q; rw [hc] at hd; o_facts hd; rw [if_pos rfl]; exact ⟨_, rfl, rfl⟩
      · rw [if_neg q]; exact ⟨d, hd, rfl⟩
end
end
/-! Q4 -/
section
set_option autoImplicit false

/- a place of H that v may be written to, under k -/
noncomputable def PlOK (H : HS) (k : Int) (v : V) : Pl → Prop
  | .vars => ∀ m, 1 ≤ m → k = -m → m ≤ H.last ∧ ¬ H.Due m
  | .slots n => ∃ c, getK n H.cells = some c ∧ (0 ≤ k ∧ k ≤ 2) ∧ (c.sort = .ref → k = 0 ∧ H.isRef v = false)
section
variable {H H' H'' : HS} {x y : Int → Nat} {n m k a : Int} {c c' : C} {v w : V} {ts : List T} {hd : List V} {l : List (Int × V)} {p : Pl}
theorem lsN_toList {o : Option V} : lsN n o.toList = oneO o n := by cases o <;> rfl
theorem len_put : (putK k v l).length + (getK k l).toList.length = l.length + 1 := by
  have := sumF_put (f := fun _ : V => 1) (k := k) (v := v) (l := l)
  rw [← len_sumF, ← len_sumF] at this
  have e : optF (fun _ : V => 1) (getK k l) = (getK k l).toList.length := by cases getK k l <;> rfl
  rw [e] at this; exact this
theorem cnt_put : cntL n (putK k v l) + lsN n (getK k l).toList = cntL n l + one v n := by
  rw [lsN_toList]; exact sumF_put
theorem PlOK.some (q : PlOK H k v p) : ∃ l, H.pl p = some l := by
  cases p with
  | vars => exact ⟨_, rfl⟩
  | slots n => refine e1a2 (q) fun c hc _ => ?_; exact ⟨c.slots, by show (getK n H.cells).map _ = _; rw [hc]; rfl⟩
theorem E_setC (hc : getK n H.cells = some c) : (H.setC n c').E + c.slots.length = H.E + c'.slots.length := by
  have := sum_setC (f := fun c => c.slots.length) (c' := c') hc
  unfold HS.E
  show H.vars.length + _ + _ = H.vars.length + _ + _
  lia -abstractProof
theorem Grow.setC' {d j : Nat} (hc : getK n H.cells = some c) (hs : c'.sort = c.sort) (hl : c'.slots.length + j ≤ c.slots.length + d) (hdue : c'.due = true → c.due = true) : Grow H (H.setC n c') 0 d 0 0 0 j := by
  have g := Grow.setC (c' := c') (d := c'.slots.length) hc hs (by lia -abstractProof) hdue
  have := E_setC (c' := c') hc
  exact ⟨g.last, by lia -abstractProof, g.nr, g.dn, g.log, g.due, g.keep⟩

theorem replaced_at (h : HI H (fun n => x n + one v n)) (z : Sz H) (q : PlOK H k v p) (hl : H.pl p = some l) : H.replaced p k v = some (H.setPl p (putK k v l), (getK k l).toList) ∧ (∀ ts hd, (toW H ts hd).replaced p k v = some (toW (H.setPl p (putK k v l)) ts hd, (getK k l).toList)) ∧
    HI (H.setPl p (putK k v l)) (fun n => x n + lsN n (getK k l).toList) ∧ Grow H (H.setPl p (putK k v l)) 0 1 0 0 0 (getK k l).toList.length := by
  have hz := z.pl hl
  refine ⟨?_, fun ts hd => ?_, ?_, ?_⟩
  · unfold HS.replaced; rw [hl, Option.bind_some, if_pos (by lia -abstractProof)]
  · unfold WS.replaced; rw [toW_pl, hl, Option.bind_some, if_pos (by lia -abstractProof), toW_setPl hl]
  · cases p with
    | vars =>
      o_facts hl
      refine h.setVars (nodup_put h.vnd) (fun m => ?_) fun m hm hg => ?_
      · have := cnt_put (n := m) (k := k) (v := v) (l := H.vars); lia -abstractProof
      · rw [getK_putK] at hg
        by_cases e : -m = k
        · exact q m hm e.symm
        · rw [if_neg e] at hg; exact h.neg m hm hg
    | slots n =>
      refine e1a3 (q) fun c hc hk hr => ?_
      have hl : (getK n H.cells).map (·.slots) = some l := hl
      rw [hc] at hl; have hl : some c.slots = some l := hl; o_facts hl
      show HI (match getK n H.cells with | some c' => H.setC n { c' with slots := putK k v c.slots } | none => H) _
      rw [hc]
      refine h.setC hc rfl rfl (nodup_put (h.snd n c hc)) (fun j u hj => ?_) (fun hs => ?_) ?_ (fun m => .inl ?_) (fun _ => trivial) (fun e => .inl e)
      · rw [getK_putK] at hj
        by_cases e : j = k
        · rw [e]; exact hk
        · rw [if_neg e] at hj; exact h.skey n c j u hc hj
      · refine e1a2 (h.ref n c hc hs) fun u hu _ => ?_
        refine e0a2 (hr hs) fun hk0 hv => ?_
        exact ⟨v, by rw [hk0, hu]; rfl, hv⟩
      · have h1 := h.cnt n c hc
        have h2 := cnt_put (n := n) (k := k) (v := v) (l := c.slots)
        show c.count + _ = ((cntH n H + cntL n (putK k v c.slots) + _ : Nat) : Int)
        lia -abstractProof
      · have h2 := cnt_put (n := m) (k := k) (v := v) (l := c.slots)
        show cntL m (putK k v c.slots) + _ = _
        lia -abstractProof
  · cases p with
    | vars => o_facts hl; exact Grow.setVars (by rw [len_put]; exact Nat.le_refl _)
    | slots n =>
      refine e1a3 (q) fun c hc hk hr => ?_
      have hl : (getK n H.cells).map (·.slots) = some l := hl
      rw [hc] at hl; have hl : some c.slots = some l := hl; o_facts hl
      show Grow H (match getK n H.cells with | some c' => H.setC n { c' with slots := putK k v c.slots } | none => H) _ _ _ _ _ _
      rw [hc]
      exact Grow.setC' hc rfl (by show (putK k v c.slots).length + _ ≤ _; rw [len_put]; exact Nat.le_refl _) id

theorem replaced_ok (h : HI H (fun n => x n + one v n)) (z : Sz H) (q : PlOK H k v p) : ∃ H' ls, H.replaced p k v = some (H', ls) ∧ (∀ ts hd, (toW H ts hd).replaced p k v = some (toW H' ts hd, ls)) ∧
    HI H' (fun n => x n + lsN n ls) ∧ Grow H H' 0 1 0 0 0 ls.length := by
  refine e1a1 (q.some) fun l hl => ?_
  exact ⟨_, _, replaced_at h z q hl⟩

theorem cnt_del (nd : (l.map (·.1)).Nodup) (hk : getK k l = some v) : cntL n (delK k l) + one v n = cntL n l := by
  have := sumF_del (f := fun v => one v n) (k := k) nd
  rw [hk] at this; exact this
theorem len_del (nd : (l.map (·.1)).Nodup) (hk : getK k l = some v) : (delK k l).length + 1 = l.length := by
  have := sumF_del (f := fun _ : V => 1) (k := k) nd
  rw [hk, ← len_sumF, ← len_sumF] at this; exact this
/- a place of H out of which a key may go -/
noncomputable def OutOK (H : HS) : Pl → Prop
  | .vars => True
  | .slots n => ∃ c, getK n H.cells = some c ∧ c.sort ≠ .ref
theorem takenOut_ok (h : HI H x) (z : Sz H) (q : OutOK H p) : ∃ H' ls, H.takenOut p k = some (H', ls) ∧ (∀ ts hd, (toW H ts hd).takenOut p k = some (toW H' ts hd, ls)) ∧
    HI H' (fun n => x n + lsN n ls) ∧ Grow H H' 0 0 0 0 0 ls.length := by
  have hl : ∃ l, H.pl p = some l := by
    cases p with
    | vars => exact ⟨_, rfl⟩
    | slots n => refine e1a2 (q) fun c hc _ => ?_; exact ⟨c.slots, by show (getK n H.cells).map _ = _; rw [hc]; rfl⟩
  refine e1a1 (hl) fun l hl => ?_
  have hz := z.pl hl
  cases hk : getK k l with
  | none =>
    refine ⟨H, [], ?_, fun ts hd => ?_, h.congr fun n => ?_, Grow.refl⟩
    · unfold HS.takenOut; rw [hl, Option.bind_some, hk]
    · unfold WS.takenOut; rw [toW_pl, hl, Option.bind_some, hk]
    · rfl
  | some v =>
    refine ⟨H.setPl p (delK k l), [v], ?_, fun ts hd => ?_, ?_, ?_⟩
    · unfold HS.takenOut; rw [hl, Option.bind_some, hk]; show (if _ then _ else _) = _; rw [if_pos (by lia -abstractProof)]
    · unfold WS.takenOut; rw [toW_pl, hl, Option.bind_some, hk]; show (if _ then _ else _) = _; rw [if_pos (by lia -abstractProof), toW_setPl hl]
    · cases p with
      | vars =>
        o_facts hl
        refine h.setVars (nodup_del h.vnd) (fun m => ?_) fun m hm hg => ?_
        · have := cnt_del (n := m) h.vnd hk
          show _ + (_ + (_ + 0)) = _; lia -abstractProof
        · rw [getK_delK] at hg
          by_cases e : -m = k
          · rw [if_pos e] at hg; o_facts hg
          · rw [if_neg e] at hg; exact h.neg m hm hg
      | slots n =>
        refine e1a2 (q) fun c hc hs => ?_
        have hl : (getK n H.cells).map (·.slots) = some l := hl
        rw [hc] at hl; have hl : some c.slots = some l := hl; o_facts hl
        show HI (match getK n H.cells with | some c' => H.setC n { c' with slots := delK k c.slots } | none => H) _
        rw [hc]
        refine h.setC hc rfl rfl (nodup_del (h.snd n c hc)) (fun j u hj => ?_) (fun hs' => absurd hs' hs) ?_ (fun m => .inl ?_) (fun _ => trivial) (fun e => .inl e)
        · rw [getK_delK] at hj
          by_cases e : j = k
          · rw [if_pos e] at hj; o_facts hj
          · rw [if_neg e] at hj; exact h.skey n c j u hc hj
        · have h1 := h.cnt n c hc
          have h2 := cnt_del (n := n) (h.snd n c hc) hk
          show c.count + _ = ((cntH n H + cntL n (delK k c.slots) + (_ + (_ + 0)) : Nat) : Int)
          lia -abstractProof
        · have h2 := cnt_del (n := m) (h.snd n c hc) hk
          show cntL m (delK k c.slots) + (_ + (_ + 0)) = _
          lia -abstractProof
    · cases p with
      | vars => o_facts hl; exact Grow.setVars (by have := len_del h.vnd hk; show (delK k H.vars).length + 1 ≤ _; lia -abstractProof)
      | slots n =>
        refine e1a2 (q) fun c hc hs => ?_
        have hl : (getK n H.cells).map (·.slots) = some l := hl
        rw [hc] at hl; have hl : some c.slots = some l := hl; o_facts hl
        show Grow H (match getK n H.cells with | some c' => H.setC n { c' with slots := delK k c.slots } | none => H) _ _ _ _ _ _
        rw [hc]
        exact Grow.setC' hc rfl (by have := len_del (h.snd n c hc) hk; show (delK k c.slots).length + 1 ≤ _; lia -abstractProof) id

theorem written_ok (h : HI H (fun n => x n + one v n)) (z : Sz H) (q : PlOK H k v p) (hv : H.isRef v = false) : ∃ H' ls, H.written p k v = some (H', ls) ∧ (∀ ts hd, (toW H ts hd).write p k v true = some (toW H' ts hd, ls)) ∧
    HI H' (fun n => x n + lsN n ls) ∧ Grow H H' 0 1 0 0 0 ls.length := by
  refine e1a1 (q.some) fun l hl => ?_
  unfold HS.written WS.write
  rw [hl, Option.bind_some]
  simp only [toW_pl, hl, Option.bind_some]
  cases hk : getK k l with
  | none => exact replaced_ok h z q
  | some w =>
    have hlw := h.pl_live hl hk
    simp only [if_true, toW_isRef hlw, Option.bind_some]
    cases hr : H.isRef w with
    | false => exact replaced_ok h z q
    | true =>
      refine e3a6 (h.refOf hr) fun n c u e3_ hc hs _ _ _ => ?_; subst e3_
      exact replaced_ok h z ⟨c, hc, ⟨by decide, by decide⟩, fun _ => ⟨rfl, hv⟩⟩
theorem write_false (q : PlOK H k v p) : (toW H ts hd).write p k v false = (toW H ts hd).replaced p k v := by
  refine e1a1 (q.some) fun l hl => ?_
  unfold WS.write
  rw [toW_pl, hl, Option.bind_some]
  cases getK k l <;> rfl
end
end
/-! Q5 -/
section
set_option autoImplicit false

structure Sz0 (H : HS) : Prop where
  e : H.E ≤ 85000
  last : H.last ≤ 85000
  log : H.log.length ≤ 85000
noncomputable def NC (H : HS) (c : C) : HS := { H with last := H.last + 1, cells := putK (H.last + 1) c H.cells }
section
variable {H H' H'' : HS} {x y : Int → Nat} {n m k a : Int} {c c' : C} {v w : V} {ts : List T} {hd : List V} {l : List (Int × V)} {p : Pl}
theorem Sz0.sz (z : Sz0 H) : Sz H := ⟨by have := z.e; lia -abstractProof, by have := z.last; lia -abstractProof, by have := z.log; lia -abstractProof⟩
theorem Grow.sz {a1 a2 a3 a4 a5 a6 : Nat} (g : Grow H H' a1 a2 a3 a4 a5 a6) (z : Sz0 H) (h : a1 + a2 + a5 ≤ 1000) : Sz H' := by
  have l1 := g.last; have e1 := g.e; have o1 := g.log; have := z.e; have := z.last; have := z.log
  exact ⟨by lia -abstractProof, by lia -abstractProof, by lia -abstractProof⟩
theorem HI.fresh (h : HI H x) : getK (H.last + 1) H.cells = none := by
  cases e : getK (H.last + 1) H.cells with
  | none => rfl
  | some d => have := h.rng _ d e; lia -abstractProof
theorem HI.zero (h : HI H x) (hn : getK n H.cells = none) : cntH n H + x n = 0 := by
  by_cases q : cntH n H + x n > 0
  · have := h.live _ q; rw [hn] at this; cases this
  · lia -abstractProof
theorem newCell_eq {K : K} (h : HI H x) (z : Sz H) : H.newCell K = some (NC H (newC K)) := by
  unfold HS.newCell
  rw [h.fresh, if_pos ⟨rfl, by have := h.cells_len; have := z.last; lia -abstractProof⟩]; rfl
theorem NC_get : getK m (NC H c).cells = if m = H.last + 1 then some c else getK m H.cells := getK_putK
theorem NC_self : getK (H.last + 1) (NC H c).cells = some c := by rw [NC_get, if_pos rfl]
theorem NC_setC : (NC H c).setC (H.last + 1) c' = NC H c' := by
  unfold HS.setC NC; simp only [putK_putK]
theorem NC_gain : (NC H c).gain (.cell (H.last + 1)) = NC H { c with count := c.count + 1 } := by
  unfold HS.gain
  rw [show (NC H c).cellOf (.cell (H.last + 1)) = some c from NC_self]
  exact NC_setC
theorem NC_toW : toW (NC H c) ts hd = { toW H ts hd with last := H.last + 1, cells := putK (H.last + 1) (wc c) (toW H ts hd).cells } := by
  unfold toW NC; simp only; rw [← putK_mapv (f := fun _ c => wc c)]
theorem NC_toW_eq (e : wc c = wc c') : toW (NC H c) ts hd = toW (NC H c') ts hd := by rw [NC_toW, NC_toW, e]
theorem newCellW_eq {b : Bool} (h : HI H x) (z : Sz H) (e : wc c = ⟨c.sort, [], b⟩) : (toW H ts hd).newCell c.sort b = some (toW (NC H c) ts hd) := by
  unfold WS.newCell
  have h1 : getK ((toW H ts hd).last + 1) (toW H ts hd).cells = none := by
    show getK (H.last + 1) (toW H ts hd).cells = none
    rw [toW_get, h.fresh]; rfl
  rw [h1, if_pos ⟨rfl, by show (H.cells.map _).length ≤ _; rw [List.length_map]; have := h.cells_len; have := z.last; lia -abstractProof⟩, NC_toW, e]; rfl
theorem Grow.nc (h : HI H x) : Grow H (NC H c) 1 c.slots.length (if c.sort = .ref then 0 else 1) (if c.due = true then 1 else 0) 0 0 := by
  have s : ∀ f : C → Nat, sumF f (NC H c).cells = sumF f H.cells + f c := fun f => by
    have := sumF_put (f := f) (k := H.last + 1) (v := c) (l := H.cells)
    rw [h.fresh] at this; exact this
  refine ⟨⟨by show H.last ≤ H.last + 1; lia -abstractProof, by show H.last + 1 ≤ H.last + 1; lia -abstractProof⟩, ?_, ?_, ?_, Nat.le_refl _, fun m ⟨d, hd, hdd⟩ => ?_, fun m d hd => ?_⟩
  · unfold HS.E; rw [s]; show H.vars.length + _ + 0 ≤ _; lia -abstractProof
  · unfold HS.nr; rw [s]; exact Nat.le_refl _
  · unfold HS.dn; rw [s]; exact Nat.le_refl _
  · rw [NC_get] at hd
    by_cases q : m = H.last + 1
    · right; lia -abstractProof
    · rw [if_neg q] at hd; exact .inl ⟨d, hd, hdd⟩
  · refine ⟨d, ?_, rfl⟩
    rw [NC_get, if_neg, hd]
    intro q; rw [q, h.fresh] at hd; o_facts hd
/- a new cell that x' holds -/
theorem HI.nc (h : HI H x) (hb : c.buf = false) (hs : c.sort ≠ .ref) (hl : c.slots = []) (hc : c.count = ((y (H.last + 1) : Nat) : Int)) (hy : ∀ m, m ≠ H.last + 1 → y m = x m) : HI (NC H c) y := by
  have z0 := h.zero h.fresh
  unfold cntH at z0
  refine h.add (c := c) (l := H.vars) hb (by rw [hl]; exact List.nodup_nil) (fun k v hv => by rw [hl] at hv; o_facts hv) (fun q => absurd q hs) (by rw [hl]; rfl) h.vnd ?_ (fun m hm => ?_) h.neg
  · rw [hc, show cntL (H.last + 1) H.vars = 0 by lia -abstractProof, Nat.zero_add]
  · rw [hl, hy m hm]; rfl

theorem NC_dueOld (hm : m ≤ H.last) : (NC H c).Due m ↔ H.Due m := by
  unfold HS.Due
  rw [NC_get, if_neg (by lia -abstractProof)]
theorem Grow.plVars {a1 a2 a3 a4 a5 a6 : Nat} (g : Grow H H' a1 a2 a3 a4 a5 a6) (q : PlOK H k v .vars) : PlOK H' k w .vars := fun m h1 h2 => by
  refine e0a2 (q m h1 h2) fun h3 h4 => ?_
  have := g.last
  refine ⟨by lia -abstractProof, fun h5 => ?_⟩
  rcases g.due m h5 with h6 | h6
  · exact h4 h6
  · lia -abstractProof

theorem refIn_ok (h : HI H x) (z : Sz H) (q : PlOK H k (.int 0) .vars) : ∃ H' v, H.refIn k = some (H', v) ∧ (∀ ts hd, (toW H ts hd).refIn k = some (toW H' ts hd, v)) ∧
    HI H' x ∧ LiveV H' v ∧ H'.isRef v = true ∧ Grow H H' 1 2 0 0 0 0 := by
  have hlv := h.liveVar (k := k)
  cases hr : H.isRef (H.var k) with
  | true =>
    refine ⟨H, H.var k, by unfold HS.refIn; rw [hr, if_pos rfl], fun ts hd => ?_, h, hlv, hr, Grow.refl.le (by lia -abstractProof) (by lia -abstractProof) (by lia -abstractProof) (by lia -abstractProof) (by lia -abstractProof)⟩
    unfold WS.refIn
    rw [show (toW H ts hd).var k = H.var k from rfl, toW_isRef hlv, hr, Option.bind_some, if_pos rfl]
    show (getK k H.vars).map _ = _
    unfold HS.var at hr ⊢
    cases e : getK k H.vars with
    | none => rw [e] at hr; o_facts hr
    | some v => rfl
  | false =>
    have z0 := h.zero h.fresh
    unfold cntH at z0
    have e1 : ∀ m, oneO (getK k H.vars) m = one (H.var k) m := fun m => by
      unfold HS.var
      cases getK k H.vars with
      | none => rfl
      | some v => rfl
    have e2 : ∀ m, cntL m (putK k (.cell (H.last + 1)) H.vars) + one (H.var k) m = cntL m H.vars + one (.cell (H.last + 1)) m := fun m => by
      rw [← e1]; exact sumF_put
    have e3 : one (H.var k) (H.last + 1) = 0 := by
      have := e2 (H.last + 1)
      have h1 : oneO (getK k H.vars) (H.last + 1) ≤ cntL (H.last + 1) H.vars := by
        cases e : getK k H.vars with
        | none => exact Nat.zero_le _
        | some v => exact sumF_get (f := fun v => one v (H.last + 1)) e
      rw [e1] at h1; lia -abstractProof
    have g0 := Grow.nc (c := { newC .ref with slots := [(0, H.var k)], count := 1 }) h
    refine ⟨{ NC H { newC .ref with slots := [(0, H.var k)], count := 1 } with vars := putK k (.cell (H.last + 1)) H.vars }, .cell (H.last + 1), ?_, fun ts hd => ?_, ?_, LiveV.cell NC_self, ?_, ?_⟩
    · unfold HS.refIn
      rw [hr, if_neg (by decide), newCell_eq h z, Option.bind_some]
      rw [show (NC H (newC .ref)).last = H.last + 1 from rfl, NC_setC, NC_gain]
      unfold HS.setVar
      rw [if_pos (by show H.vars.length ≤ _; have := z.vars; lia -abstractProof)]; rfl
    · unfold WS.refIn
      rw [show (toW H ts hd).var k = H.var k from rfl, toW_isRef hlv, hr, Option.bind_some, if_neg (by decide)]
      have := newCellW_eq (c := newC .ref) (b := false) (ts := ts) (hd := hd) h z rfl
      rw [show (newC .ref).sort = .ref from rfl] at this
      rw [this, Option.bind_some]
      rw [show (toW (NC H (newC .ref)) ts hd).last = H.last + 1 from rfl]
      rw [show (⟨.ref, [(0, H.var k)], false⟩ : WC) = wc { newC .ref with slots := [(0, H.var k)], count := 1 } from rfl, ← toW_setC2, NC_setC]
      unfold WS.setVar
      rw [if_pos (by show H.vars.length ≤ _; have := z.vars; lia -abstractProof)]; rfl
    · refine h.add (c := { newC .ref with slots := [(0, H.var k)], count := 1 }) rfl (by simp) (fun j u hj => ?_) (fun _ => ⟨_, rfl, hr⟩) ?_ (nodup_put h.vnd) ?_ (fun m hm => ?_) fun m hm hg => ?_
      · have hj : (if (0 : Int) = j then some (H.var k) else none) = some u := hj
        by_cases e : (0 : Int) = j
        · lia -abstractProof
        · rw [if_neg e] at hj; o_facts hj
      · show one (H.var k) (H.last + 1) + 0 = 0; lia -abstractProof
      · have := e2 (H.last + 1)
        rw [one_self] at this
        show (1 : Int) = _; lia -abstractProof
      · have := e2 m
        rw [one_ne (fun e => hm e.symm)] at this
        show cntL m _ + (one (H.var k) m + 0) + x m = _; lia -abstractProof
      · rw [getK_putK] at hg
        by_cases e : -m = k
        · exact q m hm e.symm
        · rw [if_neg e] at hg; exact h.neg m hm hg
    · show (NC H { newC .ref with slots := [(0, H.var k)], count := 1 }).isRef (.cell (H.last + 1)) = true
      rw [isRef_some (v := .cell (H.last + 1)) (c := { newC .ref with slots := [(0, H.var k)], count := 1 }) NC_self]; rfl
    · have g1 : Grow (NC H { newC .ref with slots := [(0, H.var k)], count := 1 }) _ 0 1 0 0 0 0 := Grow.setVars (l := putK k (.cell (H.last + 1)) H.vars) (d := 1) (k := 0) (by
        have := len_put (k := k) (v := .cell (H.last + 1)) (l := H.vars)
        show _ ≤ H.vars.length + 1; lia -abstractProof)
      exact g0.trans g1

/-! holders -/
theorem lsN_filter : ∀ {l : List V}, (l.filter fun v => decide (v = .cell n)).length = lsN n l
  | [] => rfl
  | v :: r => by
    show _ = one v n + lsN n r
    unfold one
    by_cases q : v = .cell n
    · rw [List.filter_cons_of_pos (by simpa using q), if_pos q, List.length_cons, lsN_filter]; lia -abstractProof
    · rw [List.filter_cons_of_neg (by simpa using q), if_neg q, lsN_filter]; lia -abstractProof
theorem lsN_snd : ∀ {l : List (Int × V)}, lsN n (l.map (·.2)) = cntL n l
  | [] => rfl
  | p :: r => by show one p.2 n + lsN n (r.map (·.2)) = one p.2 n + cntL n r; rw [lsN_snd]
theorem lsN_reverse : ∀ {l : List V}, lsN n l.reverse = lsN n l
  | [] => rfl
  | v :: r => by rw [List.reverse_cons, lsN_append, lsN_reverse]; show _ + (one v n + 0) = one v n + _; lia -abstractProof
theorem lsN_flat {f : Int × WC → List V} : ∀ {l : List (Int × C)}, (∀ p ∈ l, f (p.1, wc p.2) = p.2.slots.map (·.2)) → lsN n ((l.map fun p => (p.1, wc p.2)).flatMap f) = sumF (fun c => cntL n c.slots) l
  | [], _ => rfl
  | p :: r, h => by
    rw [List.map_cons, List.flatMap_cons, lsN_append, h p (.head _), lsN_snd, lsN_flat fun q hq => h q (.tail _ hq)]; rfl
theorem len_flat {f : Int × WC → List V} : ∀ {l : List (Int × C)}, (∀ p ∈ l, f (p.1, wc p.2) = p.2.slots.map (·.2)) → ((l.map fun p => (p.1, wc p.2)).flatMap f).length = sumF (fun c => c.slots.length) l
  | [], _ => rfl
  | p :: r, h => by
    rw [List.map_cons, List.flatMap_cons, List.length_append, h p (.head _), List.length_map, len_flat fun q hq => h q (.tail _ hq)]; rfl
theorem HI.placeOf (h : HI H x) : ∀ p ∈ H.cells, (match getK p.1 (toW H ts hd).cells with | some c => c.slots.map (·.2) | none => []) = p.2.slots.map (·.2) := fun p hp => by
  rw [toW_get, getK_of_mem h.cnd hp]; rfl
theorem holders_eq (h : HI H x) : (toW H ts hd).holders n = cntH n H + (lsN n hd + lsN n (ts.filterMap loseV)) := by
  unfold WS.holders WS.places
  rw [lsN_filter, lsN_append, lsN_append, lsN_append, List.filterMap_reverse, lsN_reverse]
  have := lsN_flat (n := n) (f := fun p : Int × WC => match getK p.1 (toW H ts hd).cells with | some c => c.slots.map (·.2) | none => []) (l := H.cells) h.placeOf
  show lsN n (H.vars.map (·.2)) + lsN n hd + lsN n (ts.filterMap loseV) + lsN n (List.flatMap _ (H.cells.map fun p => (p.1, wc p.2))) = _
  refine (congrArg (fun t => lsN n (H.vars.map (·.2)) + lsN n hd + lsN n (ts.filterMap loseV) + t) this).trans ?_
  rw [lsN_snd]
  unfold cntH; lia -abstractProof
theorem small_ok (h : HI H x) (z : Sz H) (ht : ts.length ≤ 90000) (hh : hd.length ≤ 10) : (toW H ts hd).small = true := by
  unfold WS.small
  rw [Bool.and_eq_true, decide_eq_true_eq, decide_eq_true_eq]
  refine ⟨?_, by show ts.length ≤ _; lia -abstractProof⟩
  unfold WS.places
  have := len_flat (f := fun p : Int × WC => match getK p.1 (toW H ts hd).cells with | some c => c.slots.map (·.2) | none => []) (l := H.cells) h.placeOf
  have h1 : (ts.reverse.filterMap loseV).length ≤ ts.length := by
    have := List.length_filterMap_le loseV ts.reverse
    rwa [List.length_reverse] at this
  rw [List.length_append, List.length_append, List.length_append]
  show (H.vars.map (·.2)).length + hd.length + (ts.reverse.filterMap loseV).length + (List.flatMap _ (H.cells.map fun p => (p.1, wc p.2))).length ≤ _
  refine Nat.le_trans (Nat.le_of_eq (congrArg (fun t => (H.vars.map (·.2)).length + hd.length + (ts.reverse.filterMap loseV).length + t) this)) ?_
  rw [List.length_map]
  have := z.e
  unfold HS.E at this
  lia -abstractProof
end
end
/-! Q6 -/
section
set_option autoImplicit false

section
variable {H H' H'' : HS} {x y : Int → Nat} {n m k a : Int} {c c' cm : C} {v w : V} {ts : List T} {hd : List V} {l : List (Int × V)} {p : Pl}
theorem Grow.szz {a3 a4 a6 : Nat} (g : Grow H H' 0 0 a3 a4 0 a6) (z : Sz H) : Sz H' := by
  have l1 := g.last; have e1 := g.e; have o1 := g.log; have := z.e; have := z.last; have := z.log
  exact ⟨by lia -abstractProof, by lia -abstractProof, by lia -abstractProof⟩
theorem HI.setLog {g : List L} (h : HI H x) : HI { H with log := g } x := ⟨h.asc, h.rng, h.lst, h.vnd, h.snd, h.skey, h.cnt, h.live, h.ref, h.bnd, h.buf, h.bref, h.neg⟩
theorem Grow.setLog {g : List L} {d : Nat} (hg : g.length ≤ H.log.length + d) : Grow H { H with log := g } 0 0 0 0 d 0 :=
  ⟨⟨Int.le_refl _, by show H.last ≤ H.last + 0; lia -abstractProof⟩, Nat.le_refl _, Nat.le_refl _, Nat.le_refl _, hg, fun _ h => .inl h, fun _ c h => ⟨c, h, rfl⟩⟩
theorem HI.slots3 (h : HI H x) (hc : getK n H.cells = some c) : c.slots.length ≤ 3 := by
  have := sub_len (l := c.slots.map (·.1)) (m := [0, 1, 2]) (h.snd n c hc) fun j hj => by
    refine e1a2 (List.mem_map.mp hj) fun q hq e2_ => ?_; subst e2_
    refine e0a2 (h.skey n c q.1 q.2 hc (getK_of_mem (h.snd n c hc) hq)) fun h1 h2 => ?_
    have : q.1 = 0 ∨ q.1 = 1 ∨ q.1 = 2 := by lia -abstractProof
    rcases this with h | h | h <;> simp [h]
  rwa [List.length_map] at this

/- who holds: the one extra table is the hand and the tasks -/
structure XW (x : Int → Nat) (ts : List T) (hd : List V) : Prop where
  x : ∀ n, x n = lsN n hd + lsN n (ts.filterMap loseV)
  ht : ts.length ≤ 90000
  hh : hd.length ≤ 10
theorem count_holders (h : HI H x) (X : XW x ts hd) (hc : getK n H.cells = some c) : c.count = ((toW H ts hd).holders n : Int) := by
  rw [h.cnt n c hc, holders_eq h, X.x]

theorem inCopy_ok (h : HI H x) (z : Sz H) (X : XW x ts hd) (hc : getK a H.cells = some c) (hv : getK k c.slots = some v) : ∃ w, H.inCopy a v = some w ∧ (toW H ts hd).inCopy a v = some w ∧ LiveV H w := by
  have hlv := h.liveSlot hc hv
  unfold HS.inCopy WS.inCopy
  rw [toW_isRef hlv, Option.bind_some]
  cases hr : H.isRef v with
  | false =>
    refine ⟨v, ?_, rfl, hlv⟩
    cases hco : H.cellOf v with
    | none => rfl
    | some d =>
      rw [isRef_some hco, decide_eq_false_iff_not] at hr
      show (if d.sort ≠ .ref then some v else _) = _
      rw [if_pos hr]
  | true =>
    refine e3a6 (h.refOf hr) fun n d u e3_ hd' hs hl hu hlu => ?_; subst e3_
    have hcount := count_holders h X hd'
    have hpos : cntH n H ≥ 1 := by
      have h1 : one (.cell n) n ≤ cntL n c.slots := sumF_get (f := fun v => one v n) hv
      have h2 : cntL n c.slots ≤ sumF (fun c => cntL n c.slots) H.cells := sumF_get (f := fun c : C => cntL n c.slots) hc
      rw [one_self] at h1
      unfold cntH; lia -abstractProof
    have hcnt := h.cnt n d hd'
    rw [if_pos rfl, small_ok h z X.ht X.hh, if_pos rfl, show H.cellOf (.cell n) = some d from hd', show V.num (.cell n) = n from rfl]
    show ∃ w, (if d.sort ≠ .ref then some (V.cell n) else if d.count > 1 then some (V.cell n) else _) = some w ∧ _
    rw [if_neg (fun q => q hs)]
    by_cases q : d.count > 1
    · rw [if_pos q, if_neg (by lia -abstractProof)]
      exact ⟨_, rfl, rfl, hlv⟩
    · rw [if_neg q, if_pos (by lia -abstractProof), hl]
      have hi : (toW H ts hd).inner (.cell n) = some u := by
        unfold WS.inner
        rw [toW_isRef hlv, hr, Option.bind_some, if_pos rfl, show V.num (.cell n) = n from rfl, toW_get, hd']
        show getK 0 d.slots = some u
        rw [hl]; rfl
      rw [hi]
      refine ⟨if u = .cell a then .cell n else u, rfl, rfl, ?_⟩
      by_cases q2 : u = .cell a
      · rw [if_pos q2]; exact hlv
      · rw [if_neg q2]; exact hlu

theorem copyStep_ok (h : HI H x) (z : Sz H) (X : XW x ts hd) (hc : getK a H.cells = some c) (hv : getK k c.slots = some v) (hm : getK m H.cells = some cm) (hms : cm.sort = .array) (hkey : getK k cm.slots = none) (ham : a ≠ m) :
    ∃ H', HS.copyStep a m H k = some H' ∧ WS.copyStep a m (toW H ts hd) k = some (toW H' ts hd) ∧ HI H' x ∧ Grow H H' 0 1 0 0 0 0 ∧ (∃ c', getK a H'.cells = some c' ∧ c'.slots = c.slots) ∧
      ∃ cm', getK m H'.cells = some cm' ∧ cm'.sort = .array ∧ cm'.slots.map (·.1) = cm.slots.map (·.1) ++ [k] := by
  refine e1a3 (inCopy_ok h z X hc hv) fun w hw1 hw2 hlw => ?_
  refine e0a4 (gain_ok h hlw) fun g1 g2 g3 g4 => ?_
  refine e1a2 (g4 m cm hm) fun cm1 hm1 em1 => ?_
  refine e1a2 (g4 a c hc) fun c1 hc1 ec1 => ?_
  have es : cm1.sort = cm.sort := congrArg WC.sort em1
  have el : cm1.slots = cm.slots := congrArg WC.slots em1
  have el1 : c1.slots = c.slots := congrArg WC.slots ec1
  have hpl : (H.gain w).pl (.slots m) = some cm.slots := by show (getK m (H.gain w).cells).map _ = _; rw [hm1, ← el]; rfl
  refine e0a4 (replaced_at (p := .slots m) (k := k) g1 (g3.szz z) ⟨cm1, hm1, h.skey a c k v hc hv, fun q => by rw [es, hms] at q; cases q⟩ hpl) fun r1 r2 r3 r4 => ?_
  have hH : (H.gain w).setPl (.slots m) (putK k w cm.slots) = (H.gain w).setC m { cm1 with slots := putK k w cm.slots } := by
    show (match getK m (H.gain w).cells with | some c => (H.gain w).setC m { c with slots := putK k w cm.slots } | none => H.gain w) = _
    rw [hm1]
  rw [hH, hkey] at r3 r4
  have zs := z.slots hm
  refine ⟨(H.gain w).setC m { cm1 with slots := putK k w cm.slots }, ?_, ?_, r3.congr fun _ => rfl, g3.trans r4, ⟨c1, ?_, el1⟩, ⟨{ cm1 with slots := putK k w cm.slots }, ?_, by show cm1.sort = _; rw [es, hms], keys_put_none hkey⟩⟩
  · unfold HS.copyStep
    rw [hc, Option.bind_some, hv, Option.bind_some, hw1, Option.bind_some, hm1, Option.bind_some, el, if_pos (by lia -abstractProof)]
  · unfold WS.copyStep
    rw [toW_get, hc]
    show ((getK k c.slots).bind _) = _
    rw [hv, Option.bind_some, hw2, Option.bind_some, toW_get, hm]
    show (if cm.slots.length ≤ 1000000 then some ((toW H ts hd).setC m ⟨cm.sort, putK k w cm.slots, cm.due⟩) else none) = _
    rw [if_pos (by lia -abstractProof), toW_setC2, g2]
    show _ = some ((toW H ts hd).setC m ⟨(wc cm1).sort, putK k w cm.slots, (wc cm1).due⟩)
    rw [em1]; rfl
  · rw [getK_setC, if_neg ham, hc1]
  · rw [getK_setC, if_pos rfl]

theorem copyLoop_ok (X : XW x ts hd) (ham : a ≠ m) : ∀ (ks : List Int) {H : HS} {c cm : C}, HI H x → H.E + ks.length ≤ 90000 → H.last ≤ 90000 → H.log.length ≤ 90000 → getK a H.cells = some c → getK m H.cells = some cm → cm.sort = .array →
    ks.Nodup → (∀ k ∈ ks, getK k cm.slots = none ∧ (getK k c.slots).isSome) → ∃ H', ks.foldlM (HS.copyStep a m) H = some H' ∧ ks.foldlM (WS.copyStep a m) (toW H ts hd) = some (toW H' ts hd) ∧ HI H' x ∧ Grow H H' 0 ks.length 0 0 0 0 ∧ ∃ cm', getK m H'.cells = some cm' ∧ cm'.sort = .array
  | [], H, c, cm, h, _, _, _, _, hm, hs, _, _ => ⟨H, rfl, rfl, h, Grow.refl, cm, hm, hs⟩
  | k :: ks, H, c, cm, h, z1, z2, z3, hc, hm, hs, nd, hk => by
    rw [List.nodup_cons] at nd
    rw [List.length_cons] at z1
    refine e1a1 (Option.isSome_iff_exists.mp (hk k (.head _)).2) fun v hv => ?_
    obtain ⟨H1, e1, e2, h1, g1, ⟨c1, hc1, ec1⟩, cm1, hm1, hs1, ek1⟩ := copyStep_ok h ⟨by lia -abstractProof, z2, z3⟩ X hc hv hm hs (hk k (.head _)).1 ham
    have gl := g1.last; have ge := g1.e; have gg := g1.log
    obtain ⟨H2, e3, e4, h2, g2, r⟩ := copyLoop_ok X ham ks h1 (by lia -abstractProof) (by lia -abstractProof) (by lia -abstractProof) hc1 hm1 hs1 nd.2 fun j hj => by
      refine ⟨getK_none_iff.mpr ?_, by rw [ec1]; exact (hk j (.tail _ hj)).2⟩
      rw [ek1, List.mem_append, List.mem_singleton]
      rintro (q | q)
      · exact getK_none_iff.mp (hk j (.tail _ hj)).1 q
      · exact nd.1 (q ▸ hj)
    refine ⟨H2, ?_, ?_, h2, (g1.trans g2).le (by lia -abstractProof) (by rw [List.length_cons]; lia -abstractProof) (by lia -abstractProof) (by lia -abstractProof) (by lia -abstractProof), r⟩
    · rw [List.foldlM_cons, e1]; exact e3
    · rw [List.foldlM_cons, e2]; exact e4

theorem copied_ok (h : HI H x) (z : Sz0 H) (X : XW x ts hd) (hc : getK a H.cells = some c) : ∃ H', H.copied a = some (H', H.last + 1) ∧ (toW H ts hd).copied a = some (toW H' ts hd, H.last + 1) ∧ HI H' x ∧
    (∃ cm, getK (H.last + 1) H'.cells = some cm ∧ cm.sort = .array) ∧ Grow H H' 1 3 1 0 1 0 := by
  have z' := z.sz
  have z0 := h.zero h.fresh
  have zl := z.log; have zls := z.last; have ze := z.e
  have h1 : HI (NC H (newC .array)) x := h.nc rfl (by decide) rfl (by show (0 : Int) = _; lia -abstractProof) fun _ _ => rfl
  have g1 : Grow H (NC H (newC .array)) 1 0 1 0 0 0 := Grow.nc h
  have h2 : HI { NC H (newC .array) with log := H.log ++ [.copy a (H.last + 1)] } x := h1.setLog
  have g2 : Grow (NC H (newC .array)) { NC H (newC .array) with log := H.log ++ [.copy a (H.last + 1)] } 0 0 0 0 1 0 := Grow.setLog (by rw [List.length_append]; exact Nat.le_refl _)
  have g12 := g1.trans g2
  have ham : a ≠ H.last + 1 := fun q => by have := h.rng a c hc; lia -abstractProof
  have s3 := h.slots3 hc
  have gl := g12.last; have ge := g12.e; have gg := g12.log
  obtain ⟨H', e1, e2, h3, g3, r⟩ := copyLoop_ok (a := a) (m := H.last + 1) X ham (c.slots.map (·.1)) (c := c) (cm := newC .array) h2 (by rw [List.length_map]; lia -abstractProof) (by lia -abstractProof) (by lia -abstractProof)
    (by show getK a (NC H (newC .array)).cells = _; rw [NC_get, if_neg ham, hc]) NC_self rfl (h.snd a c hc) fun j hj => ⟨rfl, by
      refine e1a2 (List.mem_map.mp hj) fun q hq e2_ => ?_; subst e2_
      rw [getK_of_mem (h.snd a c hc) hq]; rfl⟩
  refine ⟨H', ?_, ?_, h3, r, (g12.trans g3).le (by lia -abstractProof) (by rw [List.length_map]; lia -abstractProof) (by lia -abstractProof) (by lia -abstractProof) (by lia -abstractProof)⟩
  · unfold HS.copied
    rw [hc, Option.bind_some, newCell_eq h z', Option.bind_some, if_pos (by show H.log.length ≤ _; lia -abstractProof)]
    show ((c.slots.map (·.1)).foldlM (HS.copyStep a (H.last + 1)) { NC H (newC .array) with log := H.log ++ [.copy a (H.last + 1)] }).map _ = _
    rw [e1]; rfl
  · unfold WS.copied
    rw [toW_get, hc]
    have := newCellW_eq (c := newC .array) (b := false) (ts := ts) (hd := hd) h z' rfl
    rw [show (newC .array).sort = .array from rfl] at this
    show ((toW H ts hd).newCell .array false).bind _ = _
    rw [this, Option.bind_some, if_pos ⟨by show H.log.length ≤ _; lia -abstractProof, by show c.slots.length ≤ _; lia -abstractProof⟩]
    show ((c.slots.map (·.1)).foldlM (WS.copyStep a (H.last + 1)) (toW { NC H (newC .array) with log := H.log ++ [.copy a (H.last + 1)] } ts hd)).map _ = _
    rw [e2]; rfl

theorem container_ok (h : HI H x) (z : Sz0 H) (X : XW x ts hd) (q : PlOK H k (.int 0) .vars) (hv : H.valueOf k = some (.cell a)) : ∃ H' n ls, H.container k = some (H', n, ls) ∧ (toW H ts hd).slotsOf k = some (toW H' ts hd, n, ls) ∧
    HI H' (fun j => x j + lsN j ls) ∧ OutOK H' (.slots n) ∧ Grow H H' 1 4 1 0 1 ls.length := by
  have z' := z.sz
  refine e1a4 (value_ok (k := k) h) fun w hw1 hw2 hw3 hw4 => ?_
  rw [hv] at hw1; o_facts hw1
  refine e1a1 (hw3.get) fun c hc => ?_
  have hs : c.sort ≠ .ref := by rw [isRef_some (v := .cell a) hc, decide_eq_false_iff_not] at hw4; exact hw4
  have hcount := count_holders h X hc
  unfold HS.container WS.slotsOf
  rw [hv, hw2, Option.bind_some, Option.bind_some, show V.num (.cell a) = a from rfl, toW_get, hc, small_ok h z' X.ht X.hh]
  show ∃ H' n ls, (if c.sort = .object then some (H, a, []) else if c.count = 1 then some (H, a, []) else _) = some (H', n, ls) ∧ (if c.sort = .object then some (toW H ts hd, a, []) else if true = true then if (toW H ts hd).holders a = 1 then some (toW H ts hd, a, []) else _ else none) = _ ∧ _
  by_cases qo : c.sort = .object
  · rw [if_pos qo, if_pos qo]
    exact ⟨_, _, _, rfl, rfl, h.congr fun _ => rfl, ⟨c, hc, hs⟩, Grow.refl.le (by lia -abstractProof) (by show 0 + 0 ≤ 4 + 0; lia -abstractProof) (by lia -abstractProof) (by lia -abstractProof) (by lia -abstractProof)⟩
  rw [if_neg qo, if_neg qo, if_pos rfl]
  by_cases q1 : c.count = 1
  · rw [if_pos q1, if_pos (by lia -abstractProof)]
    exact ⟨_, _, _, rfl, rfl, h.congr fun _ => rfl, ⟨c, hc, hs⟩, Grow.refl.le (by lia -abstractProof) (by show 0 + 0 ≤ 4 + 0; lia -abstractProof) (by lia -abstractProof) (by lia -abstractProof) (by lia -abstractProof)⟩
  rw [if_neg q1, if_neg (by lia -abstractProof)]
  obtain ⟨H1, e1, e2, h1, ⟨cm, hcm, hcs⟩, g1⟩ := copied_ok h z X hc
  refine e0a4 (gain_ok h1 (v := .cell (H.last + 1)) (LiveV.cell hcm)) fun g21 g22 g23 g24 => ?_
  refine e1a2 (g24 _ cm hcm) fun cm2 hcm2 ecm2 => ?_
  have es2 : cm2.sort = .array := (congrArg WC.sort ecm2).trans hcs
  have g12 := g1.trans g23
  refine e2a4 (written_ok (p := .vars) (k := k) g21 (g12.sz z (by lia -abstractProof)) (g12.plVars q) (by rw [isRef_some (v := .cell (H.last + 1)) hcm2, es2]; rfl)) fun H3 ls e3 e4 h3 g3 => ?_
  have g := g12.trans g3
  refine e1a2 (g3.keep _ cm2 hcm2) fun cm3 hcm3 es3 => ?_
  refine ⟨H3, H.last + 1, ls, ?_, ?_, h3, ⟨cm3, hcm3, by rw [es3, es2]; decide⟩, g.le (by lia -abstractProof) (by lia -abstractProof) (by lia -abstractProof) (by lia -abstractProof) (by lia -abstractProof)⟩
  · rw [e1, Option.bind_some, hcm, Option.bind_some, e3]; rfl
  · rw [e2, Option.bind_some, toW_get, hcm]
    show ((toW H1 ts hd).write .vars k (.cell (H.last + 1)) true).map _ = _
    rw [← g22, e4]; rfl
end
end
/-! Q7 -/
section
set_option autoImplicit false

section
variable {H H' H'' : HS} {x y : Int → Nat} {n m k j a : Int} {c c' cm : C} {v w : V} {ts : List T} {hd : List V} {l : List (Int × V)} {p : Pl}
theorem Grow.sz0 {a3 a4 a6 : Nat} (g : Grow H H' 0 0 a3 a4 0 a6) (z : Sz0 H) : Sz0 H' := by
  have l1 := g.last; have e1 := g.e; have o1 := g.log; have := z.e; have := z.last; have := z.log
  exact ⟨by lia -abstractProof, by lia -abstractProof, by lia -abstractProof⟩
structure SzS (H : HS) : Prop where
  e : H.E ≤ 80000
  last : H.last ≤ 80000
  log : H.log.length ≤ 80000
theorem SzS.sz0 (z : SzS H) : Sz0 H := ⟨by have := z.e; lia -abstractProof, by have := z.last; lia -abstractProof, by have := z.log; lia -abstractProof⟩
theorem Grow.szs {a1 a2 a3 a4 a5 a6 : Nat} (g : Grow H H' a1 a2 a3 a4 a5 a6) (z : SzS H) (h : a1 + a2 + a5 ≤ 1000) : Sz0 H' := by
  have l1 := g.last; have e1 := g.e; have o1 := g.log; have := z.e; have := z.last; have := z.log
  exact ⟨by lia -abstractProof, by lia -abstractProof, by lia -abstractProof⟩
theorem HI.one0 (h : HI H x) {i : Int} : HI H (fun n => x n + one (.int i) n) := h.congr fun _ => rfl

theorem inner_of (hc : getK n H.cells = some c) (hs : c.sort = .ref) : H.inner (.cell n) = getK 0 c.slots := by
  unfold HS.inner
  rw [isRef_some (v := .cell n) hc, hs]
  show (getK n H.cells).bind _ = _
  rw [hc]; rfl
theorem inner_same (e : getK n H'.cells = getK n H.cells) : H'.inner (.cell n) = H.inner (.cell n) := by
  unfold HS.inner HS.isRef HS.cellOf; simp only [e]
theorem refIn_value (h : HI H x) (z : Sz H) {r : HS × V} (e : H.refIn k = some r) : r.1.valueOf j = H.valueOf j := by
  have key : ∀ HX : HS, H.isRef (H.var k) = false → HX.vars = putK k (.cell (H.last + 1)) H.vars → getK (H.last + 1) HX.cells = some { newC .ref with slots := [(0, H.var k)], count := 1 } → (∀ i, i ≠ H.last + 1 → getK i HX.cells = getK i H.cells) → HX.valueOf j = H.valueOf j := fun HX hr h1 h2 h3 => by
    unfold HS.valueOf
    by_cases qj : j = k
    · subst qj
      rw [show HX.var j = .cell (H.last + 1) by unfold HS.var; rw [h1, getK_putK, if_pos rfl]; rfl, inner_of h2 rfl]
      unfold HS.inner
      rw [hr]; rfl
    · rw [show HX.var j = H.var j by unfold HS.var; rw [h1, getK_putK, if_neg qj]]
      have hj := h.liveVar (k := j)
      cases hv : H.var j with
      | int i => rfl
      | cell i =>
        rw [hv] at hj
        refine e1a1 (hj.get) fun d hd => ?_
        exact inner_same (h3 i fun q => by rw [q, h.fresh] at hd; o_facts hd)
  unfold HS.refIn at e
  cases hr : H.isRef (H.var k) with
  | true => rw [hr, if_pos rfl] at e; o_facts e; rfl
  | false =>
    rw [hr, if_neg (by decide), newCell_eq h z, Option.bind_some, show (NC H (newC .ref)).last = H.last + 1 from rfl, NC_setC, NC_gain] at e
    unfold HS.setVar at e
    rw [if_pos (by show H.vars.length ≤ _; have := z.vars; lia -abstractProof)] at e
    o_facts e
    exact key _ hr rfl NC_self fun i hi => by
      show getK i (NC H _).cells = _
      rw [NC_get, if_neg hi]

theorem gain_value (h : HI H x) (hl : LiveV H v) : (H.gain v).valueOf j = H.valueOf j := by
  refine e0a4 (gain_ok h hl) fun g1 g2 _ _ => ?_
  refine e1a3 (value_ok (k := j) h) fun w h1 h2 _ => ?_
  refine e1a3 (value_ok (k := j) g1) fun w' h3 h4 _ => ?_
  have a := h2 [] []
  have b := h4 [] []
  rw [g2] at b
  rw [h1, h3]; rw [a] at b; exact b.symm

theorem new_written (h : HI H x) (z : Sz0 H) (q : PlOK H k (.int 0) .vars) (hs : c.sort ≠ .ref) (hl : c.slots = []) (hb : c.buf = false) (hc : c.count = 1) : ∃ H' ls, (NC H c).written .vars k (.cell (H.last + 1)) = some (H', ls) ∧
    (∀ ts hd, (toW (NC H c) ts hd).write .vars k (.cell (H.last + 1)) true = some (toW H' ts hd, ls)) ∧ HI H' (fun n => x n + lsN n ls) ∧ Grow H H' 1 1 1 1 0 ls.length := by
  have z0 := h.zero h.fresh
  have h1 : HI (NC H c) (fun n => x n + one (.cell (H.last + 1)) n) := h.nc hb hs hl (by rw [hc, one_self, show x (H.last + 1) = 0 by lia -abstractProof]; rfl) fun m hm => by rw [one_ne fun e => hm e.symm]; rfl
  have g1 : Grow H (NC H c) 1 0 1 1 0 0 := (Grow.nc (c := c) h).le (by lia -abstractProof) (by rw [hl]; exact Nat.le_refl _) (by split <;> lia -abstractProof) (by split <;> lia -abstractProof) (by lia -abstractProof)
  refine e2a4 (written_ok (p := .vars) (k := k) h1 (g1.sz z (by lia -abstractProof)) (g1.plVars q) (by rw [isRef_some (v := .cell (H.last + 1)) (c := c) NC_self, decide_eq_false_iff_not]; exact hs)) fun H' ls e1 e2 h2 g2 => ?_
  exact ⟨H', ls, e1, e2, h2, (g1.trans g2).le (by lia -abstractProof) (by lia -abstractProof) (by lia -abstractProof) (by lia -abstractProof) (by lia -abstractProof)⟩

theorem gain_written (h : HI H x) (z : Sz0 H) (q : PlOK H k (.int 0) .vars) (hl : LiveV H v) (hr : H.isRef v = false) : ∃ H' ls, (H.gain v).written .vars k v = some (H', ls) ∧
    (∀ ts hd, (toW H ts hd).write .vars k v true = some (toW H' ts hd, ls)) ∧ HI H' (fun n => x n + lsN n ls) ∧ Grow H H' 0 1 0 0 0 ls.length := by
  refine e0a4 (gain_ok h hl) fun g1 g2 g3 _ => ?_
  refine e2a4 (written_ok (p := .vars) (k := k) g1 (g3.sz z (by lia -abstractProof)) (g3.plVars q) (by rw [g3.isRef hl]; exact hr)) fun H' ls e1 e2 h2 g4 => ?_
  exact ⟨H', ls, e1, fun ts hd => by rw [← g2]; exact e2 ts hd, h2, (g3.trans g4).le (by lia -abstractProof) (by lia -abstractProof) (by lia -abstractProof) (by lia -abstractProof) (by lia -abstractProof)⟩

theorem joinL_ok {l : List V} {z : HS × List V} (h : l.length + z.2.length ≤ 1000000) : joinL l z = some (z.1, l ++ z.2) := if_pos h
theorem joinW_ok {l : List V} {z : WS × List V} (h : l.length + z.2.length ≤ 1000000) : joinW l z = some (z.1, l ++ z.2) := if_pos h

/- a value v (held in hand) put into the container in k -/
theorem put_ok (h : HI H x) (z : Sz0 H) (X : XW x ts []) (q : PlOK H k (.int 0) .vars) (hl : LiveV H v) (hk : 0 ≤ j ∧ j ≤ 2) (ha : H.valueOf k = some (.cell a)) : ∃ H1 n ls1, (H.gain v).container k = some (H1, n, ls1) ∧
    (toW H ts [v]).slotsOf k = some (toW H1 ts [v], n, ls1) ∧ HI H1 (fun i => x i + lsN i ls1 + one v i) ∧ Grow H H1 1 4 1 0 1 ls1.length ∧ PlOK H1 j v (.slots n) := by
  refine e0a4 (gain_ok h hl) fun g1 g2 g3 _ => ?_
  obtain ⟨H1, n, ls1, e1, e2, h1, ⟨c1, hc1, hs1⟩, g4⟩ := container_ok (ts := ts) (hd := [v]) (k := k) (a := a) g1 (g3.sz0 z) ⟨fun i => by rw [X.x i]; show 0 + _ + _ = one v i + 0 + _; lia -abstractProof, X.ht, by show 1 ≤ 10; lia -abstractProof⟩ (g3.plVars q) (by rw [gain_value h hl]; exact ha)
  rw [g2] at e2
  exact ⟨H1, n, ls1, e1, e2, h1.congr fun i => by show _ + one v i + _ = _; lia -abstractProof, (g3.trans g4).le (by lia -abstractProof) (by lia -abstractProof) (by lia -abstractProof) (by lia -abstractProof) (by lia -abstractProof), c1, hc1, hk, fun q => absurd q hs1⟩

theorem change_ok {d : D} (h : HI H x) (zs : SzS H) (X : XW x ts []) (hx : ∀ k ∈ d.vs, PlOK H k (.int 0) .vars) (hk : ∀ k ∈ d.ks, 0 ≤ k ∧ k ≤ 2) : ∃ H' ls, H.change d = some (H', ls) ∧ (toW H ts []).change d = some (toW H' ts [], ls) ∧
    HI H' (fun j => x j + lsN j ls) ∧ Grow H H' 2 8 1 1 1 ls.length := by
  have z := zs.sz0
  have z' := z.sz
  have zero : Grow H H 2 8 1 1 1 ([] : List V).length := Grow.refl.le (by lia -abstractProof) (by show 0 + 0 ≤ 8 + 0; lia -abstractProof) (by lia -abstractProof) (by lia -abstractProof) (by lia -abstractProof)
  cases d with
  | setInt k i =>
    refine e2a4 (written_ok (p := .vars) (k := k) (v := .int i) h.one0 z' (hx k (by simp [D.vs])) rfl) fun H' ls e1 e2 h1 g1 => ?_
    exact ⟨H', ls, e1, e2 _ _, h1, g1.le (by lia -abstractProof) (by lia -abstractProof) (by lia -abstractProof) (by lia -abstractProof) (by lia -abstractProof)⟩
  | newArray k =>
    refine e2a4 (new_written (c := { newC .array with count := 1 }) h z (hx k (by simp [D.vs])) (by show K.array ≠ K.ref; decide) rfl rfl rfl) fun H' ls e1 e2 h1 g1 => ?_
    refine ⟨H', ls, ?_, ?_, h1, g1.le (by lia -abstractProof) (by lia -abstractProof) (by lia -abstractProof) (by lia -abstractProof) (by lia -abstractProof)⟩
    · show (H.newCell .array).bind _ = _
      rw [newCell_eq h z', Option.bind_some, show (NC H (newC .array)).last = H.last + 1 from rfl, NC_gain]; exact e1
    · show ((toW H ts []).newCell (newC .array).sort false).bind _ = _
      rw [newCellW_eq h z' rfl, Option.bind_some, NC_toW_eq (c := newC .array) (c' := { newC .array with count := 1 }) rfl]; exact e2 _ _
  | newObject k b =>
    refine e2a4 (new_written (c := { newC .object with count := 1, hasD := b }) h z (hx k (by simp [D.vs])) (by show K.object ≠ K.ref; decide) rfl rfl rfl) fun H' ls e1 e2 h1 g1 => ?_
    refine ⟨H', ls, ?_, ?_, h1, g1.le (by lia -abstractProof) (by lia -abstractProof) (by lia -abstractProof) (by lia -abstractProof) (by lia -abstractProof)⟩
    · show (H.newCell .object).bind _ = _
      rw [newCell_eq h z', Option.bind_some, show (NC H (newC .object)).last = H.last + 1 from rfl, NC_gain, NC_self, Option.bind_some, NC_setC]; exact e1
    · show ((toW H ts []).newCell (newC .object).sort b).bind _ = _
      have := newCellW_eq (c := { newC .object with count := 1, hasD := b }) (b := b) (ts := ts) (hd := []) h z' (by cases b <;> rfl)
      rw [show (newC .object).sort = ({ newC .object with count := 1, hasD := b } : C).sort from rfl, this, Option.bind_some]; exact e2 _ _
  | assign k j =>
    refine e1a4 (value_ok (k := j) h) fun w h1 h2 h3 h4 => ?_
    refine e2a4 (gain_written (k := k) h z (hx k (by simp [D.vs])) h3 h4) fun H' ls e1 e2 h5 g1 => ?_
    refine ⟨H', ls, ?_, ?_, h5, g1.le (by lia -abstractProof) (by lia -abstractProof) (by lia -abstractProof) (by lia -abstractProof) (by lia -abstractProof)⟩
    · show (H.valueOf j).bind _ = _
      rw [h1]; exact e1
    · show ((toW H ts []).valueOf j).bind _ = _
      rw [h2]; exact e2 _ _
  | put k i j =>
    refine e1a4 (value_ok (k := k) h) fun u hu1 hu2 _ _ => ?_
    show ∃ H' ls, ((H.valueOf k).map V.isCell).bind _ = _ ∧ ((toW H ts []).valueOf k).bind _ = _ ∧ _
    rw [hu1, hu2, Option.map_some, Option.bind_some, Option.bind_some]
    cases u with
    | int i => exact ⟨H, [], rfl, rfl, h.congr fun _ => rfl, zero⟩
    | cell a =>
      refine e1a4 (value_ok (k := j) h) fun v hv1 hv2 hv3 hv4 => ?_
      refine e3a5 (put_ok (k := k) (j := i) h z X (hx k (by simp [D.vs])) hv3 (hk i (by simp [D.ks])) hu1) fun H1 n ls1 e1 e2 h1 g1 q1 => ?_
      refine e2a4 (written_ok (p := .slots n) (k := i) (x := fun i => x i + lsN i ls1) h1 (g1.sz z (by lia -abstractProof)) q1 (by rw [g1.isRef hv3]; exact hv4)) fun H2 ls2 e3 e4 h2 g2 => ?_
      have ge1 := g1.e; have ge2 := g2.e; have ze := z.e
      have hlen : ls1.length + ls2.length ≤ 1000000 := by lia -abstractProof
      refine ⟨H2, ls1 ++ ls2, ?_, ?_, h2.congr fun i => by rw [lsN_append]; lia -abstractProof, (g1.trans g2).le (by lia -abstractProof) (by rw [List.length_append]; lia -abstractProof) (by lia -abstractProof) (by lia -abstractProof) (by lia -abstractProof)⟩
      · rw [if_pos (show (V.cell a).isCell = true from rfl), hv1, Option.bind_some, e1, Option.bind_some, e3]
        exact joinL_ok (z := (H2, ls2)) hlen
      · rw [if_pos (show (V.cell a).isCell = true from rfl), hv2, Option.bind_some]
        show ((toW H ts [v]).slotsOf k).bind _ = _
        rw [e2, Option.bind_some]
        show (((toW H1 ts [v]).write (.slots n) i v true).bind fun u => (joinW ls1 u).bind popHand) = _
        rw [e4, Option.bind_some, joinW_ok (z := (toW H2 ts [v], ls2)) hlen]; rfl
  | take k y i =>
    refine e1a4 (value_ok (k := y) h) fun u hu1 hu2 hu3 hu4 => ?_
    have key : ∃ v, (if u.isCell = true then (H.valueOf y).bind fun w => (H.cellOf w).bind fun c => H.inner ((getK i c.slots).getD (.int 0)) else some (.int 0)) = some v ∧ (toW H ts []).takeV y i = some v ∧ LiveV H v ∧ H.isRef v = false := by
      unfold WS.takeV
      rw [hu1, hu2]
      cases u with
      | int i => exact ⟨.int 0, rfl, rfl, LiveV.int, rfl⟩
      | cell a =>
        refine e1a1 (hu3.get) fun c hc => ?_
        have hl : LiveV H ((getK i c.slots).getD (.int 0)) := by
          cases hg : getK i c.slots with
          | none => exact LiveV.int
          | some v => exact h.liveSlot hc hg
        refine e1a4 (inner_ok h hl) fun v e1 e2 e3 e4 => ?_
        refine ⟨v, ?_, ?_, e3, e4⟩
        · show (getK a H.cells).bind _ = _
          rw [hc]; exact e1
        · show (getK a (toW H ts []).cells).bind _ = _
          rw [toW_get, hc]; exact e2 _ _
    refine e1a4 (key) fun v k1 k2 k3 k4 => ?_
    refine e2a4 (gain_written (k := k) h z (hx k (by simp [D.vs])) k3 k4) fun H' ls e1 e2 h5 g1 => ?_
    refine ⟨H', ls, ?_, ?_, h5, g1.le (by lia -abstractProof) (by lia -abstractProof) (by lia -abstractProof) (by lia -abstractProof) (by lia -abstractProof)⟩
    · show ((H.valueOf y).map V.isCell).bind (fun b => (if b = true then (H.valueOf y).bind fun w => (H.cellOf w).bind fun c => H.inner ((getK i c.slots).getD (.int 0)) else some (.int 0)).bind fun v => (H.gain v).written .vars k v) = _
      rw [show (H.valueOf y).map V.isCell = some u.isCell by rw [hu1]; rfl, Option.bind_some, k1]; exact e1
    · show ((toW H ts []).takeV y i).bind _ = _
      rw [k2]; exact e2 _ _
  | makeRef k j =>
    refine e2a6 (refIn_ok (k := j) h z' (hx j (by simp [D.vs]))) fun H1 r e1 e2 h1 hl hr g1 => ?_
    refine e0a4 (gain_ok h1 hl) fun a1 a2 a3 _ => ?_
    have g12 := g1.trans a3
    have q := g12.plVars (w := r) (hx k (by simp [D.vs]))
    refine e2a4 (replaced_ok (p := .vars) (k := k) a1 (g12.sz z (by lia -abstractProof)) q) fun H2 ls e3 e4 h2 g2 => ?_
    refine ⟨H2, ls, ?_, ?_, h2, (g12.trans g2).le (by lia -abstractProof) (by lia -abstractProof) (by lia -abstractProof) (by lia -abstractProof) (by lia -abstractProof)⟩
    · show (H.refIn j).bind _ = _
      rw [e1]; exact e3
    · show ((toW H ts []).refIn j).bind _ = _
      rw [e2, Option.bind_some]
      show (toW H1 ts []).write .vars k r false = _
      rw [← a2, write_false q]; exact e4 _ _
  | putRef k i j =>
    refine e1a4 (value_ok (k := k) h) fun u hu1 hu2 _ _ => ?_
    show ∃ H' ls, ((H.valueOf k).map V.isCell).bind _ = _ ∧ ((toW H ts []).valueOf k).bind _ = _ ∧ _
    rw [hu1, hu2, Option.map_some, Option.bind_some, Option.bind_some]
    cases u with
    | int i => exact ⟨H, [], rfl, rfl, h.congr fun _ => rfl, zero⟩
    | cell a =>
      refine e2a6 (refIn_ok (k := j) h z' (hx j (by simp [D.vs]))) fun H0 r e1 e2 h0 hl hr g0 => ?_
      have hv0 := refIn_value (j := k) h z' e1
      refine e3a5 (put_ok (k := k) (j := i) h0 (g0.szs zs (by lia -abstractProof)) X (g0.plVars (hx k (by simp [D.vs]))) hl (hk i (by simp [D.ks])) (by rw [hv0]; exact hu1)) fun H1 n ls1 e3 e4 h1 g1 q1 => ?_
      have g01 := g0.trans g1
      refine e2a4 (replaced_ok (p := .slots n) (k := i) (x := fun i => x i + lsN i ls1) h1 (g01.sz z (by lia -abstractProof)) q1) fun H2 ls2 e5 e6 h2 g2 => ?_
      have ge0 := g0.e; have ge1 := g1.e; have ge2 := g2.e; have ze := z.e
      have hlen : ls1.length + ls2.length ≤ 1000000 := by lia -abstractProof
      refine ⟨H2, ls1 ++ ls2, ?_, ?_, h2.congr fun i => by rw [lsN_append]; lia -abstractProof, (g01.trans g2).le (by lia -abstractProof) (by rw [List.length_append]; lia -abstractProof) (by lia -abstractProof) (by lia -abstractProof) (by lia -abstractProof)⟩
      · rw [if_pos (show (V.cell a).isCell = true from rfl), e1, Option.bind_some]
        show ((H0.gain r).container k).bind _ = _
        rw [e3, Option.bind_some]
        show ((H1.replaced (.slots n) i r).bind _) = _
        rw [e5]
        exact joinL_ok (z := (H2, ls2)) hlen
      · rw [if_pos (show (V.cell a).isCell = true from rfl), e2, Option.bind_some]
        show ((toW H0 ts [r]).slotsOf k).bind _ = _
        rw [e4, Option.bind_some]
        show (((toW H1 ts [r]).write (.slots n) i r false).bind fun u => (joinW ls1 u).bind popHand) = _
        rw [write_false q1, e6, Option.bind_some, joinW_ok (z := (toW H2 ts [r], ls2)) hlen]; rfl
  | unset k =>
    refine e2a4 (takenOut_ok (p := .vars) (k := k) h z' trivial) fun H' ls e1 e2 h1 g1 => ?_
    exact ⟨H', ls, e1, e2 _ _, h1, g1.le (by lia -abstractProof) (by lia -abstractProof) (by lia -abstractProof) (by lia -abstractProof) (by lia -abstractProof)⟩
  | unsetAt k i =>
    refine e1a4 (value_ok (k := k) h) fun u hu1 hu2 _ _ => ?_
    show ∃ H' ls, ((H.valueOf k).map V.isCell).bind _ = _ ∧ ((toW H ts []).valueOf k).bind _ = _ ∧ _
    rw [hu1, hu2, Option.map_some, Option.bind_some, Option.bind_some]
    cases u with
    | int i => exact ⟨H, [], rfl, rfl, h.congr fun _ => rfl, zero⟩
    | cell a =>
      refine e3a5 (container_ok (k := k) h z X (hx k (by simp [D.vs])) hu1) fun H1 n ls1 e1 e2 h1 q1 g1 => ?_
      refine e2a4 (takenOut_ok (p := .slots n) (k := i) h1 (g1.sz z (by lia -abstractProof)) q1) fun H2 ls2 e3 e4 h2 g2 => ?_
      have ge1 := g1.e; have ge2 := g2.e; have ze := z.e
      have hlen : ls1.length + ls2.length ≤ 1000000 := by lia -abstractProof
      refine ⟨H2, ls1 ++ ls2, ?_, ?_, h2.congr fun i => by rw [lsN_append]; lia -abstractProof, (g1.trans g2).le (by lia -abstractProof) (by rw [List.length_append]; lia -abstractProof) (by lia -abstractProof) (by lia -abstractProof) (by lia -abstractProof)⟩
      · rw [if_pos (show (V.cell a).isCell = true from rfl), e1, Option.bind_some, e3]
        exact joinL_ok (z := (H2, ls2)) hlen
      · rw [if_pos (show (V.cell a).isCell = true from rfl), e2, Option.bind_some, e4]
        exact joinW_ok (z := (toW H2 ts [], ls2)) hlen
end
end
/-! Q8 -/
section
set_option autoImplicit false

section
open Classical
noncomputable def uS (P : List (Int × List D)) (H : HS) : Nat → Nat
  | 0 => 0
  | k + 1 => uS P H k + (if H.last < (k : Int) + 1 ∨ H.Due ((k : Int) + 1) then (planOf P ((k : Int) + 1)).length else 0)
end
noncomputable def wT : T → Nat
  | .lose _ => 1
  | .deed (.unset x) => if x < 0 then 1 else 12
  | .deed _ => 12
noncomputable def gT : T → Nat
  | .lose _ => 0
  | .deed (.unset x) => if x < 0 then 0 else 1
  | .deed _ => 1
noncomputable def sumT (f : T → Nat) : List T → Nat
  | [] => 0
  | t :: r => f t + sumT f r
noncomputable def Phi (P : List (Int × List D)) (H : HS) (ts : List T) : Nat := 12 * uS P H 12 + 3 * H.dn + H.E + sumT wT ts
noncomputable def bud (P : List (Int × List D)) (H : HS) (ts : List T) : Nat := uS P H 12 + sumT gT ts
structure Bnd (P : List (Int × List D)) (H : HS) (ts : List T) (H' : HS) (ts' : List T) : Prop where
  phi : Phi P H' ts' + 1 ≤ Phi P H ts
  last : H'.last + 2 * (bud P H' ts' : Int) ≤ H.last + 2 * (bud P H ts : Int)
  nr : H'.nr + bud P H' ts' ≤ H.nr + bud P H ts
  log : H'.log.length ≤ H.log.length + 1
noncomputable def TaskOK (H : HS) : T → Prop
  | .lose _ => True
  | .deed d => ∃ m, GoodD m d ∧ (m = 0 ∨ (1 ≤ m ∧ m ≤ H.last ∧ ¬ H.Due m))

section
variable {P : List (Int × List D)} {H H' H'' : HS} {x y : Int → Nat} {n m k j a : Int} {c c' cm : C} {v w : V} {ts us : List T} {hd : List V} {l : List (Int × V)} {p : Pl} {t : T} {f : T → Nat}
theorem sumT_append : ∀ {a b : List T}, sumT f (a ++ b) = sumT f a + sumT f b
  | [], b => by show _ = 0 + _; rw [Nat.zero_add]; rfl
  | t :: a, b => by show f t + sumT f (a ++ b) = f t + sumT f a + sumT f b; rw [sumT_append]; lia -abstractProof
theorem sumT_lose : ∀ {l : List V}, sumT wT (l.map .lose) = l.length ∧ sumT gT (l.map .lose) = 0
  | [] => ⟨rfl, rfl⟩
  | v :: l => by
    refine e0a2 (sumT_lose (l := l)) fun h1 h2 => ?_
    exact ⟨by show 1 + sumT wT (l.map .lose) = l.length + 1; lia -abstractProof, by show 0 + sumT gT (l.map .lose) = 0; lia -abstractProof⟩
theorem wT_le : wT t ≤ 12 ∧ gT t ≤ 1 := by
  cases t with
  | lose v => exact ⟨by show 1 ≤ 12; lia -abstractProof, by show 0 ≤ 1; lia -abstractProof⟩
  | deed d =>
    cases d with
    | unset x =>
      show (if x < 0 then 1 else 12) ≤ 12 ∧ (if x < 0 then 0 else 1) ≤ 1
      split <;> exact ⟨by decide, by decide⟩
    | _ => exact ⟨Nat.le_refl _, Nat.le_refl _⟩
theorem sumT_deed : ∀ {l : List D}, sumT wT (l.map .deed) ≤ 12 * l.length ∧ sumT gT (l.map .deed) ≤ l.length
  | [] => ⟨Nat.le_refl _, Nat.le_refl _⟩
  | d :: l => by
    refine e0a2 (sumT_deed (l := l)) fun h1 h2 => ?_
    refine e0a2 (wT_le (t := .deed d)) fun h3 h4 => ?_
    exact ⟨by show _ + sumT wT (l.map .deed) ≤ 12 * (l.length + 1); lia -abstractProof, by show _ + sumT gT (l.map .deed) ≤ l.length + 1; lia -abstractProof⟩
theorem fm_lose : ∀ {l : List V}, (l.map T.lose).filterMap loseV = l
  | [] => rfl
  | v :: l => by show v :: (l.map T.lose).filterMap loseV = v :: l; rw [fm_lose]
theorem fm_deed : ∀ {l : List D}, (l.map T.deed).filterMap loseV = []
  | [] => rfl
  | _ :: l => fm_deed (l := l)
theorem u_mono (h : ∀ k : Int, H'.last < k ∨ H'.Due k → H.last < k ∨ H.Due k) : ∀ {n : Nat}, uS P H' n ≤ uS P H n
  | 0 => Nat.le_refl _
  | n + 1 => by
    have := u_mono h (n := n)
    unfold uS
    by_cases q : H'.last < (n : Int) + 1 ∨ H'.Due ((n : Int) + 1)
    · rw [if_pos q, if_pos (h _ q)]; lia -abstractProof
    · rw [if_neg q]; lia -abstractProof
theorem u_begin (h : ∀ k : Int, H'.last < k ∨ H'.Due k → H.last < k ∨ H.Due k) (h1 : 1 ≤ m) (h2 : H.Due m) (h3 : ¬ (H'.last < m ∨ H'.Due m)) : ∀ {n : Nat}, m ≤ n → uS P H' n + (planOf P m).length ≤ uS P H n
  | 0, q => by lia -abstractProof
  | n + 1, q => by
    unfold uS
    by_cases e : m = (n : Int) + 1
    · have := u_mono (P := P) h (n := n)
      rw [← e, if_neg h3, if_pos (.inr h2)]; lia -abstractProof
    · have := u_begin h h1 h2 h3 (n := n) (by lia -abstractProof)
      by_cases q : H'.last < (n : Int) + 1 ∨ H'.Due ((n : Int) + 1)
      · rw [if_pos q, if_pos (h _ q)]; lia -abstractProof
      · rw [if_neg q]; lia -abstractProof
theorem planOf_len (p : PlanOK P) : (planOf P m).length ≤ 2 := by
  unfold planOf
  cases e : getK m P with
  | none => exact Nat.zero_le _
  | some ds => exact p.len m ds e
theorem planOf_num (p : PlanOK P) (h : ¬ (1 ≤ m ∧ m ≤ 12)) : planOf P m = [] := by
  unfold planOf
  cases e : getK m P with
  | none => rfl
  | some ds => exact absurd (p.num m ds e) h
theorem planOf_good (p : PlanOK P) : ∀ d ∈ planOf P m, GoodD m d := by
  unfold planOf
  cases e : getK m P with
  | none => exact fun d hd => by o_facts hd
  | some ds => exact p.good m ds e
theorem u_le (p : PlanOK P) : ∀ {n : Nat}, uS P H n ≤ 2 * n
  | 0 => Nat.le_refl _
  | n + 1 => by
    have := u_le p (n := n)
    have h2 := planOf_len (m := (n : Int) + 1) p
    unfold uS
    split <;> lia -abstractProof
theorem Grow.u {a1 a2 a3 a4 a5 a6 : Nat} (g : Grow H H' a1 a2 a3 a4 a5 a6) : uS P H' n.toNat ≤ uS P H n.toNat := u_mono fun k q => by
  have := g.last
  rcases q with q | q
  · exact .inl (by lia -abstractProof)
  · rcases g.due k q with q | q
    · exact .inr q
    · exact .inl q
theorem Grow.u12 {a1 a2 a3 a4 a5 a6 : Nat} (g : Grow H H' a1 a2 a3 a4 a5 a6) : uS P H' 12 ≤ uS P H 12 := Grow.u (n := 12) g
theorem Grow.task {a1 a2 a3 a4 a5 a6 : Nat} (g : Grow H H' a1 a2 a3 a4 a5 a6) (q : TaskOK H t) : TaskOK H' t := by
  cases t with
  | lose v => trivial
  | deed d =>
    refine e1a2 (q) fun m h1 h2 => ?_
    refine ⟨m, h1, h2.imp id fun ⟨h3, h4, h5⟩ => ⟨h3, ?_, fun h6 => ?_⟩⟩
    · have := g.last; lia -abstractProof
    · rcases g.due m h6 with h6 | h6
      · exact h5 h6
      · lia -abstractProof
theorem Grow.task0 (hl : H'.last = H.last) (hd : ∀ m, H'.Due m → H.Due m) (q : TaskOK H t) : TaskOK H' t := by
  cases t with
  | lose v => trivial
  | deed d =>
    refine e1a2 (q) fun m h1 h2 => ?_
    exact ⟨m, h1, h2.imp id fun ⟨h3, h4, h5⟩ => ⟨h3, by lia -abstractProof, fun h6 => h5 (hd m h6)⟩⟩

theorem mark_ok (h : HI H x) (z : Sz H) (hc : getK n H.cells = some c) (hs : c.sort ≠ .ref) : ∃ H', H.mark n c = some H' ∧ HI H' x ∧ (∀ ts hd, toW H' ts hd = toW H ts hd) ∧ Grow H H' 0 0 0 0 0 0 := by
  unfold HS.mark
  cases hb : c.buf with
  | true => exact ⟨H, rfl, h, fun _ _ => rfl, Grow.refl⟩
  | false =>
    have h1 := h.buf_len; have h2 := h.cells_len; have h3 := z.last
    refine ⟨_, by rw [if_neg (by decide), if_pos (by lia -abstractProof)], h.mark hc hb hs, fun ts hd => toW_setC hc rfl, ?_⟩
    have g := Grow.setC (c' := { c with colour := "purple", buf := true }) (d := 0) hc rfl (Nat.le_refl _) id
    exact ⟨g.last, g.e, g.nr, g.dn, g.log, g.due, g.keep⟩
theorem suspect_ok (h : HI H x) (z : Sz H) (hc : getK n H.cells = some c) : ∃ H', H.suspect n = some H' ∧ HI H' x ∧ (∀ ts hd, toW H' ts hd = toW H ts hd) ∧ Grow H H' 0 0 0 0 0 0 := by
  unfold HS.suspect
  rw [hc, Option.bind_some]
  by_cases q : c.sort = .ref
  · refine e1a2 (h.ref n c hc q) fun u hu hr => ?_
    rw [if_pos q, hu]
    show ∃ H', (match H.cellOf u with | none => some H | some d => H.mark u.num d) = some H' ∧ _
    cases u with
    | int i => exact ⟨H, rfl, h, fun _ _ => rfl, Grow.refl⟩
    | cell i =>
      refine e1a1 (Option.isSome_iff_exists.mp (h.liveS hc (k := 0) (n := i) (by rw [hu]; rfl))) fun d hd => ?_
      rw [show H.cellOf (.cell i) = some d from hd]
      refine mark_ok h z hd ?_
      rw [isRef_some (v := .cell i) hd, decide_eq_false_iff_not] at hr; exact hr
  · rw [if_neg q]; exact mark_ok h z hc q
theorem mapM_get : ∀ {l m : List (Int × V)}, (∀ p ∈ l, getK p.1 m = some p.2) → (l.map (·.1)).mapM (fun k => getK k m) = some (l.map (·.2))
  | [], _, _ => rfl
  | p :: r, m, h => by
    rw [List.map_cons, List.mapM_cons, h p (.head _), mapM_get fun q hq => h q (.tail _ hq)]; rfl
theorem vals_ok (nd : (l.map (·.1)).Nodup) (hz : l.length ≤ 1000000) : vals l = some (l.map (·.2)) := by
  unfold vals
  rw [if_pos hz]
  exact mapM_get fun p hp => getK_of_mem nd hp
theorem unbuf_ok (h : HI H x) (z : Sz H) (hc : getK n H.cells = some c) : H.unbuf n c = some (H.buffer.erase n) := by
  have h1 := h.buf_len; have h2 := h.cells_len; have h3 := z.last
  unfold HS.unbuf
  cases hb : c.buf with
  | true => rw [if_pos rfl, if_pos ⟨(h.buf n).mpr ⟨c, hc, hb⟩, by lia -abstractProof⟩]
  | false =>
    rw [if_neg (by decide), List.erase_of_not_mem fun q => ?_]
    refine e1a2 ((h.buf n).mp q) fun d h1 h2 => ?_
    rw [hc] at h1; o_facts h1; rw [hb] at h2; o_facts h2
end
end
/-! Q9 -/
section
set_option autoImplicit false

section
variable {P : List (Int × List D)} {H H' H'' : HS} {x y : Int → Nat} {n m k j a : Int} {c c' cm : C} {v w : V} {ts us : List T} {hd : List V} {l : List (Int × V)} {p : Pl} {t : T} {f : T → Nat} {l' : List (Int × C)}
theorem Grow.bnd0 {a3 : Nat} {v : V} (g : Grow H H' 0 0 a3 0 0 0) (h3 : a3 = 0) : Bnd P H (.lose v :: ts) H' ts := by
  subst h3
  have u := g.u12 (P := P); have l1 := g.last; have e1 := g.e; have r1 := g.nr; have d1 := g.dn; have o1 := g.log
  have ew : sumT wT (.lose v :: ts) = 1 + sumT wT ts := rfl
  have eg : sumT gT (.lose v :: ts) = 0 + sumT gT ts := rfl
  exact ⟨by unfold Phi; lia -abstractProof, by unfold bud; lia -abstractProof, by unfold bud; lia -abstractProof, by lia -abstractProof⟩

noncomputable def HS.freeS (H : HS) (m : Int) : HS := { H with cells := delK m H.cells, buffer := H.buffer.erase m, freed := H.freed + 1, log := H.log ++ [.free m] }
/- what a step of the two heaps leaves -/
structure StepOK (P : List (Int × List D)) (H : HS) (t : T) (ts : List T) (H' : HS) (us : List T) : Prop where
  hs : H.step P t = some (H', us)
  ws : WS.step P (toW H ts []) t = some (toW H' (us ++ ts) [])
  hi : HI H' (fun n => lsN n ((us ++ ts).filterMap loseV))
  bnd : Bnd P H (t :: ts) H' (us ++ ts)
  task : ∀ t ∈ us, TaskOK H' t
  old : ∀ t, TaskOK H t → TaskOK H' t
  len : us.length ≤ 1000

theorem begin_ok (pk : PlanOK P) (h : HI H x) (zs : SzS H) (hc : getK m H.cells = some c) (hdue : c.due = true) (hnone : getK (-m) H.vars = none) : ∃ H', H.beginD P m = some (H', (planOf P m).map .deed ++ [.deed (.unset (-m))]) ∧
    toW H' ((planOf P m).map .deed ++ .deed (.unset (-m)) :: ts) [] = { toW H ts [] with cells := putK m { wc c with due := false } (toW H ts []).cells, log := H.log ++ [.destruct m], vars := putK (-m) (.cell m) H.vars, tasks := (planOf P m).map .deed ++ .deed (.unset (-m)) :: ts } ∧
    HI H' x ∧ H'.last = H.last ∧ H'.dn + 1 ≤ H.dn ∧ H'.nr ≤ H.nr ∧ H'.E ≤ H.E + 1 ∧ H'.log.length ≤ H.log.length + 1 ∧ (∀ n, H'.Due n → H.Due n) ∧ ¬ H'.Due m := by
  have hr := h.rng m c hc
  have d2 : ({ c with isD := true } : C).due = false := by show (c.hasD && !true) = false; cases c.hasD <;> rfl
  have h1 : HI (H.setC m { c with isD := true }) x := h.setCount hc rfl rfl rfl (h.cnt m c hc) (fun _ _ => rfl) (fun q => by rw [d2] at q; cases q)
  have g1 : Grow H (H.setC m { c with isD := true }) 0 0 0 0 0 0 := Grow.setC hc rfl (Nat.le_refl _) (fun q => by rw [d2] at q; cases q)
  have dn1 : (H.setC m { c with isD := true }).dn + 1 = H.dn := by
    have := sum_setC (f := fun c => if c.due = true then 1 else 0) (c' := { c with isD := true }) hc
    simp only [d2, hdue] at this
    exact this
  have nd1 : ∀ n, (H.setC m { c with isD := true }).Due n → H.Due n ∧ n ≠ m := fun n ⟨e, he, hed⟩ => by
    rw [getK_setC] at he
    by_cases q : n = m
    · rw [if_pos q] at he; o_facts he; rw [d2] at hed; o_facts hed
    · rw [if_neg q] at he; exact ⟨⟨e, he, hed⟩, q⟩
  have h2 : HI { H.setC m { c with isD := true } with log := H.log ++ [.destruct m] } x := h1.setLog
  have g2 : Grow (H.setC m { c with isD := true }) { H.setC m { c with isD := true } with log := H.log ++ [.destruct m] } 0 0 0 0 1 0 := Grow.setLog (by rw [List.length_append]; exact Nat.le_refl _)
  have hc2 : getK m ({ H.setC m { c with isD := true } with log := H.log ++ [.destruct m] } : HS).cells = some { c with isD := true } := by show getK m (H.setC m _).cells = _; rw [getK_setC, if_pos rfl]
  refine e0a4 (gain_ok h2 (v := .cell m) (LiveV.cell hc2)) fun g31 g32 g33 _ => ?_
  have g13 := (g2.trans g33)
  generalize hH3 : HS.gain { H.setC m { c with isD := true } with log := H.log ++ [.destruct m] } (.cell m) = H3 at g31 g32 g33 g13
  have hv3 : H3.vars = H.vars := by
    rw [← hH3]
    unfold HS.gain
    rw [show ({ H.setC m { c with isD := true } with log := H.log ++ [.destruct m] } : HS).cellOf (.cell m) = some { c with isD := true } from hc2]; rfl
  have z := zs.sz0.sz
  have zv := z.vars; have zl := z.log
  have l13 := g13.last; have e13 := g13.e; have o13 := g13.log; have n13 := g13.nr; have d13 := g13.dn
  have ll : (H.setC m { c with isD := true }).last = H.last := rfl
  have lg : (H.setC m { c with isD := true }).log.length = H.log.length := rfl
  have e1 := g1.e; have n1 := g1.nr
  have due3 : ∀ n, n ≤ H.last → H3.Due n → H.Due n ∧ n ≠ m := fun n hn hd => by
    rcases g13.due n hd with q | q
    · exact nd1 n q
    · lia -abstractProof
  have z3 := ((g1.trans g13).szs zs (by lia -abstractProof)).sz
  have q : PlOK H3 (-m) (.cell m) .vars := fun m' h4 h5 => by
    have : m' = m := by lia -abstractProof
    subst this
    exact ⟨by lia -abstractProof, fun q => (due3 m' hr.2 q).2 rfl⟩
  refine e0a4 (replaced_at (p := .vars) (k := -m) (l := H3.vars) g31 z3 q rfl) fun _ _ r3 r4 => ?_
  have hS : H3.setPl .vars (putK (-m) (.cell m) H3.vars) = { H3 with vars := putK (-m) (.cell m) H.vars } := by rw [hv3]; rfl
  rw [hS, hv3, hnone] at r3 r4
  have l4 := r4.last; have e4 := r4.e; have o4 := r4.log; have n4 := r4.nr; have d4 := r4.dn
  have hp := planOf_len (m := m) pk
  refine ⟨{ H3 with vars := putK (-m) (.cell m) H.vars }, ?_, ?_, r3.congr fun _ => rfl, by lia -abstractProof, by lia -abstractProof, by lia -abstractProof, by have e4 : _ + 0 ≤ _ := e4; lia -abstractProof, by lia -abstractProof, fun n hd => ?_, fun hd => ?_⟩
  · unfold HS.beginD
    rw [hc, Option.bind_some, if_pos ⟨by lia -abstractProof, by lia -abstractProof⟩, hH3]
    unfold HS.setVar
    rw [hv3, if_pos (by lia -abstractProof)]; rfl
  · show ({ toW H3 ((planOf P m).map .deed ++ .deed (.unset (-m)) :: ts) [] with vars := putK (-m) (.cell m) H.vars } : WS) = _
    rw [g32]
    show ({ toW (H.setC m { c with isD := true }) ((planOf P m).map .deed ++ .deed (.unset (-m)) :: ts) [] with log := H.log ++ [.destruct m], vars := putK (-m) (.cell m) H.vars } : WS) = _
    rw [toW_setC2]
    have : wc { c with isD := true } = { wc c with due := false } := by unfold wc; rw [d2]
    rw [this]; rfl
  · have hn : n ≤ H.last := by
      refine e1a2 (hd) fun e he _ => ?_
      have := (r3.rng n e he).2
      lia -abstractProof
    have hd : H3.Due n := hd
    exact (due3 n hn hd).1
  · exact (due3 m hr.2 hd).2 rfl

theorem delK_wc : delK k (l'.map fun p : Int × C => (p.1, wc p.2)) = (delK k l').map fun p => (p.1, wc p.2) := by
  unfold delK; rw [List.filter_map]; rfl
theorem lose_int {i : Int} (h : HI H (fun n => lsN n ((T.lose (.int i) :: ts).filterMap loseV))) : StepOK P H (.lose (.int i)) ts H [] :=
  ⟨rfl, rfl, h.congr fun n => Nat.zero_add _, Grow.refl.bnd0 rfl, fun _ h => (by o_facts h), fun _ h => h, Nat.zero_le _⟩

theorem lose_ok (pk : PlanOK P) (zs : SzS H) (h : HI H (fun n => lsN n ((T.lose (.cell m) :: ts).filterMap loseV))) (ht : ts.length ≤ 90000) : ∃ H' us, StepOK P H (.lose (.cell m)) ts H' us := by
  have hx : ∀ n, lsN n ((T.lose (.cell m) :: ts).filterMap loseV) = one (.cell m) n + lsN n (ts.filterMap loseV) := fun _ => rfl
  refine e1a1 (Option.isSome_iff_exists.mp (h.liveX (n := m) (by rw [hx, one_self]; lia -abstractProof))) fun c hc => ?_
  have z := zs.sz0.sz
  have hcnt := h.cnt m c hc
  rw [hx, one_self] at hcnt
  have hrng := h.rng m c hc
  have h1 : HI (H.setC m { c with count := c.count - 1 }) (fun n => lsN n (ts.filterMap loseV)) := h.setCount hc rfl rfl rfl (by show c.count - 1 = _; lia -abstractProof) (fun n hn => by rw [hx, one_ne fun e => hn e.symm, Nat.zero_add]) fun q => .inl q
  have g1 : Grow H (H.setC m { c with count := c.count - 1 }) 0 0 0 0 0 0 := Grow.setC hc rfl (Nat.le_refl _) id
  have hc1 : getK m (H.setC m { c with count := c.count - 1 }).cells = some { c with count := c.count - 1 } := by rw [getK_setC, if_pos rfl]
  have tw : ∀ ts hd, toW (H.setC m { c with count := c.count - 1 }) ts hd = toW H ts hd := fun ts hd => toW_setC hc rfl
  have zs1 : SzS (H.setC m { c with count := c.count - 1 }) := ⟨by have := g1.e; have := zs.e; lia -abstractProof, zs.last, zs.log⟩
  have due1 : ∀ n, (H.setC m { c with count := c.count - 1 }).Due n → H.Due n := fun n hn => by
    refine e1a2 (hn) fun e he hed => ?_
    rw [getK_setC] at he
    by_cases q : n = m
    · rw [if_pos q] at he; o_facts he; rw [q]; exact ⟨c, hc, hed⟩
    · rw [if_neg q] at he; exact ⟨e, he, hed⟩
  have hol : (toW H ts []).holders m = cntH m H + lsN m (ts.filterMap loseV) := by rw [holders_eq h]; show _ + (0 + _) = _; lia -abstractProof
  have hsm := small_ok (hd := []) h z ht (Nat.zero_le _)
  have stepH : HS.step P H (.lose (.cell m)) = if c.count - 1 > 0 then ((H.setC m { c with count := c.count - 1 }).suspect m).map fun H2 => (H2, [])
    else if c.hasD = true ∧ c.isD = false then (H.setC m { c with count := c.count - 1 }).beginD P m
    else ((H.setC m { c with count := c.count - 1 }).freeCell m).map fun z => (z.1, z.2.map .lose) := by
    show (match H.cellOf (.cell m) with | none => _ | some c => _) = _
    rw [show H.cellOf (.cell m) = some c from hc]; rfl
  by_cases qc : c.count - 1 > 0
  · refine e1a4 (suspect_ok h1 zs1.sz0.sz hc1) fun H2 e1 h2 t2 g2 => ?_
    refine ⟨H2, [], ?_, ?_, h2, (g1.trans g2).bnd0 rfl, fun _ h => (by o_facts h), fun _ h => (g1.trans g2).task h, Nat.zero_le _⟩
    · rw [stepH, if_pos qc, e1]; rfl
    · show WS.letGo P (toW H ts []) (.cell m) = _
      unfold WS.letGo
      simp only
      rw [hsm, if_pos rfl, hol, if_pos (by lia -abstractProof), ← tw, ← t2]; rfl
  have hz : cntH m H + lsN m (ts.filterMap loseV) = 0 := by lia -abstractProof
  have stepW : ∀ X, (if c.due = true then if H.log.length ≤ 100000 ∧ H.vars.length ≤ 100000 ∧ (planOf P m).length ≤ 100000 ∧ ts.length ≤ 100000 then some { toW (H.setC m { c with count := c.count - 1 }) ts [] with cells := putK m { wc { c with count := c.count - 1 } with due := false } (toW (H.setC m { c with count := c.count - 1 }) ts []).cells, log := H.log ++ [.destruct m], vars := putK (-m) (.cell m) H.vars, tasks := (planOf P m).map .deed ++ .deed (.unset (-m)) :: ts } else none
      else if H.log.length ≤ 100000 ∧ (toW (H.setC m { c with count := c.count - 1 }) ts []).cells.length ≤ 100000 ∧ c.slots.length ≤ 100000 ∧ ts.length ≤ 100000 then some { toW (H.setC m { c with count := c.count - 1 }) ts [] with cells := delK m (toW (H.setC m { c with count := c.count - 1 }) ts []).cells, log := H.log ++ [.free m], tasks := (c.slots.map fun p => T.lose p.2) ++ ts } else none) = some X → WS.step P (toW H ts []) (.lose (.cell m)) = some X := fun X hX => by
    show WS.letGo P (toW H ts []) (.cell m) = _
    rw [← hX]
    unfold WS.letGo
    simp only
    rw [hsm, if_pos rfl, hol, if_neg (by lia -abstractProof), ← tw, toW_get, hc1]; rfl
  have zv := z.vars; have zl := z.log; have zc := h.cells_len; have zla := z.last
  have hp := planOf_len (m := m) pk
  cases hd : c.due with
  | true =>
    have hd2 : c.hasD = true ∧ c.isD = false := by
      have hd : (c.hasD && !c.isD) = true := hd
      cases q1 : c.hasD <;> cases q2 : c.isD <;> rw [q1, q2] at hd <;> first | exact ⟨rfl, rfl⟩ | cases hd
    have hDue : H.Due m := ⟨c, hc, hd⟩
    have hnone : getK (-m) H.vars = none := by
      cases e : getK (-m) H.vars with
      | none => rfl
      | some v => exact absurd hDue (h.neg m hrng.1 (by rw [e]; rfl)).2
    obtain ⟨H', e1, e2, h2, l2, d2, n2, ee2, o2, du2, nd2⟩ := begin_ok (ts := ts) pk h1 zs1 hc1 hd hnone
    have l2 : H'.last = H.last := l2
    have o2 : H'.log.length ≤ H.log.length + 1 := o2
    have ge := g1.e; have gd := g1.dn; have gn := g1.nr
    have app : ((planOf P m).map T.deed ++ [T.deed (.unset (-m))]) ++ ts = (planOf P m).map T.deed ++ T.deed (.unset (-m)) :: ts := by rw [List.append_assoc]; rfl
    have fm : (((planOf P m).map T.deed ++ [T.deed (.unset (-m))]) ++ ts).filterMap loseV = ts.filterMap loseV := by
      rw [app, List.filterMap_append, fm_deed]; rfl
    have hold : ∀ k : Int, H'.last < k ∨ H'.Due k → H.last < k ∨ H.Due k := fun k q => by
      rcases q with q | q
      · exact .inl (by lia -abstractProof)
      · exact .inr (due1 k (du2 k q))
    have hu : uS P H' 12 + (planOf P m).length ≤ uS P H 12 := by
      by_cases q : m ≤ 12
      · exact u_begin hold hrng.1 hDue (fun q => q.elim (fun q => by lia -abstractProof) nd2) (n := 12) q
      · rw [planOf_num pk (by lia -abstractProof)]; exact u_mono hold
    have w1 : sumT wT ((planOf P m).map T.deed ++ .deed (.unset (-m)) :: ts) ≤ 12 * (planOf P m).length + (1 + sumT wT ts) := by
      rw [sumT_append]
      have := (sumT_deed (l := planOf P m)).1
      show _ + ((if -m < 0 then 1 else 12) + sumT wT ts) ≤ _
      rw [if_pos (by lia -abstractProof)]; lia -abstractProof
    have w2 : sumT gT ((planOf P m).map T.deed ++ .deed (.unset (-m)) :: ts) ≤ (planOf P m).length + sumT gT ts := by
      rw [sumT_append]
      have := (sumT_deed (l := planOf P m)).2
      show _ + ((if -m < 0 then 0 else 1) + sumT gT ts) ≤ _
      rw [if_pos (by lia -abstractProof)]; lia -abstractProof
    have w3 : sumT wT (.lose (.cell m) :: ts) = 1 + sumT wT ts := rfl
    have w4 : sumT gT (.lose (.cell m) :: ts) = 0 + sumT gT ts := rfl
    refine ⟨H', (planOf P m).map .deed ++ [.deed (.unset (-m))], ?_, ?_, ?_, ⟨?_, ?_, ?_, o2⟩, fun t ht => ?_, fun t ht => Grow.task0 l2 (fun n hn => due1 n (du2 n hn)) ht, ?_⟩
    · rw [stepH, if_neg qc, if_pos hd2]; exact e1
    · refine stepW _ ?_
      rw [hd, if_pos rfl, if_pos ⟨by lia -abstractProof, by lia -abstractProof, by lia -abstractProof, by lia -abstractProof⟩, app, e2]; rfl
    · exact h2.congr fun n => by rw [fm]
    · rw [app]; unfold Phi; lia -abstractProof
    · rw [app]; unfold bud; lia -abstractProof
    · rw [app]; unfold bud; lia -abstractProof
    · rw [List.mem_append, List.mem_singleton] at ht
      have ok : (1 ≤ m ∧ m ≤ H'.last ∧ ¬ H'.Due m) := ⟨hrng.1, by lia -abstractProof, nd2⟩
      rcases ht with ht | ht
      · refine e1a2 (List.mem_map.mp ht) fun d hd e2_ => ?_; subst e2_
        exact ⟨m, planOf_good pk d hd, .inr ok⟩
      · subst ht
        exact ⟨m, ⟨fun x hx => .inr (by simpa [D.vs] using hx), fun k hk => by o_facts hk⟩, .inr ok⟩
    · rw [List.length_append, List.length_map]; show _ + 1 ≤ _; lia -abstractProof
  | false =>
    have hd2 : ¬ (c.hasD = true ∧ c.isD = false) := fun ⟨q1, q2⟩ => by
      have hd : (c.hasD && !c.isD) = false := hd
      rw [q1, q2] at hd; o_facts hd
    have s3 := h.slots3 hc
    have bl := h1.buf_len
    have cl1 : (H.setC m { c with count := c.count - 1 }).cells.length = H.cells.length := by
      have := congrArg List.length (keys_setC (c' := { c with count := c.count - 1 }) hc)
      rwa [List.length_map, List.length_map] at this
    have hz1 : cntH m (H.setC m { c with count := c.count - 1 }) + lsN m (ts.filterMap loseV) = 0 := by
      have := h1.cnt m _ hc1
      have : c.count - 1 = _ := this
      lia -abstractProof
    have h2 : HI ((H.setC m { c with count := c.count - 1 }).freeS m) (fun n => lsN n (ts.filterMap loseV) + cntL n c.slots) := h1.del (c := { c with count := c.count - 1 }) (g := H.log ++ [L.free m]) (fr := H.freed + 1) hc1 hz1
    have sd : ∀ f : C → Nat, sumF f (delK m (H.setC m { c with count := c.count - 1 }).cells) + f { c with count := c.count - 1 } = sumF f (H.setC m { c with count := c.count - 1 }).cells := fun f => by
      have := sumF_del (f := f) (k := m) h1.cnd
      rw [hc1] at this; exact this
    have ge := g1.e; have gd := g1.dn; have gn := g1.nr
    have duF : ∀ n, ((H.setC m { c with count := c.count - 1 }).freeS m).Due n → H.Due n := fun n ⟨e, he, hed⟩ => by
      have he : getK n (delK m (H.setC m { c with count := c.count - 1 }).cells) = some e := he
      rw [getK_delK] at he
      by_cases q : n = m
      · rw [if_pos q] at he; o_facts he
      · rw [if_neg q] at he; exact due1 n ⟨e, he, hed⟩
    have fm : ((c.slots.map (·.2)).map T.lose ++ ts).filterMap loseV = c.slots.map (·.2) ++ ts.filterMap loseV := by rw [List.filterMap_append, fm_lose]
    have hu : uS P ((H.setC m { c with count := c.count - 1 }).freeS m) 12 ≤ uS P H 12 := u_mono fun k q => q.imp id (duF k)
    have sE := sd fun c => c.slots.length
    have sN := sd fun c => if c.sort = .ref then 0 else 1
    have sD := sd fun c => if c.due = true then 1 else 0
    have w1 := sumT_lose (l := c.slots.map (·.2))
    rw [List.length_map] at w1
    have w3 : sumT wT (.lose (.cell m) :: ts) = 1 + sumT wT ts := rfl
    have w4 : sumT gT (.lose (.cell m) :: ts) = 0 + sumT gT ts := rfl
    have eF : ((H.setC m { c with count := c.count - 1 }).freeS m).E + c.slots.length = (H.setC m { c with count := c.count - 1 }).E := by
      have sE : sumF (fun c => c.slots.length) ((H.setC m { c with count := c.count - 1 }).freeS m).cells + c.slots.length = sumF (fun c => c.slots.length) (H.setC m { c with count := c.count - 1 }).cells := sE
      unfold HS.E
      show H.vars.length + _ + _ = H.vars.length + _
      lia -abstractProof
    have nF : ((H.setC m { c with count := c.count - 1 }).freeS m).nr ≤ (H.setC m { c with count := c.count - 1 }).nr := by
      unfold HS.nr; exact Nat.le_trans (Nat.le_add_right _ _) (Nat.le_of_eq sN)
    have dF : ((H.setC m { c with count := c.count - 1 }).freeS m).dn ≤ (H.setC m { c with count := c.count - 1 }).dn := by
      unfold HS.dn; exact Nat.le_trans (Nat.le_add_right _ _) (Nat.le_of_eq sD)
    refine ⟨(H.setC m { c with count := c.count - 1 }).freeS m, (c.slots.map (·.2)).map .lose, ?_, ?_, h2.congr fun n => ?_, ⟨?_, ?_, ?_, ?_⟩, fun t ht => ?_, fun t ht => Grow.task0 (H := H) rfl duF ht, ?_⟩
    · rw [stepH, if_neg qc, if_neg hd2]
      unfold HS.freeCell
      rw [hc1, Option.bind_some]
      show ((vals c.slots).bind _).map _ = _
      rw [vals_ok (h.snd m c hc) (by lia -abstractProof), Option.bind_some, unbuf_ok h1 zs1.sz0.sz hc1, Option.bind_some, if_pos ⟨by lia -abstractProof, by show H.log.length ≤ _; lia -abstractProof, by rw [List.length_map]; lia -abstractProof⟩]; rfl
    · refine stepW _ ?_
      rw [hd, if_neg (by decide), if_pos ⟨by lia -abstractProof, by show (List.map _ (H.setC m _).cells).length ≤ _; rw [List.length_map]; lia -abstractProof, by lia -abstractProof, by lia -abstractProof⟩]
      show some _ = some ({ toW (H.setC m { c with count := c.count - 1 }) ts [] with cells := (delK m (H.setC m { c with count := c.count - 1 }).cells).map (fun p => (p.1, wc p.2)), log := H.log ++ [.free m], tasks := (c.slots.map (·.2)).map T.lose ++ ts } : WS)
      rw [← delK_wc, List.map_map]; rfl
    · rw [fm, lsN_append, lsN_snd]; show _ + cntL n c.slots = _; lia -abstractProof
    · unfold Phi; rw [sumT_append]; lia -abstractProof
    · unfold bud; rw [sumT_append]; show H.last + _ ≤ _; lia -abstractProof
    · unfold bud; rw [sumT_append]; lia -abstractProof
    · show (H.log ++ [_]).length ≤ _; rw [List.length_append]; exact Nat.le_refl _
    · refine e1a2 (List.mem_map.mp ht) fun v _ e2_ => ?_; subst e2_; trivial
    · rw [List.length_map, List.length_map]; lia -abstractProof
end
end
/-! Q10 -/
section
set_option autoImplicit false

section
variable {P : List (Int × List D)} {H H' H'' : HS} {x y : Int → Nat} {n m k j a : Int} {c c' cm : C} {v w : V} {ts us : List T} {hd : List V} {l : List (Int × V)} {p : Pl} {t : T} {f : T → Nat}
theorem deedW_ok {d : D} {ls : List V} (hw : (toW H ts []).change d = some (toW H' ts [], ls)) (hz : ls.length + ts.length ≤ 100000) : WS.step P (toW H ts []) (.deed d) = some (toW H' (ls.map .lose ++ ts) []) := by
  show ((toW H ts []).change d).bind _ = _
  rw [hw, Option.bind_some]
  show (if ls.length + ts.length ≤ 100000 then some _ else none) = _
  rw [if_pos hz]; rfl
theorem deedH_ok {d : D} {ls : List V} (hh : H.change d = some (H', ls)) : HS.step P H (.deed d) = some (H', ls.map .lose) := by
  show (H.change d).map _ = _
  rw [hh]; rfl
theorem hi_deed {ls : List V} (h : HI H' (fun n => lsN n (ts.filterMap loseV) + lsN n ls)) : HI H' (fun n => lsN n ((ls.map T.lose ++ ts).filterMap loseV)) := h.congr fun n => by
  rw [List.filterMap_append, fm_lose, lsN_append]; lia -abstractProof
theorem task_lose {ls : List V} : ∀ t ∈ ls.map T.lose, TaskOK H t := fun t ht => by
  refine e1a2 (List.mem_map.mp ht) fun v _ e2_ => ?_; subst e2_; trivial
theorem TaskOK.vars {d : D} (q : TaskOK H (.deed d)) : (∀ k ∈ d.vs, PlOK H k (.int 0) .vars) ∧ ∀ k ∈ d.ks, 0 ≤ k ∧ k ≤ 2 := by
  refine e1a2 (q) fun m g hm => ?_
  refine ⟨fun k hk m' h1 h2 => ?_, g.ks⟩
  rcases g.vs k hk with h3 | h3
  · lia -abstractProof
  · have : m' = m := by lia -abstractProof
    subst this
    rcases hm with h4 | h4
    · lia -abstractProof
    · exact h4.2
theorem change_step {d : D} (zs : SzS H) (hE : H.E ≤ 900) (h : HI H (fun n => lsN n (ts.filterMap loseV))) (ht : ts.length ≤ 90000) (q : TaskOK H (.deed d)) (w1 : wT (.deed d) = 12) (w2 : gT (.deed d) = 1) : ∃ H' us, StepOK P H (.deed d) ts H' us := by
  refine e0a2 (q.vars) fun q1 q2 => ?_
  refine e2a4 (change_ok h zs ⟨fun n => (Nat.zero_add _).symm, ht, Nat.zero_le _⟩ q1 q2) fun H' ls e1 e2 h1 g => ?_
  have u := g.u12 (P := P); have l1 := g.last; have ge := g.e; have r1 := g.nr; have d1 := g.dn; have o1 := g.log
  refine e0a2 (sumT_lose (l := ls)) fun s1 s2 => ?_
  have w3 : sumT wT (.deed d :: ts) = 12 + sumT wT ts := by show wT _ + _ = _; rw [w1]
  have w4 : sumT gT (.deed d :: ts) = 1 + sumT gT ts := by show gT _ + _ = _; rw [w2]
  refine ⟨H', ls.map .lose, deedH_ok e1, deedW_ok e2 (by lia -abstractProof), hi_deed h1, ⟨?_, ?_, ?_, o1⟩, task_lose, fun t ht => g.task ht, by rw [List.length_map]; lia -abstractProof⟩
  · unfold Phi; rw [sumT_append]; lia -abstractProof
  · unfold bud; rw [sumT_append]; lia -abstractProof
  · unfold bud; rw [sumT_append]; lia -abstractProof
theorem unset_step (zs : SzS H) (hE : H.E ≤ 900) (h : HI H (fun n => lsN n (ts.filterMap loseV))) (ht : ts.length ≤ 90000) (hk : k < 0) : ∃ H' us, StepOK P H (.deed (.unset k)) ts H' us := by
  refine e2a4 (takenOut_ok (p := .vars) (k := k) h zs.sz0.sz trivial) fun H' ls e1 e2 h1 g => ?_
  have u := g.u12 (P := P); have l1 := g.last; have ge := g.e; have r1 := g.nr; have d1 := g.dn; have o1 := g.log
  refine e0a2 (sumT_lose (l := ls)) fun s1 s2 => ?_
  have w3 : sumT wT (.deed (.unset k) :: ts) = 1 + sumT wT ts := by show (if k < 0 then 1 else 12) + _ = _; rw [if_pos hk]
  have w4 : sumT gT (.deed (.unset k) :: ts) = 0 + sumT gT ts := by show (if k < 0 then 0 else 1) + _ = _; rw [if_pos hk]
  refine ⟨H', ls.map .lose, deedH_ok e1, deedW_ok (e2 _ _) (by lia -abstractProof), hi_deed h1, ⟨?_, ?_, ?_, by lia -abstractProof⟩, task_lose, fun t ht => g.task ht, by rw [List.length_map]; lia -abstractProof⟩
  · unfold Phi; rw [sumT_append]; lia -abstractProof
  · unfold bud; rw [sumT_append]; lia -abstractProof
  · unfold bud; rw [sumT_append]; lia -abstractProof
theorem step_ok (pk : PlanOK P) (zs : SzS H) (hE : H.E ≤ 900) (h : HI H (fun n => lsN n ((t :: ts).filterMap loseV))) (ht : ts.length ≤ 90000) (q : TaskOK H t) : ∃ H' us, StepOK P H t ts H' us := by
  cases t with
  | lose v =>
    cases v with
    | int i => exact ⟨H, [], lose_int h⟩
    | cell m => exact lose_ok pk zs h ht
  | deed d =>
    cases d with
    | unset k =>
      by_cases hk : k < 0
      · exact unset_step zs hE h ht hk
      · exact change_step zs hE h ht q (if_neg hk) (if_neg hk)
    | _ => exact change_step zs hE h ht q rfl rfl

/- how far all that is still to come may go; r: the deeds still to be told -/
structure Lim (P : List (Int × List D)) (r : Nat) (H : HS) (ts : List T) : Prop where
  phi : Phi P H ts + 12 * r + H.log.length ≤ 504
  last : H.last + 2 * ((bud P H ts + r : Nat) : Int) ≤ 84
  nr : H.nr + (bud P H ts + r) ≤ 42
theorem Lim.step {r : Nat} {ts' : List T} (q : Lim P r H ts) (b : Bnd P H ts H' ts') : Lim P r H' ts' := by
  have h1 := q.phi; have h2 := q.last; have h3 := q.nr; have h4 := b.phi; have h5 := b.last; have h6 := b.nr; have h7 := b.log
  exact ⟨by lia -abstractProof, by lia -abstractProof, by lia -abstractProof⟩
theorem len_wT : ∀ {ts : List T}, ts.length ≤ sumT wT ts
  | [] => Nat.le_refl _
  | t :: ts => by
    have h1 := len_wT (ts := ts)
    have h2 : 1 ≤ wT t := by
      cases t with
      | lose v => exact Nat.le_refl _
      | deed d =>
        cases d with
        | unset x => show 1 ≤ if x < 0 then 1 else 12; split <;> lia -abstractProof
        | _ => show 1 ≤ 12; lia -abstractProof
    show ts.length + 1 ≤ wT t + sumT wT ts
    lia -abstractProof
theorem Lim.small {r : Nat} (q : Lim P r H ts) : SzS H ∧ H.E ≤ 900 ∧ ts.length ≤ 504 := by
  have h1 := q.phi; have h2 := q.last; have h3 := len_wT (ts := ts)
  unfold Phi at h1
  exact ⟨⟨by lia -abstractProof, by lia -abstractProof, by lia -abstractProof⟩, by lia -abstractProof, by lia -abstractProof⟩
theorem run_ok (pk : PlanOK P) {r : Nat} : ∀ (N : Nat) {H : HS} {ts : List T}, Phi P H ts ≤ N → HI H (fun n => lsN n (ts.filterMap loseV)) → Lim P r H ts → (∀ t ∈ ts, TaskOK H t) →
    ∃ m H', HRuns P m H ts H' ∧ WRuns P m (toW H ts []) (toW H' [] []) ∧ HI H' (fun _ => 0) ∧ Lim P r H' []
  | N, H, [], _, h, q, _ => ⟨0, H, .nil H, .nil rfl, h, q⟩
  | 0, H, t :: ts, hN, _, _, _ => by
    have h3 := len_wT (ts := t :: ts)
    rw [List.length_cons] at h3
    unfold Phi at hN; lia -abstractProof
  | N + 1, H, t :: ts, hN, h, q, tk => by
    refine e0a3 (q.small) fun z1 z2 z3 => ?_
    rw [List.length_cons] at z3
    refine e2a1 (step_ok (ts := ts) pk z1 z2 h (by lia -abstractProof) (tk t (.head _))) fun H1 us s => ?_
    have := s.bnd.phi
    obtain ⟨m, H', r1, r2, r3, r4⟩ := run_ok pk N (by lia -abstractProof) s.hi (q.step s.bnd) fun t' ht' => by
      rcases List.mem_append.mp ht' with ht' | ht'
      · exact s.task t' ht'
      · exact s.old t' (tk t' (.tail _ ht'))
    have := s.len
    exact ⟨m + 1, H', .cons s.hs (by lia -abstractProof) r1, .cons rfl (by lia -abstractProof) s.ws r2, r3, r4⟩
end
end
/-! Q11 -/
section
set_option autoImplicit false

theorem insQ_perm (a : Int) : ∀ l, (insI a l).Perm (a :: l)
  | [] => .refl _
  | b :: r => by
    show (if a ≤ b then a :: b :: r else b :: insI a r).Perm (a :: b :: r)
    by_cases q : a ≤ b
    · rw [if_pos q]
    · rw [if_neg q]; exact ((insQ_perm a r).cons b).trans (.swap a b r)
theorem sortQ_perm : ∀ l, (sortI l).Perm l
  | [] => .refl _
  | a :: r => (insQ_perm a _).trans ((sortQ_perm r).cons a)
theorem insI_rises (a : Int) : ∀ l, l.Pairwise (· ≤ ·) → (insI a l).Pairwise (· ≤ ·)
  | [], _ => by show [a].Pairwise _; simp
  | b :: r, h => by
    rw [List.pairwise_cons] at h
    show (if a ≤ b then a :: b :: r else b :: insI a r).Pairwise _
    by_cases q : a ≤ b
    · rw [if_pos q, List.pairwise_cons, List.pairwise_cons]
      refine ⟨fun c hc => ?_, h⟩
      rcases List.mem_cons.mp hc with hc | hc
      · rw [hc]; exact q
      · exact Int.le_trans q (h.1 c hc)
    · rw [if_neg q, List.pairwise_cons]
      refine ⟨fun c hc => ?_, insI_rises a r h.2⟩
      have hc := (insQ_perm a r).mem_iff.mp hc
      rcases List.mem_cons.mp hc with hc | hc
      · lia -abstractProof
      · exact h.1 c hc
theorem sortI_rises : ∀ l, (sortI l).Pairwise (· ≤ ·)
  | [] => .nil
  | a :: r => insI_rises a _ (sortI_rises r)
theorem sortI_eq {a b : List Int} (hp : b.Perm a) (hs : b.Pairwise (· ≤ ·)) : sortI a = b :=
  List.Perm.eq_of_pairwise (fun _ _ _ _ a b => Int.le_antisymm a b) (sortI_rises a) hs ((sortQ_perm a).trans hp.symm)

section
variable {P : List (Int × List D)} {H H' H'' : HS} {x y : Int → Nat} {n m k j a : Int} {c c' cm : C} {v w : V} {ts us : List T} {hd : List V} {l : List (Int × V)} {p : Pl} {t : T} {f : T → Nat}
theorem map_getv (nd : (l.map (·.1)).Nodup) : (l.map fun p => getv l p.1) = l.map (·.2) :=
  List.map_congr_left fun p hp => by unfold getv; rw [getK_of_mem nd hp]; rfl
theorem lsN_flatC {f : Int × C → List V} : ∀ {l : List (Int × C)}, (∀ p ∈ l, f p = p.2.slots.map (·.2)) → lsN n (l.flatMap f) = sumF (fun c => cntL n c.slots) l
  | [], _ => rfl
  | p :: r, h => by
    rw [List.flatMap_cons, lsN_append, h p (.head _), lsN_snd, lsN_flatC fun q hq => h q (.tail _ hq)]; rfl
theorem len_flatC {f : Int × C → List V} : ∀ {l : List (Int × C)}, (∀ p ∈ l, f p = p.2.slots.map (·.2)) → (l.flatMap f).length = sumF (fun c => c.slots.length) l
  | [], _ => rfl
  | p :: r, h => by
    rw [List.flatMap_cons, List.length_append, h p (.head _), List.length_map, len_flatC fun q hq => h q (.tail _ hq)]; rfl
theorem HI.heldOf (h : HI H x) : ∀ p ∈ H.cells, (match getK p.1 H.cells with | some c => c.slots.map fun q => getv c.slots q.1 | none => []) = p.2.slots.map (·.2) := fun p hp => by
  have hg := getK_of_mem h.cnd hp
  rw [hg]; exact map_getv (h.snd _ _ hg)
theorem held_cnt (h : HI H x) : lsN n H.allHeld = cntH n H := by
  unfold HS.allHeld
  rw [lsN_append, map_getv h.vnd, lsN_snd]
  exact congrArg (cntL n H.vars + ·) (lsN_flatC h.heldOf)
theorem held_len (h : HI H x) : H.allHeld.length = H.E := by
  unfold HS.allHeld
  rw [List.length_append, map_getv h.vnd, List.length_map]
  exact congrArg (H.vars.length + ·) (len_flatC h.heldOf)
theorem lsN_mem : ∀ {l : List V}, V.cell n ∈ l → lsN n l > 0
  | v :: r, h => by
    show one v n + lsN n r > 0
    rcases List.mem_cons.mp h with h | h
    · rw [← h, one_self]; lia -abstractProof
    · have := lsN_mem h; lia -abstractProof
theorem counts_ok (h : HI H (fun _ => 0)) (z : SzS H) : CountsOK H := by
  have h1 := z.e; have h2 := z.last; have h3 := h.cells_len; have h4 := z.sz0.sz.vars
  refine ⟨by rw [held_len h]; lia -abstractProof, by lia -abstractProof, by lia -abstractProof, fun n hn => h.live n ?_, fun n c hc => ?_⟩
  · have := lsN_mem hn
    rw [held_cnt h] at this; lia -abstractProof
  · have := h.cnt n c hc
    unfold cntV
    rw [lsN_filter, held_cnt h]; lia -abstractProof
theorem filter_nr : ∀ {l : List (Int × C)}, (l.filter fun p => decide (p.2.sort ≠ .ref)).length = sumF (fun c => if c.sort = .ref then 0 else 1) l
  | [] => rfl
  | p :: r => by
    show _ = (if p.2.sort = .ref then 0 else 1) + sumF _ r
    by_cases q : p.2.sort = .ref
    · rw [List.filter_cons_of_neg (by simpa using q), if_pos q, filter_nr]; lia -abstractProof
    · rw [List.filter_cons_of_pos (by simpa using q), if_neg q, List.length_cons, filter_nr]; lia -abstractProof
theorem buf_nr (h : HI H x) : H.buffer.length ≤ H.nr := by
  have := sub_len (l := H.buffer) (m := (H.cells.filter fun p => decide (p.2.sort ≠ .ref)).map (·.1)) h.bnd fun a ha => by
    refine e1a2 ((h.buf a).mp ha) fun c hc hb => ?_
    exact List.mem_map.mpr ⟨(a, c), List.mem_filter.mpr ⟨getK_mem hc, by simpa using h.bref a c hc hb⟩, rfl⟩
  rw [List.length_map, filter_nr] at this
  exact this
theorem buf_sorted (h : HI H x) : sortI H.buffer = (H.cells.map (·.1)).filter H.bufd := by
  refine sortI_eq ((List.perm_ext_iff_of_nodup (h.cnd.filter _) h.bnd).mpr fun a => ?_) ((h.asc.filter _).imp Int.le_of_lt)
  rw [List.mem_filter, h.buf a]
  unfold HS.bufd
  constructor
  · intro  h_; refine e0a2 (h_) fun h1 h2 => ?_
    cases hc : getK a H.cells with
    | none => rw [hc] at h2; o_facts h2
    | some c => rw [hc] at h2; exact ⟨c, rfl, h2⟩
  · intro  h_; refine e1a2 (h_) fun c hc hb => ?_
    exact ⟨getK_some_mem hc, by rw [hc]; exact hb⟩
theorem same_ok (h : HI H (fun _ => 0)) (z : SzS H) (hn : H.nr ≤ 42) : SameOK H (toW H [] []) := by
  refine ⟨counts_ok h z, rfl, rfl, rfl, ?_, fun n c hc => ⟨wc c, by rw [toW_get, hc]; rfl, rfl, rfl, rfl, ?_⟩, buf_sorted h, ?_⟩
  · show _ = (H.cells.map fun p => (p.1, wc p.2)).map (·.1)
    rw [List.map_map]; rfl
  · have := z.sz0.sz.slots hc; lia -abstractProof
  · have := buf_nr h; lia -abstractProof

theorem HI0 : HI H0 (fun _ => 0) := by
  refine ⟨.nil, fun n c h => ?_, Int.le_refl _, .nil, fun n c h => ?_, fun n c k v h => ?_, fun n c h => ?_, fun n h => ?_, fun n c h => ?_, .nil, fun n => ?_, fun n c h => ?_, fun m h1 h2 => ?_⟩
  · o_facts h
  · o_facts h
  · o_facts h
  · o_facts h
  · exact absurd h (Nat.lt_irrefl _)
  · o_facts h
  · exact ⟨fun h => (by o_facts h), fun ⟨c, h, _⟩ => (by o_facts h)⟩
  · o_facts h
  · o_facts h2
theorem Lim0 (pk : PlanOK P) : Lim P 18 H0 [] := by
  have u := u_le (H := H0) pk (n := 12)
  refine ⟨?_, ?_, ?_⟩
  · unfold Phi; show 12 * uS P H0 12 + 3 * 0 + 0 + 0 + 12 * 18 + 0 ≤ 504; lia -abstractProof
  · unfold bud; show (0 : Int) + 2 * ((uS P H0 12 + 0 + 18 : Nat) : Int) ≤ 84; lia -abstractProof
  · unfold bud; show 0 + (uS P H0 12 + 0 + 18) ≤ 42; lia -abstractProof
theorem Lim.tell {r : Nat} {d : D} (q : Lim P (r + 1) H []) : Lim P r H [.deed d] := by
  have h1 := q.phi; have h2 := q.last; have h3 := q.nr
  refine e0a2 (wT_le (t := .deed d)) fun w1 w2 => ?_
  unfold Phi at h1; unfold bud at h2 h3
  have e1 : sumT wT [.deed d] = wT (.deed d) + 0 := rfl
  have e2 : sumT gT [.deed d] = gT (.deed d) + 0 := rfl
  have e3 : sumT wT [] = 0 := rfl
  have e4 : sumT gT [] = 0 := rfl
  refine ⟨?_, ?_, ?_⟩
  · unfold Phi; lia -abstractProof
  · unfold bud; lia -abstractProof
  · unfold bud; lia -abstractProof

theorem plain : Plain := fun P pk => by
  refine ⟨fun n H W => W = toW H [] [] ∧ HI H (fun _ => 0) ∧ Lim P n H [], ⟨rfl, HI0, Lim0 pk⟩, ?_, ?_⟩
  · intro n H W h_; obtain ⟨rfl, h, q⟩ := h_
    have := q.nr
    exact ⟨same_ok h q.small.1 (by lia -abstractProof), Nat.zero_le _⟩
  · intro n H W d h_ gd; obtain ⟨rfl, h, q⟩ := h_
    obtain ⟨m, H', r1, r2, r3, r4⟩ := run_ok (r := n) (ts := [.deed d]) pk _ (Nat.le_refl _) (h.congr fun _ => rfl) q.tell fun t ht => by
      rw [List.mem_singleton] at ht; subst ht
      exact ⟨0, gd, .inl rfl⟩
    exact ⟨m, m, H', _, r1, r2, rfl, r3, r4⟩
end
end
/-! J1 -/
section
set_option maxRecDepth 100000
set_option autoImplicit false
theorem rest_eq : lawRest = lawRest2 := rfl
theorem scope_eq : lawScope = lawScope2 := rfl
theorem law_fact (xs : List Int) (hz : xs.length ≤ 63) : exs (R 60) lawRest { sc := lawScope, vars := [("script", .obj 0)] } (scriptSt xs) fun x _ => x = .ret (.bool true) := by
  rw [rest_eq, scope_eq]
  exact law_ok plain hz
end
/-! HB -/
section
set_option maxRecDepth 100000
set_option maxHeartbeats 8000000
open PySem PySem.W PyProof.Rows PySem.Calls
theorem head.tw4465704467177643329 : True := trivial
theorem head.tw15676143576742980803 : True := trivial
theorem head.tw1457377512435260902 : True := trivial
theorem head.tw5331137831679937033 : True := trivial
theorem head.tw5853483612964156811 : True := trivial
theorem head.tw13741680068142600715 : True := trivial
theorem head.tw15148963937461231693 : True := trivial
theorem head.tw5824390128016035984 : True := trivial
theorem head.tw957920728692688272 : True := trivial
theorem head.tw10047393819957995408 : True := trivial
theorem head.tw2897760182231759665 : True := trivial
theorem head.tw6474009502463322548 : True := trivial
theorem head.tw13335025841360890868 : True := trivial
theorem head.tw17705092454944307381 : True := trivial
theorem head.tw13828079244328726261 : True := trivial
theorem head.tw7901268698958117014 : True := trivial
theorem head.tw8367155997540120919 : True := trivial
theorem head.tw1051171138599039321 : True := trivial
theorem head.tw2477160067735435323 : True := trivial
theorem head.tw15555337655090317947 : True := trivial
theorem head.tw8216097648270762014 : True := trivial
theorem head.tw17134236748704732670 : True := trivial
theorem head.tw533756555076263647 : True := trivial
theorem head.tw15894371620910866019 : True := trivial
theorem head.tw467416434755642258 : True := trivial
theorem head.tw7680146299302783591 : True := trivial
theorem head.tw45052839361067614 : True := trivial
theorem head.tw5927865893512547691 : True := trivial
theorem head.tw6079359036626576793 : True := trivial
theorem head.tw8216834362191484069 : True := trivial
theorem head.tw1992862871153497056 : True := trivial
theorem head.tw6053349399257934933 : True := trivial
theorem head.tw4764554697811233 : True := trivial
theorem head.tw3512634313551410195 : True := trivial
theorem head.tw12074249297620881909 : True := trivial
theorem head.tw9103479521544129834 : True := trivial
theorem head.tw3368030927266983236 : True := trivial
theorem head.tw5319049981483164881 : True := trivial
theorem head.tw7404141018258913797 : True := trivial
theorem head.tw12775505166333009402 : True := trivial
theorem head.tw17173245716831642929 : True := trivial
theorem head.tw6684978435548883818 : True := trivial
theorem head.tw1714602735852981970 : True := trivial
theorem head.tw8408249889716310983 : True := trivial
theorem head.tw6237802210402583469 : True := trivial
theorem head.tw11988142204041823098 : True := trivial
theorem head.tw13605870324054321959 : True := trivial
theorem head.tw17608190574486352970 : True := trivial
theorem head.tw17577399041416155939 : True := trivial
theorem head.tw8451290768687142514 : True := trivial
theorem head.tw17002534310236347988 : True := trivial
theorem head.tw2237326684586592538 : True := trivial
theorem head.tw4965378191221513410 : True := trivial
theorem head.tw3980653432952411973 : True := trivial
theorem head.tw13198292447841614426 : True := trivial
theorem head.tw14999265807660949796 : True := trivial
theorem head.tw13353151263460963528 : True := trivial
theorem head.tw17782148633632673465 : True := trivial
theorem head.tw6121141971511671821 : True := trivial
theorem head.tw3749026756887285471 : True := trivial
theorem head.tw3496171461512900480 : True := trivial
theorem head.tw3688799982635324794 : True := trivial
theorem head.tw3089916443595474862 : True := trivial
theorem head.tw14195316510222423288 : True := trivial
theorem head.tw15506723302920939300 : True := trivial
theorem head.tw9658139154387788515 : True := trivial
theorem head.tw10865165270600546614 : True := trivial
theorem head.tw4839655697589452165 : True := trivial
theorem head.tw12352672977532951062 : True := trivial
theorem head.tw1315816938146588887 : True := trivial
theorem head.tw7688317290187622652 : True := trivial
theorem head.tw7599496313472250701 : True := trivial
theorem head.tw11862927689305589065 : True := trivial
theorem head.tw3715584954343283195 : True := trivial
theorem head.tw5629256929840616583 : True := trivial
theorem head.tw9114333099845857663 : True := trivial
theorem head.tw1832916270232011604 : True := trivial
theorem head.tw1618804561499322139 : True := trivial
theorem head.tw7494366503370351645 : True := trivial
theorem head.tw11628534518673281344 : True := trivial
theorem head.tw12201952087667049370 : True := trivial
theorem head.tw12472887615940459650 : True := trivial
theorem head.tw15468718075485040107 : True := trivial
theorem head.tw14943480678444902952 : True := trivial
theorem head.tw7906546307943345882 : True := trivial
theorem head.tw497287684792784471 : True := trivial
theorem head.tw10366927770000222440 : True := trivial
theorem head.tw17212568112599259466 : True := trivial
theorem head.tw6846866878297920324 : True := trivial
theorem head.tw5973763720392745831 : True := trivial
theorem head.tw12207028300977255130 : True := trivial
theorem head.tw2879759524354350568 : True := trivial
theorem head.tw8627200689577751383 : True := trivial
theorem head.tw17826015225549371706 : True := trivial
theorem head.tw2096541523181747872 : True := trivial
theorem head.tw262713603470380999 : True := trivial
theorem head.tw5651425540991249520 : True := trivial
theorem head.tw2728595385866086531 : True := trivial
theorem head.tw16997897962222511 : True := trivial
theorem head.tw8758324158161630591 : True := trivial
theorem head.tw17552560543380974038 : True := trivial
theorem head.tw3501597964444990463 : True := trivial
theorem head.tw14982685227137828758 : True := trivial
theorem head.tw6871339299614917876 : True := trivial
theorem head.tw3973953319845086491 : True := trivial
theorem head.tw8097174177036852075 : True := trivial
theorem head.tw4528443807372415038 : True := trivial
theorem head.tw16031315777459398524 : True := trivial
theorem head.tw18051680202136193954 : True := trivial
theorem head.tw15296082917334920728 : True := trivial
theorem head.tw3160712208675142370 : True := trivial
theorem head.tw16072502192527678464 : True := trivial
theorem head.tw16894197260953374720 : True := trivial
theorem head.tw9280153536138602973 : True := trivial
theorem head.tw16572314662081343053 : True := trivial
theorem head.tw14112051064653734678 : True := trivial
theorem head.tw5737951250597237232 : True := trivial
theorem head.tw7512725033676591148 : True := trivial
theorem head.tw15064752311394979489 : True := trivial
theorem head.tw8866670633112419022 : True := trivial
theorem head.tw2203363585012173787 : True := trivial
theorem head.tw3103639331685909893 : True := trivial
theorem head.tw8603420104599213669 : True := trivial
theorem head.tw14679116673082234219 : True := trivial
theorem head.tw4196546014268931301 : True := trivial
theorem head.tw7287109101882759415 : True := trivial
theorem head.tw5508695066786827253 : True := trivial
theorem head.tw6587087628758450585 : True := trivial
theorem head.tw15798066900824788120 : True := trivial
theorem head.tw6507506987150044280 : True := trivial
theorem head.tw4063747431996464497 : True := trivial
theorem head.tw17188972718952451159 : True := trivial
theorem head.tw16966009324859112401 : True := trivial
theorem head.tw10059252607514160932 : True := trivial
theorem head.tw11544532188706048022 : True := trivial
theorem head.tw6846597200999610202 : True := trivial
theorem head.tw17197444120159719569 : True := trivial
theorem head.tw14969872817325187116 : True := trivial
theorem head.tw11426403942048686318 : True := trivial
theorem head.tw2393098407364606883 : True := trivial
theorem head.tw11194998557105285118 : True := trivial
theorem head.tw8101760021730824546 : True := trivial
theorem head.tw11434997419882176723 : True := trivial
theorem head.tw3615648651819825313 : True := trivial
theorem head.tw8874674299285249911 : True := trivial
theorem head.tw1319983325249436295 : True := trivial
theorem head.tw12870424476946447624 : True := trivial
theorem head.tw8534208459206503383 : True := trivial
theorem head.tw11821203517306503961 : True := trivial
theorem head.tw17725469503822016867 : True := trivial
theorem head.tw300626226527484142 : True := trivial
theorem head.tw15436542981012472205 : True := trivial
theorem head.tw6640010369347007910 : True := trivial
theorem head.tw17698105195316432488 : True := trivial
theorem head.tw1689142752476645926 : True := trivial
theorem head.tw16106133796442146334 : True := trivial
theorem head.tw9746458257258439470 : True := trivial
theorem head.tw13585267454733459922 : True := trivial
theorem head.tw9978949632667528635 : True := trivial
theorem head.tw3304075619188804072 : True := trivial
theorem head.tw2825341998796452840 : True := trivial
theorem head.tw13508044439285423174 : True := trivial
theorem head.tw6772502638888315869 : True := trivial
theorem head.tw16874305072444578374 : True := trivial
theorem head.tw4023466491090337370 : True := trivial
theorem head.tw9074772780463953568 : True := trivial
theorem head.tw14205479233844494046 : True := trivial
theorem head.tw9062998866958442273 : True := trivial
theorem head.tw7994106446794305319 : True := trivial
theorem head.tw10812213935944405949 : True := trivial
theorem head.tw17014734716931888790 : True := trivial
theorem head.tw8535708456716222715 : True := trivial
theorem head.tw1620002657737552111 : True := trivial
theorem head.tw3453547403478019728 : True := trivial
theorem head.tw5111174896325423537 : True := trivial
theorem head.tw6836605351468522007 : True := trivial
theorem head.tw17265401458761052179 : True := trivial
theorem head.tw851385035628625539 : True := trivial
theorem head.tw10018764681926925449 : True := trivial
theorem head.tw17348764703882912863 : True := trivial
theorem head.tw2326617092838664518 : True := trivial
theorem head.tw7928285938522686346 : True := trivial
theorem head.tw1463646239528298992 : True := trivial
theorem head.tw12043669396524033845 : True := trivial
theorem head.tw10205530081349824492 : True := trivial
theorem head.tw2400818531096893172 : True := trivial
theorem head.tw5788964047882338313 : True := trivial
theorem head.tw14744981736328886265 : True := trivial
theorem head.tw2994366008111725845 : True := trivial
theorem head.tw2260579728952749127 : True := trivial
theorem head.tw7417405269818204032 : True := trivial
theorem head.tw742351954350328859 : True := trivial
theorem head.tw7523532297153676066 : True := trivial
theorem head.tw7876399200375917224 : True := trivial
theorem head.tw3986194592780655508 : True := trivial
theorem head.tw17844492200522320778 : True := trivial
theorem head.tw7658410731251134818 : True := trivial
theorem head.tw14842460003800876886 : True := trivial
theorem head.tw5140934472235413692 : True := trivial
theorem head.tw820421773197932041 : True := trivial
theorem head.tw15035418422258542911 : True := trivial
theorem head.tw3869590956505411354 : True := trivial
theorem head.tw12032222614953749359 : True := trivial
theorem head.tw14667470093908496907 : True := trivial
theorem head.tw7253898381062576733 : True := trivial
theorem head.tw48543519692965452 : True := trivial
theorem head.tw16782820856776367440 : True := trivial
theorem head.tw4709128311485490483 : True := trivial
theorem head.tw6247268493268985975 : True := trivial
theorem head.tw7661765248129044261 : True := trivial
theorem head.tw13906610036690215845 : True := trivial
theorem head.tw1643771367246577777 : True := trivial
theorem head.tw16441004959143088680 : True := trivial
theorem head.tw9407594320385231609 : True := trivial
theorem head.tw4381510469713062047 : True := trivial
theorem head.tw2529948359932261575 : True := trivial
theorem head.tw16847831306532103052 : True := trivial
theorem head.tw17093656651364094606 : True := trivial
theorem head.tw5906749814970224870 : True := trivial
theorem head.tw14676189674455941282 : True := trivial
theorem head.tw3746228215898030841 : True := trivial
set_option Elab.async true
theorem head : PySem.Challenge.rw_pf0208_01.Holds := by
  w_on
  o_law
  k_head
  (case hw => w_witness2)
  k_fill
  have HF : HeadOK head.heap_1_39 head.view_1_40 := by
    constructor
    · kernel_rfl
    · intro p; kernel_rfl
    · intro p; k_is
    · intro p; k_is
    · intro p; k_is
    · intro p; k_is
    · intro p; k_is
    · intro p; k_is
    · intro p; k_is
    · intro p; k_is
    · intro p; k_is
    · intro p; k_is
    · intro p
      apply Exists.intro
      apply And.intro
      k_is
      exact ⟨_, _, rfl, by kernel_rfl, rfl, rfl, rfl, rfl, rfl, by kernel_rfl⟩
    · intro p
      apply Exists.intro
      apply And.intro
      k_is
      exact ⟨_, _, rfl, by kernel_rfl, rfl, rfl, rfl, rfl, rfl, by kernel_rfl⟩
    · intro p; kernel_rfl
    · intro p; kernel_rfl
    · intro p; kernel_rfl
  k_go0
  rename_i w s₀ s₁ mg mb G Y fa o pm doc kV ho hg KX Xx V GL T B TE TW wa wo M wc wm hcd xs hs hlay0 hL1 hr1 hl2 as1 as2 la vals as3 hL ra w1 r0 hI hr hcond1 hcond2 K0 hD h₁ F N0
  refine law_run' HF (p1 := ⟨368, 4, 368, 10⟩) (p2 := ⟨368, 13, 368, 19⟩) (p3 := ⟨368, 21, 368, 23⟩) (p4 := ⟨368, 20, 368, 23⟩) (p5 := ⟨368, 13, 368, 24⟩) (p6 := ⟨368, 4, 368, 24⟩) (kd := 0) KX T rfl (room60 _) (by kernel_rfl) (by kernel_rfl) rfl rfl rfl F rfl hL hI (by omega) (law_fact xs (by omega)) fun s' hm keep hg' ho' => ?_
  obtain ⟨m', hm⟩ := hm
  refine goodW_bool (L := s₁.heap.objs.size) ⟨hm, keep, F.above⟩ (hg'.trans hg) ?_ ?_ ho'
  · intro cls
    first | rfl | (simp; done) | kernel_rfl
  · first | rfl | (simp; done) | kernel_rfl
end
end Mine
set_option maxRecDepth 100000 in
set_option maxHeartbeats 8000000 in
theorem PySem.Challenge.cw_pf0208_01_holds : PySem.Challenge.rw_pf0208_01.Holds :=
  Mine.head
