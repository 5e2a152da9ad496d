import PyProof.Rows.All
import HandS.Comp
import HandS.ForMost
import HandS.ForExc
import HandS.Deep
import HandS.DeepEq
import HandS.Wide
import HandS.TupMul
import HandS.TupAny
import HandS.Style
import HandS.IsInst
import HandS.Exc
import HandS.ExcOwn
import HandS.CallSlots
import HandS.HeadHook2
import HandS.HeadEnd
import HandS.Head0
import HandS.Head1
import HandS.Head2
import PySem.Challenge.RW_tearboard_k09_rows_with_the_shortest_rou
import Wide.All
import OpenK.AllK
import Wide.FinOn
import KE.KStateDown
set_option Elab.async false
set_option linter.all false
/-! Den: a small interpreter over the model's syntax trees, on tree values. -/
namespace Mp
open PySem

/-- a value as a tree; obj n: what stands at n of the store; a dict's entries are pairs -/
inductive T where
  | non | bl (b : Bool) | int (i : Int) | str (s : Str)
  | tup (xs : List T) | lst (xs : List T) | dct (kvs : List T) | set (xs : List T)
  | ins (c : Str) (ns : List Str) (vs : List T)
  | obj (n : Nat)
  deriving Inhabited

/-- a field's value; own: a list of the instance's own -/
structure Fd where
  own : Bool
  t : T
  deriving Inhabited
/-- a name's place: nothing, a value that is never changed in place, a list or dict of the def's own, the instance that __init__ fills -/
inductive Slot where
  | no | fr (t : T) | own (t : T) | slf (c : Str) (ns : List Str) (vs : List Fd)
  deriving Inhabited
inductive Cell where
  | no | lst (xs : List T) | scr (xs : List T) | ins (c : Str) (ns : List Str) (vs : List Fd)
  deriving Inhabited
abbrev En := List Slot
abbrev Store := List Cell
inductive Out (α : Type) where
  | ok (a : α) (st : Store) | err (c : Str) (vs : List T) (st : Store) | bad
  deriving Inhabited
abbrev Ev (α : Type) := En → Store → Out α
abbrev EvT := Ev T
/-- how a statement ends -/
inductive Fl where
  | nx | ret (t : T) | brk | ct
  deriving Inhabited
inductive OutS where
  | ok (f : Fl) (env : En) (st : Store) | err (c : Str) (vs : List T) (env : En) (st : Store) | bad
  deriving Inhabited
abbrev EvS := En → Store → OutS
/-- a def, by values -/
abbrev FnD := List T → Store → Out T
/-- an __init__: the fields -/
abbrev InitD := List T → Store → Out (List Str × List Fd)

/-! ### values -/
mutual
def T.okd : Nat → T → Bool
  | 0, _ => false
  | n + 1, .tup xs => T.okdL n xs
  | n + 1, .lst xs => T.okdL n xs
  | _ + 1, .str s => s.cps.all fun c => decide (c < 1114112)
  | _ + 1, .non => true
  | _ + 1, .bl _ => true
  | _ + 1, .int _ => true
  | _ + 1, .dct _ => false
  | _ + 1, .set _ => false
  | _ + 1, .ins _ _ _ => false
  | _ + 1, .obj _ => false
def T.okdL : Nat → List T → Bool
  | _, [] => true
  | n, x :: xs => T.okd n x && T.okdL n xs
end
mutual
def T.eqv : T → T → Bool
  | .non, .non => true
  | .bl a, .bl b => a == b
  | .bl a, .int j => (if a then 1 else 0) == j
  | .int i, .bl b => i == (if b then 1 else 0)
  | .int i, .int j => i == j
  | .str x, .str y => x == y
  | .lst xs, .lst ys => T.eqvL xs ys
  | .tup xs, .tup ys => T.eqvL xs ys
  | _, _ => false
def T.eqvL : List T → List T → Bool
  | [], [] => true
  | x :: xs, y :: ys => T.eqv x y && T.eqvL xs ys
  | _, _ => false
end
/-- == of data -/
def T.eq? (x y : T) : Option Bool := if T.okd 12 x && T.okd 12 y then some (T.eqv x y) else none
mutual
def T.lt : T → T → Bool
  | .int i, .int j => decide (i < j)
  | .tup xs, .tup ys => T.ltL xs ys
  | .lst xs, .lst ys => T.ltL xs ys
  | _, _ => false
def T.ltL : List T → List T → Bool
  | [], [] => false
  | [], _ :: _ => true
  | _ :: _, [] => false
  | x :: xs, y :: ys => if T.eqv x y then T.ltL xs ys else T.lt x y
end
def T.isInt : T → Bool
  | .int _ => true
  | _ => false
def T.ints? : List T → Option (List Int)
  | [] => some []
  | .int i :: xs => (T.ints? xs).map (i :: ·)
  | _ :: _ => none
def T.bls? : List T → Option (List Bool)
  | [] => some []
  | .bl i :: xs => (T.bls? xs).map (i :: ·)
  | _ :: _ => none
def T.strs? : List T → Option (List Str)
  | [] => some []
  | .str i :: xs => (T.strs? xs).map (i :: ·)
  | _ :: _ => none

/-! ### the monad -/
def Ev.pure {α : Type} (a : α) : Ev α := fun _ st => .ok a st
def Ev.bad {α : Type} : Ev α := fun _ _ => .bad
def Ev.bind {α β : Type} (f : Ev α) (g : α → Ev β) : Ev β := fun env st => match f env st with
  | .ok a st' => g a env st'
  | .err c vs st' => .err c vs st'
  | .bad => .bad
def Ev.opt {α : Type} : Option α → Ev α
  | some a => Ev.pure a
  | none => Ev.bad
/-- .. by the store -/
def Ev.optS {α : Type} (f : Store → Option α) : Ev α := fun env st => Ev.opt (f st) env st
/-- an operation on the values of one, two, three expressions -/
def ev1 (op : T → Option T) (f : EvT) : EvT := f.bind fun x => Ev.opt (op x)
def ev1S (op : Store → T → Option T) (f : EvT) : EvT := f.bind fun x => Ev.optS fun st => op st x
def ev2 (op : T → T → Option T) (f g : EvT) : EvT := f.bind fun x => g.bind fun y => Ev.opt (op x y)
def ev2S (op : Store → T → T → Option T) (f g : EvT) : EvT := f.bind fun x => g.bind fun y => Ev.optS fun st => op st x y
def ev3S (op : Store → T → T → T → Option T) (f g h : EvT) : EvT := f.bind fun x => g.bind fun y => h.bind fun z => Ev.optS fun st => op st x y z
/-- values of several, from the left -/
def evL : List EvT → Ev (List T)
  | [] => Ev.pure []
  | f :: fs => f.bind fun x => (evL fs).bind fun xs => Ev.pure (x :: xs)
def evN (mk : List T → Option T) (fs : List EvT) : EvT := (evL fs).bind fun xs => Ev.opt (mk xs)

/-! ### names -/
def con (t : T) : EvT := Ev.pure t
/-- a name's value, that is not changed in place -/
def var (i : Nat) : EvT := fun env st => match env[i]? with
  | some (.fr t) => .ok t st
  | _ => .bad
/-- .. read where it stands -/
def peek (i : Nat) : EvT := fun env st => match env[i]? with
  | some (.fr t) => .ok t st
  | some (.own t) => .ok t st
  | _ => .bad

/-- an own list alone -/
def ownV (i : Nat) : EvT := fun env st => match env[i]? with
  | some (.own t) => .ok t st
  | _ => .bad

/-! ### operators -/
def opAdd : T → T → Option T
  | .int i, .int j => some (.int (i + j))
  | .str x, .str y => if x.length + y.length ≤ 100000 then some (.str (x ++ y)) else none
  | .tup xs, .tup ys => if xs.length + ys.length ≤ 100000 then some (.tup (xs ++ ys)) else none
  | .lst xs, .lst ys => if xs.length + ys.length ≤ 100000 then some (.lst (xs ++ ys)) else none
  | _, _ => none
def opSub : T → T → Option T
  | .int i, .int j => some (.int (i - j))
  | _, _ => none
def bigI (i : Int) : Bool := decide (i.natAbs < 2 ^ 5000)
def rep (xs : List T) : Nat → List T
  | 0 => []
  | n + 1 => xs ++ rep xs n
def opMul : T → T → Option T
  | .int i, .int j => if bigI i && bigI j then some (.int (i * j)) else none
  | .tup xs, .int n => if xs.length * n.toNat ≤ 100000 ∧ n < 2 ^ 62 ∧ -(2 ^ 62) < n then some (.tup (rep xs n.toNat)) else none
  | .lst xs, .int n => if xs.length * n.toNat ≤ 100000 ∧ n < 2 ^ 62 ∧ -(2 ^ 62) < n then some (.lst (rep xs n.toNat)) else none
  | _, _ => none
def opDiv : T → T → Option T
  | .int i, .int j => if 0 < j ∧ j < 2 ^ 2000 then some (.int (i / j)) else none
  | _, _ => none
def opMod : T → T → Option T
  | .int i, .int j => if 0 < j then some (.int (i % j)) else none
  | _, _ => none
def opPow : T → T → Option T
  | .int i, .int j => if 0 ≤ j ∧ j ≤ 1000 ∧ i.natAbs < 2 ^ 64 then some (.int (i ^ j.toNat)) else none
  | _, _ => none
def binOp : Operator → Option (T → T → Option T)
  | .Add => some opAdd
  | .Sub => some opSub
  | .Mult => some opMul
  | .FloorDiv => some opDiv
  | .Mod => some opMod
  | .Pow => some opPow
  | _ => none
def opNeg : T → Option T
  | .int i => some (.int (-i))
  | _ => none
def opLt : T → T → Option T
  | .int i, .int j => some (.bl (decide (i < j)))
  | _, _ => none
def opLe : T → T → Option T
  | .int i, .int j => some (.bl (decide (i ≤ j)))
  | _, _ => none
def opGt : T → T → Option T
  | .int i, .int j => some (.bl (decide (j < i)))
  | _, _ => none
def opGe : T → T → Option T
  | .int i, .int j => some (.bl (decide (j ≤ i)))
  | _, _ => none
def opEq (x y : T) : Option T := (T.eq? x y).map .bl
def opNe (x y : T) : Option T := (T.eq? x y).map fun b => .bl (!b)
def memT (x : T) : List T → Bool
  | [] => false
  | y :: ys => T.eqv y x || memT x ys
def keysOf : List T → List T
  | [] => []
  | .tup [k, _] :: r => k :: keysOf r
  | _ :: r => keysOf r
/-- None, a bool, an int, a text -/
def flatT : T → Bool
  | .non => true
  | .bl _ => true
  | .int _ => true
  | .str _ => true
  | _ => false
/-- a dict's key -/
def keyT : T → Bool
  | .int _ => true
  | .str _ => true
  | _ => false
def opIn : T → T → Option T
  | x, .lst ys => if T.okd 12 x && T.okd 12 (.lst ys) then some (.bl (memT x ys)) else none
  | x, .tup ys => if flatT x && ys.all flatT then some (.bl (memT x ys)) else none
  | x, .dct kvs => if keyT x then some (.bl (memT x (keysOf kvs))) else none
  | .str x, .str y => if x.length = 1 then some (.bl (y.cps.toList.contains (x.cps.getD 0 0))) else none
  | _, _ => none
def notB : Option T → Option T
  | some (.bl b) => some (.bl (!b))
  | _ => none
def opNotIn (x y : T) : Option T := notB (opIn x y)
def opIsN : T → T → Option T
  | .non, .non => some (.bl true)
  | _, .non => some (.bl false)
  | _, _ => none
def opIsNotN (x y : T) : Option T := notB (opIsN x y)
def cmpOp : CmpOp → Option (T → T → Option T)
  | .Lt => some opLt
  | .LtE => some opLe
  | .Gt => some opGt
  | .GtE => some opGe
  | .Eq => some opEq
  | .NotEq => some opNe
  | .In => none
  | .NotIn => none
  | .Is => some opIsN
  | .IsNot => some opIsNotN

/-! ### truth -/
abbrev EvB := Ev Bool
def asB : T → EvB
  | .bl b => Ev.pure b
  | _ => Ev.bad
def testV (f : EvT) : EvB := f.bind asB
def pick {α : Type} (f g : Ev α) (b : Bool) : Ev α := match b with
  | true => f
  | false => g
def andB (f g : EvB) : EvB := f.bind (pick g (Ev.pure false))
def orB (f g : EvB) : EvB := f.bind (pick (Ev.pure true) g)
def notT (f : EvB) : EvB := f.bind fun b => Ev.pure (!b)
/-- .. as values, the first ones bools -/
def andV (f g : EvT) : EvT := (testV f).bind (pick g (Ev.pure (.bl false)))
def orV (f g : EvT) : EvT := (testV f).bind (pick (Ev.pure (.bl true)) g)
def notV (f : EvT) : EvT := (testV f).bind fun b => Ev.pure (.bl (!b))
def iteE (c : EvB) (f g : EvT) : EvT := c.bind (pick f g)
/-- a < b < c -/
def chain (op op' : T → T → Option T) (f g h : EvT) : EvT := f.bind fun x => g.bind fun y => (Ev.opt (op x y)).bind fun z => (asB z).bind (pick (h.bind fun w => Ev.opt (op' y w)) (Ev.pure (.bl false)))

/-! ### items, slices, fields -/
def seqOf (st : Store) : T → Option (List T)
  | .lst xs => some xs
  | .tup xs => some xs
  | .obj n => (match st[n]? with
    | some (.lst xs) => some xs
    | _ => none)
  | _ => none
/-- the place of an index -/
def ixOf (i : Int) (n : Nat) : Option Nat := if 0 ≤ i then (if i < n then some i.toNat else none) else if -(n : Int) ≤ i then some (n + i).toNat else none
def dget (k : T) : List T → Option T
  | [] => none
  | .tup [k', v] :: r => if T.eqv k' k then some v else dget k r
  | _ :: r => dget k r
def opIx (st : Store) : T → T → Option T
  | .str s, .int i => if s.length ≤ 100000 then (ixOf i s.length).map fun k => .str ⟨#[s.cps.getD k 0]⟩ else none
  | x, .int i => (match seqOf st x with
    | some xs => (match ixOf i xs.length with
      | some k => xs[k]?
      | none => none)
    | none => none)
  | _, _ => none
/-- a slice's ends -/
def lim (n : Nat) : T → Option Nat → Option Nat
  | .int i, _ => if -(2 ^ 60) < i ∧ i < 2 ^ 60 then some (if i < 0 then (n + i).toNat else min i.toNat n) else none
  | .non, d => d
  | _, _ => none
def asPart : T → EvT
  | .int i => Ev.pure (.int i)
  | _ => Ev.bad
def cutT (lo hi : Nat) (xs : List T) : List T := (xs.drop lo).take (hi - lo)
def opCut (st : Store) (x lo hi : T) : Option T := match x with
  | .tup xs => (match lim xs.length lo (some 0), lim xs.length hi (some xs.length) with
    | some a, some b => some (.tup (cutT a b xs))
    | _, _ => none)
  | .lst xs => (match lim xs.length lo (some 0), lim xs.length hi (some xs.length) with
    | some a, some b => some (.lst (cutT a b xs))
    | _, _ => none)
  | .str s => (match lim s.length lo (some 0), lim s.length hi (some s.length) with
    | some a, some b => if s.length ≤ 100000 then some (.str ⟨((s.cps.toList.drop a).take (b - a)).toArray⟩) else none
    | _, _ => none)
  | .obj n => (match st[n]? with
    | some (.lst xs) => (match lim xs.length lo (some 0), lim xs.length hi (some xs.length) with
      | some a, some b => some (.lst (cutT a b xs))
      | _, _ => none)
    | some (.scr xs) => (match lim xs.length lo (some 0), lim xs.length hi (some xs.length) with
      | some a, some b => some (.lst (cutT a b xs))
      | _, _ => none)
    | _ => none)
  | _ => none
def lookF {α : Type} (f : Str) : List Str → List α → Option α
  | n :: ns, v :: vs => if n == f then some v else lookF f ns vs
  | _, _ => none
def putF {α : Type} (f : Str) (x : α) : List Str → List α → List Str × List α
  | n :: ns, v :: vs => if n == f then (n :: ns, x :: vs) else ((n :: (putF f x ns vs).1), (v :: (putF f x ns vs).2))
  | _, _ => ([f], [x])
def fldT (f : Str) (st : Store) : T → Option T
  | .ins _ ns vs => lookF f ns vs
  | .obj n => (match st[n]? with
    | some (.ins _ ns vs) => (match lookF f ns vs with
      | some ⟨false, t⟩ => some t
      | _ => none)
    | _ => none)
  | _ => none
/-- .. read where it stands -/
def fldP (f : Str) (st : Store) : T → Option T
  | .ins _ ns vs => lookF f ns vs
  | .obj n => (match st[n]? with
    | some (.ins _ ns vs) => (lookF f ns vs).map (·.t)
    | _ => none)
  | _ => none

/-- x.f, x a name -/
def fldV (f : Str) (i : Nat) : EvT := fun env st => match env[i]? with
  | some (.fr t) => (match fldT f st t with
    | some v => .ok v st
    | none => .bad)
  | some (.slf _ ns vs) => (match lookF f ns vs with
    | some ⟨false, t⟩ => .ok t st
    | _ => .bad)
  | _ => .bad
def fldPV (f : Str) (i : Nat) : EvT := fun env st => match env[i]? with
  | some (.fr t) => (match fldP f st t with
    | some v => .ok v st
    | none => .bad)
  | some (.slf _ ns vs) => (match lookF f ns vs with
    | some d => .ok d.t st
    | none => .bad)
  | _ => .bad

/-! ### displays -/
def mkTup (xs : List T) : Option T := if xs.length ≤ 100000 then some (.tup xs) else none
def mkLst (xs : List T) : Option T := if xs.length ≤ 100000 then some (.lst xs) else none
/-- d[k] = v upon the pairs -/
def dput (k v : T) : List T → List T
  | [] => [.tup [k, v]]
  | .tup [k', v'] :: r => if T.eqv k' k then .tup [k', v] :: r else .tup [k', v'] :: dput k v r
  | x :: r => x :: dput k v r
def mkDct : List T → Option T
  | [] => some (.dct [])
  | [k, v] => if keyT k then some (.dct [.tup [k, v]]) else none
  | k :: v :: r => (match mkDct r with
    | some (.dct kvs) => if keyT k then some (.dct (.tup [k, v] :: kvs)) else none
    | _ => none)
  | _ => none

/-! ### built-ins -/
def lenT (st : Store) : T → Option T
  | .lst xs => some (.int xs.length)
  | .tup xs => some (.int xs.length)
  | .str s => if s.length ≤ 100000 then some (.int s.length) else none
  | .obj n => (match st[n]? with
    | some (.lst xs) => some (.int xs.length)
    | _ => none)
  | _ => none
def listT (st : Store) (x : T) : Option T := (seqOf st x).map .lst
def tupleT (st : Store) (x : T) : Option T := (seqOf st x).map .tup
def anyT (x : T) : Option T := match x with
  | .lst xs => (T.bls? xs).map fun bs => .bl (bs.any id)
  | _ => none
def allT (x : T) : Option T := match x with
  | .lst xs => (T.bls? xs).map fun bs => .bl (bs.all id)
  | _ => none
def sumT (x : T) : Option T := match x with
  | .lst xs => (T.ints? xs).map fun ns => .int ns.sum
  | .tup xs => (T.ints? xs).map fun ns => .int ns.sum
  | _ => none
def maxL : List Int → Option Int
  | [] => none
  | [x] => some x
  | x :: xs => (maxL xs).map fun m => if x < m then m else x
def minL : List Int → Option Int
  | [] => none
  | [x] => some x
  | x :: xs => (minL xs).map fun m => if m < x then m else x
def max1 (x : T) : Option T := match x with
  | .lst xs => ((T.ints? xs).bind maxL).map .int
  | .tup xs => ((T.ints? xs).bind maxL).map .int
  | _ => none
def min1 (x : T) : Option T := match x with
  | .lst xs => ((T.ints? xs).bind minL).map .int
  | .tup xs => ((T.ints? xs).bind minL).map .int
  | _ => none
def max2 : T → T → Option T
  | .int i, .int j => some (.int (if i < j then j else i))
  | _, _ => none
def min2 : T → T → Option T
  | .int i, .int j => some (.int (if j < i then j else i))
  | _, _ => none
def digit? (c : Nat) : Option Int := if 48 ≤ c ∧ c ≤ 57 then some (c - 48 : Int) else none
def intS : List Nat → Int → Option Int
  | [], acc => some acc
  | c :: cs, acc => (digit? c).bind fun d => intS cs (acc * 10 + d)
def intT : T → Option T
  | .int i => some (.int i)
  | .bl b => some (.int (if b then 1 else 0))
  | .str s => if 0 < s.length ∧ s.length ≤ 600 then (intS s.cps.toList 0).map .int else none
  | _ => none
def strT : T → Option T
  | .int i => if i.natAbs < 10 ^ 500 then some (.str (toString i)) else none
  | .str s => some (.str s)
  | _ => none
/-- inserted ahead of the first that is greater -/
def insT (x : T) : List T → List T
  | [] => [x]
  | y :: ys => if T.lt x y then x :: y :: ys else y :: insT x ys
def sortL : List T → List T
  | [] => []
  | x :: xs => insT x (sortL xs)
/-- sorted from the right keeps equal ones in turn: x goes ahead of its equals -/
def insS (x : T) : List T → List T
  | [] => [x]
  | y :: ys => if T.lt y x then y :: insS x ys else x :: y :: ys
def sortS : List T → List T
  | [] => []
  | x :: xs => insS x (sortS xs)
mutual
def ordd : Nat → T → Bool
  | 0, _ => false
  | _ + 1, .int _ => true
  | n + 1, .tup xs => orddL n xs
  | n + 1, .lst xs => orddL n xs
  | _, _ => false
def orddL : Nat → List T → Bool
  | _, [] => true
  | n, x :: xs => ordd n x && orddL n xs
end
/-- of one kind -/
def kindT : T → Nat
  | .int _ => 1
  | .tup _ => 2
  | .lst _ => 3
  | _ => 0
def sortT (st : Store) (x : T) : Option T := match x with
  | .dct kvs => if orddL 4 (keysOf kvs) then some (.lst (sortS (keysOf kvs))) else none
  | .set xs => if orddL 4 xs then some (.lst (sortS xs)) else none
  | x => (match seqOf st x with
    | some xs => if orddL 4 xs then some (.lst (sortS xs)) else none
    | none => none)
def insU (x : T) : List T → List T
  | xs => if memT x xs then xs else xs ++ [x]
def setT (st : Store) (x : T) : Option T := match seqOf st x with
  | some xs => (T.ints? xs).map fun _ => .set (xs.foldl (fun acc x => insU x acc) [])
  | none => none
def pairs? : List T → Option (List T)
  | [] => some []
  | .tup [k, v] :: r => (pairs? r).map (.tup [k, v] :: ·)
  | _ => none
def dictT (x : T) : Option T := match x with
  | .lst xs => (pairs? xs).bind fun ps => if (keysOf ps).all keyT && decide (ps.length ≤ 100000) then some (.dct (ps.foldl (fun acc p => match p with
    | .tup [k, v] => dput k v acc
    | _ => acc) [])) else none
  | _ => none
/-- the class of a value, by its name -/
def tyName : T → Str
  | .non => "NoneType"
  | .bl _ => "bool"
  | .int _ => "int"
  | .str _ => "str"
  | .tup _ => "tuple"
  | .lst _ => "list"
  | .dct _ => "dict"
  | .set _ => "set"
  | .ins c _ _ => c
  | .obj _ => "list"
/-- .. of the built-in classes alone -/
def kindOf (st : Store) : T → Option String
  | .non => some "NoneType"
  | .bl _ => some "bool"
  | .int _ => some "int"
  | .str _ => some "str"
  | .tup _ => some "tuple"
  | .lst _ => some "list"
  | .dct _ => some "dict"
  | .obj n => (match st[n]? with
    | some (.lst _) => some "list"
    | _ => none)
  | _ => none
def subKind (a b : String) : Bool := a == b || (a == "bool" && b == "int")
def isKind (ns : List String) (st : Store) (x : T) : Option T := (kindOf st x).map fun s => .bl (ns.any (subKind s))
def joinT (sep : T) (x : T) : Option T := match sep, x with
  | .str s, .lst xs => (T.strs? xs).bind fun ys => if (Str.join s ys).length ≤ 100000 then some (.str (Str.join s ys)) else none
  | _, _ => none
/-- the first place of a sign -/
def findC (c : Nat) : List Nat → Option Nat
  | [] => none
  | x :: xs => if x = c then some 0 else (findC c xs).map (· + 1)
def partC (c : Nat) (l : List Nat) : List Nat × List Nat × List Nat := match findC c l with
  | some k => (l.take k, [c], l.drop (k + 1))
  | none => (l, [], [])
def str (l : List Nat) : T := .str ⟨l.toArray⟩
def partT (x sep : T) : Option T := match x, sep with
  | .str s, .str p => if p.length = 1 ∧ s.length ≤ 100000 then
      let r := partC (p.cps.getD 0 0) s.cps.toList
      some (.tup [Mp.str r.1, Mp.str r.2.1, Mp.str r.2.2]) else none
  | _, _ => none
def isPre : List Nat → List Nat → Bool
  | [], _ => true
  | _ :: _, [] => false
  | a :: as, b :: bs => a == b && isPre as bs
/-- split at a text: cur the piece so far (turned), skip signs still of the separator -/
def splitL (sep : List Nat) : List Nat → List Nat → Nat → List (List Nat)
  | [], cur, _ => [cur.reverse]
  | x :: xs, cur, 0 => if isPre sep (x :: xs) then cur.reverse :: splitL sep xs [] (sep.length - 1) else splitL sep xs (x :: cur) 0
  | _ :: xs, cur, k + 1 => splitL sep xs cur k
def splitT (x sep : T) : Option T := match x, sep with
  | .str s, .str p => if 0 < p.length ∧ s.length ≤ 100000 then some (.lst ((splitL p.cps.toList s.cps.toList [] 0).map Mp.str)) else none
  | _, _ => none
def getT (d k x : T) : Option T := match d with
  | .dct kvs => if keyT k then some ((dget k kvs).getD x) else none
  | _ => none
def indexOf (x : T) : List T → Option Nat
  | [] => none
  | y :: ys => if T.eqv y x then some 0 else (indexOf x ys).map (· + 1)
def indexT (l x : T) : Option T := match l, x with
  | .lst xs, x => if T.okd 12 x && T.okd 12 (.lst xs) then (indexOf x xs).map fun k => .int k else none
  | .tup xs, x => if T.okd 12 x && T.okd 12 (.tup xs) then (indexOf x xs).map fun k => .int k else none
  | .str s, .str p => if p.length = 1 then (findC (p.cps.getD 0 0) s.cps.toList).map fun k => .int k else none
  | _, _ => none
def countT (l x : T) : Option T := match l with
  | .lst xs => if T.okd 12 x && T.okd 12 (.lst xs) then some (.int (xs.countP fun y => T.eqv y x)) else none
  | _ => none

/-! ### what a loop walks -/
abbrev EvI := Ev (List T)
def rangeL (lo : Int) : Nat → List T
  | 0 => []
  | n + 1 => .int lo :: rangeL (lo + 1) n
def asSeq : T → EvI
  | .lst xs => Ev.pure xs
  | .tup xs => Ev.pure xs
  | _ => Ev.bad
def itSeq (f : EvT) : EvI := f.bind asSeq
def asRng : T → EvI
  | .int j => if j < 2 ^ 60 ∧ -(2 ^ 60) < j then Ev.pure (rangeL 0 j.toNat) else Ev.bad
  | _ => Ev.bad
def asRng2 : T → T → EvI
  | .int i, .int j => if (j < 2 ^ 60 ∧ -(2 ^ 60) < j) ∧ i < 2 ^ 60 ∧ -(2 ^ 60) < i then Ev.pure (rangeL i (j - i).toNat) else Ev.bad
  | _, _ => Ev.bad
def itRng1 (f : EvT) : EvI := f.bind asRng
def itRng2 (f g : EvT) : EvI := f.bind fun x => g.bind fun y => asRng2 x y
def enumL (k : Int) : List T → List T
  | [] => []
  | x :: xs => .tup [.int k, x] :: enumL (k + 1) xs
def itEnum (f : EvT) : EvI := (itSeq f).bind fun xs => Ev.pure (enumL 0 xs)

/-! ### targets: the places that are set -/
inductive Tg where
  | name (i : Nat) | tup (gs : List Tg)
  deriving Inhabited
mutual
def Tg.put : Tg → T → En → Option En
  | .name i, t, env => some (env.set i (.fr t))
  | .tup gs, .tup ts, env => Tg.putL gs ts env
  | .tup _, _, _ => none
def Tg.putL : List Tg → List T → En → Option En
  | [], [], env => some env
  | g :: gs, t :: ts, env => (Tg.put g t env).bind fun env' => Tg.putL gs ts env'
  | _, _, _ => none
end
/-- the block's own names forgotten -/
def wipeE : List Nat → En → En
  | [], env => env
  | v :: vs, env => (wipeE vs env).set v .no

/-! ### comprehensions -/
def Out.noErr {α : Type} : Out α → Out α
  | .err _ _ _ => .bad
  | r => r
/-- items for which the test holds, their elements -/
def compL (g : Tg) (c : EvB) (e : EvT) (env : En) : List T → Store → Out (List T)
  | [], st => .ok [] st
  | x :: xs, st => match Tg.put g x env with
    | none => .bad
    | some env' => match c env' st with
      | .ok true st1 => (match e env' st1 with
        | .ok y st2 => (match compL g c e env xs st2 with
          | .ok ys st3 => .ok (y :: ys) st3
          | _ => .bad)
        | _ => .bad)
      | .ok false st1 => compL g c e env xs st1
      | _ => .bad
def tYes : EvB := Ev.pure true
def comp1 (vs : List Nat) (it : EvI) (g : Tg) (c : EvB) (e : EvT) : EvT := it.bind fun xs env st => if xs.length ≤ 100000 then (match compL g c e (wipeE vs env) xs st with
  | .ok ys st2 => .ok (.lst ys) st2
  | _ => .bad) else .bad

/-! ### calls -/
def callP (fn : FnD) (args : List EvT) : EvT := (evL args).bind fun ts _ st => fn ts st

/-! ### statements -/
def sNx : EvS := fun env st => .ok .nx env st
def sBad : EvS := fun _ _ => .bad
def sFl (f : Fl) : EvS := fun env st => .ok f env st
def sBind {α : Type} (f : Ev α) (k : α → EvS) : EvS := fun env st => match f env st with
  | .ok a st1 => k a env st1
  | .err c vs st' => .err c vs env st'
  | .bad => .bad
def sSeq (f g : EvS) : EvS := fun env st => match f env st with
  | .ok .nx env1 st1 => g env1 st1
  | r => r
def sPick (f g : EvS) (b : Bool) : EvS := match b with
  | true => f
  | false => g
def sIf (c : EvB) (f g : EvS) : EvS := sBind c (sPick f g)
def sRet (f : EvT) : EvS := sBind f fun t => sFl (.ret t)
def sExpr (f : EvT) : EvS := sBind f fun _ => sNx
/-- the own ones among some names: values from here on -/
def frzE : List Nat → En → En
  | [], env => env
  | i :: is, env => match env[i]? with
    | some (.own t) => frzE is (env.set i (.fr t))
    | _ => frzE is env
def frz (is : List Nat) (f : EvS) : EvS := fun env st => f (frzE is env) st
def sEnv (f : En → Option En) : EvS := fun env st => match f env with
  | some env' => .ok .nx env' st
  | none => .bad
def sAsg (g : Tg) (f : EvT) : EvS := sBind f fun t => sEnv (Tg.put g t)
/-- x = a new list, dict -/
def ownTo (i : Nat) (t : T) : En → Option En := fun env => match t with
  | .lst xs => some (env.set i (.own (.lst xs)))
  | .dct xs => some (env.set i (.own (.dct xs)))
  | _ => none
def sOwn (i : Nat) (f : EvT) : EvS := sBind f fun t => sEnv (ownTo i t)
/-- x = a new list that stands in the store -/
def toCell (i : Nat) (t : T) : EvS := fun env st => match t with
  | .lst xs => .ok .nx (env.set i (.fr (.obj st.length))) (st ++ [.lst xs])
  | _ => .bad
def sShr (i : Nat) (f : EvT) : EvS := sBind f (toCell i)
/-- a, b, .. = e, f, .. -/
def putN : List Nat → List T → En → Option En
  | [], [], env => some env
  | i :: is, t :: ts, env => putN is ts (env.set i (.fr t))
  | _, _, _ => none
def sPar (is : List Nat) (fs : List EvT) : EvS := sBind (evL fs) fun ts => sEnv (putN is ts)
/-- a change of an own list or dict -/
def updOwn (i : Nat) (op : T → List T → Option T) (ts : List T) : En → Option En := fun env => match env[i]? with
  | some (.own t) => (op t ts).map fun t' => env.set i (.own t')
  | _ => none
def isOwn : Option Slot → Bool
  | some (.own (.lst _)) => true
  | _ => false
def sUpd (i : Nat) (f : Ev (List T)) (op : T → List T → Option T) : EvS := fun env st => match isOwn env[i]? with
  | true => sBind f (fun ts => sEnv (updOwn i op ts)) env st
  | false => .bad
def opApp : T → List T → Option T
  | .lst xs, [x] => if xs.length < 100000 then some (.lst (xs ++ [x])) else none
  | _, _ => none
/-- x[i] = v: the value first -/
def opPut : T → List T → Option T
  | .lst xs, [v, .int i] => (match ixOf i xs.length with
    | some k => some (.lst (xs.set k v))
    | none => none)
  | _, _ => none
/-- .. in place: ints alone -/
def opAddI : T → T → Option T
  | .int i, .int j => some (.int (i + j))
  | _, _ => none
def augOp : Operator → Option (T → T → Option T)
  | .Add => some opAddI
  | .Sub => some opSub
  | _ => none
/-- x op= e -/
def sAug (i : Nat) (op : T → T → Option T) (f : EvT) : EvS := fun env st => match env[i]? with
  | some (.fr x) => sBind f (fun y => sEnv fun env => (op x y).map fun z => env.set i (.fr z)) env st
  | _ => .bad
/-- o[i] = v, o a list of the store -/
def setIx (st : Store) (v : T) : T → T → Option Store
  | .obj n, .int i => (match st[n]? with
    | some (.lst xs) => (match ixOf i xs.length with
      | some k => some (st.set n (.lst (xs.set k v)))
      | none => none)
    | _ => none)
  | _, _ => none
def sSto (f : Store → Option Store) : EvS := fun env st => match f st with
  | some st' => .ok .nx env st'
  | none => .bad
def sIx (e o i : EvT) : EvS := sBind e fun v => sBind o fun x => sBind i fun k => sSto fun st => setIx st v x k
def forL (g : Tg) (body : EvS) : List T → EvS
  | [], env, st => .ok .nx env st
  | x :: xs, env, st => match Tg.put g x env with
    | none => .bad
    | some env' => match body env' st with
      | .ok .nx env1 st1 => forL g body xs env1 st1
      | .ok .ct env1 st1 => forL g body xs env1 st1
      | .ok .brk env1 st1 => .ok .nx env1 st1
      | .ok (.ret t) env1 st1 => .ok (.ret t) env1 st1
      | .err c vs env1 st1 => .err c vs env1 st1
      | .bad => .bad
def sFor (it : EvI) (g : Tg) (body : EvS) : EvS := sBind it (forL g body)
def whileL (c : EvB) (body : EvS) : Nat → EvS
  | 0, _, _ => .bad
  | n + 1, env, st => match c env st with
    | .ok true st1 => (match body env st1 with
      | .ok .nx env1 st2 => whileL c body n env1 st2
      | .ok .ct env1 st2 => whileL c body n env1 st2
      | .ok .brk env1 st2 => .ok .nx env1 st2
      | .ok (.ret t) env1 st2 => .ok (.ret t) env1 st2
      | .err c vs env1 st1 => .err c vs env1 st1
      | .bad => .bad)
    | .ok false st1 => .ok .nx env st1
    | .err c vs st' => .err c vs env st'
    | .bad => .bad
/-- the turns a while may take -/
def turns : Nat := 1000000
def sWhile (c : EvB) (body : EvS) : EvS := whileL c body turns

/-- a def by its body: n names -/
def endFn : OutS → Out T
  | .ok .nx _ st1 => .ok .non st1
  | .ok (.ret t) _ st1 => .ok t st1
  | .ok _ _ _ => .bad
  | .err c vs _ st1 => .err c vs st1
  | .bad => .bad
def startE (n : Nat) (ts : List T) : En := ts.map Slot.fr ++ List.replicate (n - ts.length) Slot.no
/-- p parameters, n names -/
def runFn (p n : Nat) (body : EvS) : FnD := fun ts st => if ts.length = p then endFn (body (startE n ts) st) else .bad

/-! ### from the syntax -/
structure FnE where
  ps : List Str
  fn : FnD
  fresh : Bool
  lvl : Nat
  deriving Inhabited
structure Genv where
  consts : List (Str × T)
  fns : List (Str × FnE)
  deriving Inhabited
/-- a def's own: its names by slot, its scope, the slots of lists that are changed in place, of those that stand in the store; the names that may be set -/
structure Cfg where
  N : List Str
  sc : List (Str × NameKind)
  acc : List Nat
  shr : List Nat
  set : List Str
  fresh : Bool
  lvl : Nat
  G : Genv
  deriving Inhabited

def ixS (x : Str) : List Str → Option Nat
  | [] => none
  | y :: ys => if y == x then some 0 else (ixS x ys).map (· + 1)
def Cfg.slot (c : Cfg) (x : Str) : Option Nat := match ixS x c.N, c.sc.lookup x with
  | some i, some .local => some i
  | some i, some .cell => some i
  | some i, some .free => some i
  | _, _ => none
def Cfg.setSlot (c : Cfg) (x : Str) : Option Nat := match ixS x c.N, c.sc.lookup x with
  | some i, some .local => if c.set.contains x then some i else none
  | some i, some .cell => if c.set.contains x then some i else none
  | _, _ => none
def Cfg.glob (c : Cfg) (x : Str) : Bool := match c.sc.lookup x with
  | some .globalImplicit => !(x == ("__debug__" : Str))
  | _ => false
def Genv.known (G : Genv) (x : Str) : Bool := (G.consts.lookup x).isSome || (G.fns.lookup x).isSome
/-- the built-ins that are used -/
def bltNames : List Str := ["len", "range", "tuple", "list", "any", "all", "sum", "max", "min", "sorted", "int", "str", "isinstance", "enumerate", "bool"]
/-- a built-in's name -/
def Cfg.blt (c : Cfg) (x : Str) : Bool := c.glob x && !c.G.known x && bltNames.contains x
/-- a new list or dict -/
def freshX (c : Cfg) : Expr → Bool
  | .List _ _ => true
  | .ListComp _ _ _ _ => true
  | .BinOp _ .Add _ _ => true
  | .BinOp _ .Mult _ _ => true
  | .Subscript _ (.Slice _ _ _ _) _ => true
  | .Call (.Name f _) _ _ _ => if c.glob f then (match c.G.fns.lookup f with
    | some e => e.fresh
    | none => f == ("list" : Str) || f == ("sorted" : Str)) else false
  | _ => false

/-- a block's names (as the running frame sees them) -/
def relN (scope : Scope) (sc : List (Str × NameKind)) : List (Str × NameKind) :=
  scope.names.map fun (n, k) => if (k == .free && sc.lookup n == some .cell) then (n, .cell) else (n, k)
/-- the block's own names with their places -/
def ownOf (N : List Str) : List (Str × NameKind) → List (Str × Nat)
  | [] => []
  | (n, k) :: r => match k, ixS n N with
    | .local, some i => (n, i) :: ownOf N r
    | .cell, some i => (n, i) :: ownOf N r
    | _, _ => ownOf N r
/-- what a block's names must keep -/
def blkB (N : List Str) (sc : List (Str × NameKind)) (scope : Scope) : Bool :=
  L2.blkC N { scope with names := sc } scope (ownOf N scope.names)
def Cfg.blk (c : Cfg) (scope : Scope) : Cfg := { c with sc := relN scope c.sc, set := (ownOf c.N scope.names).map (·.1) }
def kindName (x : Str) : Option String :=
  if x == ("bool" : Str) then some "bool" else if x == ("int" : Str) then some "int" else if x == ("str" : Str) then some "str"
  else if x == ("tuple" : Str) then some "tuple" else if x == ("list" : Str) then some "list" else none
def tyName1 (c : Cfg) : Expr → Option String
  | .Name x _ => if c.blt x then kindName x else none
  | _ => none
def tyNames1 (c : Cfg) : List Expr → Option (List String)
  | [] => some []
  | e :: es => (tyName1 c e).bind fun x => (tyNames1 c es).map (x :: ·)
/-- a class, or a tuple of classes -/
def tyNames (c : Cfg) : Expr → Option (List String)
  | .Tuple es _ _ => (tyNames1 c es).bind fun bs => if bs.length ≤ 10 then some bs else none
  | .Name x p => (tyName1 c (.Name x p)).map fun x => [x]
  | _ => none
def isSlice : Expr → Bool
  | .Slice _ _ _ _ => true
  | _ => false
def isStar : Expr → Bool
  | .Starred _ _ => true
  | _ => false
/-- no display of a set, no comprehension: what the model treats by its form -/
def isPlain : Expr → Bool
  | .Set _ _ _ => false
  | .SetComp _ _ _ _ => false
  | .DictComp _ _ _ _ _ => false
  | _ => true
def isComp : Expr → Bool
  | .ListComp _ _ _ _ => true
  | _ => false
/-- a target of names -/
def dG (c : Cfg) : Nat → Expr → Option Tg
  | 0, _ => none
  | n + 1, e => match e with
    | .Name x _ => (c.setSlot x).map Tg.name
    | .Tuple es _ _ => (es.mapM (dG c n)).map Tg.tup
    | _ => none

mutual
/-- an expression's value -/
def dE (c : Cfg) : Nat → Expr → EvT
  | 0, _ => Ev.bad
  | n + 1, e => match e with
    | .Constant .none _ _ => con .non
    | .Constant (.bool b) _ _ => con (.bl b)
    | .Constant (.int i) _ _ => con (.int i)
    | .Constant (.str s) _ _ => con (.str s)
    | .Name x _ => (match c.slot x with
      | some i => var i
      | none => if c.glob x then (match c.G.consts.lookup x with
        | some t => con t
        | none => Ev.bad) else Ev.bad)
    | .BinOp a op b _ => (match binOp op with
      | some f => ev2 f (dB c n a) (dB c n b)
      | none => Ev.bad)
    | .UnaryOp .USub a _ => ev1 opNeg (dE c n a)
    | .UnaryOp .Not a _ => notV (dE c n a)
    | .BoolOp op es _ => dBool c n op es
    | .Compare a [op] [b] _ => (match cmpOp op with
      | some f => if behindInMarks op b then Ev.bad else ev2 f (dB c n a) (dB c n b)
      | none => Ev.bad)
    | .Compare a [op, op'] [b, b'] _ => (match cmpOp op, cmpOp op' with
      | some f, some f' => if behindInMarks op' b' then Ev.bad else chain f f' (dE c n a) (dE c n b) (dE c n b')
      | _, _ => Ev.bad)
    | .IfExp t a b _ => iteE (dT c n t) (dE c n a) (dE c n b)
    | .Tuple es _ _ => evN mkTup (dEs c n es)
    | .List es _ => evN mkLst (dEs c n es)
    | .Subscript o i _ => (match i with
      | .Slice lo hi none _ => ev3S opCut (dB c n o) (dO c n lo) (dO c n hi)
      | .Slice _ _ _ _ => Ev.bad
      | i => ev2S opIx (dB c n o) (dE c n i))
    | .ListComp elt gs scope _ => dLc c n elt gs scope
    | .Call f args [] _ => dC c n f args
    | _ => Ev.bad
/-- a comprehension -/
def dLc (c : Cfg) : Nat → Expr → List Comprehension → Scope → EvT
  | 0, _, _, _ => Ev.bad
  | n + 1, elt, gs, scope => match gs with
    | [⟨tg, it, ifs, 0⟩] => if !blkB c.N c.sc scope || !isPlain it then Ev.bad else (match dG (c.blk scope) n tg with
      | some g => (match ifs with
        | [] => comp1 ((ownOf c.N scope.names).map (·.2)) (dI c n it) g tYes (dE (c.blk scope) n elt)
        | [t] => comp1 ((ownOf c.N scope.names).map (·.2)) (dI c n it) g (dT (c.blk scope) n t) (dE (c.blk scope) n elt)
        | _ => Ev.bad)
      | none => Ev.bad)
    | _ => Ev.bad
/-- .. a name read where it stands -/
def dB (c : Cfg) : Nat → Expr → EvT
  | 0, _ => Ev.bad
  | n + 1, e => match e with
    | .Name x p => (match c.slot x with
      | some i => if c.acc.contains i then peek i else var i
      | none => dE c n (.Name x p))
    | e => dE c n e
def dEs (c : Cfg) : Nat → List Expr → List EvT
  | 0, _ => [Ev.bad]
  | _ + 1, [] => []
  | n + 1, e :: es => dE c n e :: dEs c n es
/-- a slice's end -/
def dO (c : Cfg) : Nat → Option Expr → EvT
  | 0, _ => Ev.bad
  | _ + 1, none => con .non
  | n + 1, some e => (dE c n e).bind asPart
/-- and, or as values -/
def dBool (c : Cfg) : Nat → BoolOp → List Expr → EvT
  | 0, _, _ => Ev.bad
  | n + 1, _, [e] => dE c n e
  | n + 1, .And, e :: es => andV (dE c n e) (dBool c n .And es)
  | n + 1, .Or, e :: es => orV (dE c n e) (dBool c n .Or es)
  | _, _, _ => Ev.bad
/-- a test -/
def dT (c : Cfg) : Nat → Expr → EvB
  | 0, _ => Ev.bad
  | n + 1, e => match e with
    | .BoolOp op es _ => dTs c n op es
    | .UnaryOp .Not a _ => notT (dT c n a)
    | .IfExp _ _ _ _ => Ev.bad
    | e => testV (dE c n e)
def dTs (c : Cfg) : Nat → BoolOp → List Expr → EvB
  | 0, _, _ => Ev.bad
  | n + 1, _, [e] => dT c n e
  | n + 1, .And, e :: es => andB (dT c n e) (dTs c n .And es)
  | n + 1, .Or, e :: es => orB (dT c n e) (dTs c n .Or es)
  | _, _, _ => Ev.bad
/-- what is walked -/
def dI (c : Cfg) : Nat → Expr → EvI
  | 0, _ => Ev.bad
  | n + 1, e => match e with
    | .Call (.Name f p) args [] q => if c.blt f && f == ("range" : Str) then (match args with
        | [a] => itRng1 (dE c n a)
        | [a, b] => if isStar a || isStar b then Ev.bad else itRng2 (dE c n a) (dE c n b)
        | _ => Ev.bad)
      else if c.blt f && f == ("enumerate" : Str) then Ev.bad
      else itSeq (dE c n (.Call (.Name f p) args [] q))
    | e => if isPlain e then itSeq (dE c n e) else Ev.bad
/-- calls -/
def dC (c : Cfg) : Nat → Expr → List Expr → EvT
  | 0, _, _ => Ev.bad
  | n + 1, f, args => match f with
    | .Name f _ => if c.glob f then (match c.G.fns.lookup f with
      | some e => if e.lvl < c.lvl && args.length == e.ps.length && !args.any isStar then callP e.fn (dEs c n args) else Ev.bad
      | none => if c.blt f then (match args with
          | [a] => if isStar a then Ev.bad else dBlt1 c n f a
          | [a, b] => if f == ("isinstance" : Str) then (match tyNames c b with
              | some ns => ev1S (isKind ns) (dB c n a)
              | none => Ev.bad)
            else Ev.bad
          | _ => Ev.bad) else Ev.bad) else Ev.bad
    | _ => Ev.bad
def dBlt1 (c : Cfg) : Nat → Str → Expr → EvT
  | 0, _, _ => Ev.bad
  | n + 1, f, a =>
    if f == ("len" : Str) then ev1S lenT (dB c n a)
    else if f == ("tuple" : Str) then ev1S tupleT (dB c n a)
    else if f == ("list" : Str) then ev1S listT (dB c n a)
    else if f == ("all" : Str) then ev1 allT (dB c n a)
    else if f == ("any" : Str) then ev1 anyT (dB c n a)
    else Ev.bad
end

/-! ### statements from the syntax -/
/-- a name is read where it stands -/
def nb : Expr → List Nat → List Nat
  | .Name _ _, _ => []
  | _, l => l
/-- the places of own lists among the names of an expression that is handed on as a value -/
def rvE (c : Cfg) : Nat → Expr → List Nat
  | 0, _ => []
  | n + 1, e => match e with
    | .Name x _ => (match c.slot x with
      | some i => if c.acc.contains i then [i] else []
      | none => [])
    | .BinOp a _ b _ => nb a (rvE c n a) ++ nb b (rvE c n b)
    | .UnaryOp _ a _ => rvE c n a
    | .BoolOp _ es _ => es.flatMap (rvE c n)
    | .Compare a _ [b] _ => nb a (rvE c n a) ++ nb b (rvE c n b)
    | .Compare a _ es _ => rvE c n a ++ es.flatMap (rvE c n)
    | .IfExp t a b _ => rvE c n t ++ rvE c n a ++ rvE c n b
    | .Tuple es _ _ => es.flatMap (rvE c n)
    | .List es _ => es.flatMap (rvE c n)
    | .Subscript o (.Slice lo hi _ _) _ => nb o (rvE c n o) ++ lo.toList.flatMap (rvE c n) ++ hi.toList.flatMap (rvE c n)
    | .Subscript o i _ => nb o (rvE c n o) ++ rvE c n i
    | .ListComp elt [⟨_, it, ifs, _⟩] _ _ => rvE c n elt ++ rvE c n it ++ ifs.flatMap (rvE c n)
    | .Call (.Name f _) [a] _ _ => if c.blt f then nb a (rvE c n a) else rvE c n a
    | .Call (.Name _ _) as _ _ => as.flatMap (rvE c n)
    | _ => []
def sFrz : List Nat → EvS → EvS
  | [], f => f
  | is, f => frz is f
/-- targets that are names -/
def namesT (c : Cfg) : List Expr → Option (List Nat)
  | [] => some []
  | .Name x _ :: es => match c.setSlot x, namesT c es with
    | some i, some is => some (i :: is)
    | _, _ => none
  | _ => none
def accS (c : Cfg) (x : Str) : Option Nat := match c.slot x with
  | some i => if c.acc.contains i then some i else none
  | none => none
mutual
def dS (c : Cfg) : Nat → Stmt → EvS
  | 0, _ => sBad
  | n + 1, s => match s with
    | .Pass _ => sNx
    | .Break _ => sFl .brk
    | .Continue _ => sFl .ct
    | .Expr (.Constant (.str _) _ _) _ => sNx
    | .Expr (.Call (.Attribute (.Name x _) m ap) [a] [] cp) _ => (match accS c x with
      | some j => if m == ("append" : Str) && !isStar a && ap.endLine == cp.line then sFrz (rvE c n a) (sUpd j (evL [dE c n a]) opApp) else sBad
      | none => sBad)
    | .Return none _ => sRet (con .non)
    | .Return (some (.Name x p)) _ => (match accS c x with
      | some i => if c.fresh then sRet (ownV i) else sRet (peek i)
      | none => if c.fresh then sBad else sRet (dE c n (.Name x p)))
    | .Return (some e) _ => if c.fresh && !freshX c e then sBad else sFrz (rvE c n e) (sRet (dE c n e))
    | .Assign [.Name x _] e _ => (match c.setSlot x with
      | some i => if isPlain e then sFrz (rvE c n e) (if c.acc.contains i && freshX c e then sOwn i (dE c n e)
        else if c.shr.contains i && freshX c e then sShr i (dE c n e) else sAsg (.name i) (dE c n e)) else sBad
      | none => sBad)
    | .Assign [.Tuple [.Name x px, .Name y py] k p] (.Tuple [a, b] k' p') _ => (match c.setSlot x, c.setSlot y with
      | some i, some j => if i != j && x != y && c.sc.lookup x == some .local && c.sc.lookup y == some .local && px.line == py.line && !isStar a && !isStar b && !([a, b].all (foldedForSure 8)) && !([a, b].all (constantsAlone 8)) then sFrz (rvE c n a ++ rvE c n b) (sPar [i, j] (dEs c n [a, b])) else sBad
      | _, _ => sBad)
    | .Assign [.Tuple _ _ _] (.Tuple _ _ _) _ => sBad
    | .Assign [.Tuple tgs k p] e _ => (match dG c n (.Tuple tgs k p) with
      | some g => if isPlain e && !isComp e then sFrz (rvE c n e) (sAsg g (dE c n e)) else sBad
      | none => sBad)
    | .Assign [.Subscript (.Name x p) i _] e _ => if isSlice i then sBad else (match accS c x with
        | some j => sFrz (rvE c n e ++ rvE c n i) (sUpd j (evL [dE c n e, dE c n i]) opPut)
        | none => sIx (dE c n e) (dE c n (.Name x p)) (dE c n i))
    | .AugAssign (.Name x _) op e _ => (match c.setSlot x, augOp op with
      | some i, some f => sFrz (rvE c n e) (sAug i f (dE c n e))
      | _, _ => sBad)
    | .If t a b _ => sFrz (rvE c n t) (sIf (dT c n t) (dSs c n a) (dSs c n b))
    | .For tg it body [] _ => (match dG c n tg with
      | some g => if isPlain it then sFrz (rvE c n it) (sFor (dI c n it) g (dSs c n body)) else sBad
      | none => sBad)
    | .While t body [] _ => sWhile (dT c n t) (dSs c n body)
    | _ => sBad
def dSs (c : Cfg) : Nat → List Stmt → EvS
  | 0, _ => sBad
  | _ + 1, [] => sNx
  | n + 1, [s] => dS c n s
  | n + 1, s :: ss => sSeq (dS c n s) (dSs c n ss)
end
end Mp


set_option Elab.async false
set_option linter.all false
set_option maxRecDepth 100000
/-! Rel: what a tree value is in the model's heap; the state's relation. -/
namespace Mp
open PySem PySem.Spec PyProof.Rows L2

/-- what does not change: the written part, the classes' addresses -/
structure Gk where
  K : PySem.W.Frag
  cl : Str → Addr
/-- the frozen part, the store's addresses, the store's size -/
structure Gh where
  F : Hp
  α : Nat → Addr
  B : Nat

def RepK : Key → T → Prop
  | .inl i, .int j => i = j
  | .inr s, .str t => s = t
  | _, _ => False
section
variable (k : Gk) (g : Gh)
mutual
def Rep : T → V → Prop
  | .non, v => v = .non
  | .bl b, v => v = .bl b
  | .int i, v => v = .int i
  | .str s, v => v = .str s
  | .tup xs, v => ∃ a vs, v = .ref a ∧ SqT k.K g.F a vs ∧ RepL xs vs
  | .lst xs, v => ∃ a vs, v = .ref a ∧ g.F a = some (.lst vs) ∧ RepL xs vs
  | .dct kvs, v => ∃ a gs, v = .ref a ∧ g.F a = some (.dK gs) ∧ RepE kvs gs
  | .set _, _ => False
  | .ins c ns ts, v => ∃ a dx ws, v = .ref a ∧ g.F a = some (.ins (k.cl c) dx (ns.zip ws)) ∧ ws.length = ns.length ∧ RepL ts ws
  | .obj n, v => v = .ref (g.α n) ∧ n < g.B
def RepL : List T → List V → Prop
  | [], vs => vs = []
  | t :: ts, vs => ∃ w ws, vs = w :: ws ∧ Rep t w ∧ RepL ts ws
/-- a dict's entries -/
def RepE : List T → List (Key × V) → Prop
  | [], gs => gs = []
  | .tup [kt, vt] :: r, gs => ∃ kk w ws, gs = (kk, w) :: ws ∧ RepK kk kt ∧ Rep vt w ∧ RepE r ws
  | _ :: _, _ => False
end
end

/-- one frozen part in another -/
def FSub (F F' : Hp) : Prop := ∀ a o, F a = some o → F' a = some o
theorem FSub.refl (F : Hp) : FSub F F := fun _ _ h => h
theorem FSub.trans {F F' F'' : Hp} (a : FSub F F') (b : FSub F' F'') : FSub F F'' := fun c o h => b c o (a c o h)
theorem SqT.fmono {K : PySem.W.Frag} {F F' : Hp} (h : FSub F F') {a : Addr} {xs : List V} (q : SqT K F a xs) : SqT K F' a xs := by
  rcases q with (q | ⟨o, q⟩) | q
  · exact .inl (.inl (h _ _ q))
  · exact .inl (.inr ⟨o, h _ _ q⟩)
  · exact .inr q
theorem SqL.fmono {K : PySem.W.Frag} {F F' : Hp} (h : FSub F F') {a : Addr} {xs : List V} (q : SqL K F a xs) : SqL K F' a xs := by
  rcases q with (q | ⟨o, q⟩) | q
  · exact .inl (.inl (h _ _ q))
  · exact .inl (.inr ⟨o, h _ _ q⟩)
  · exact .inr q
/-- what grows -/
structure GLe (g g' : Gh) : Prop where
  f : FSub g.F g'.F
  a : ∀ n, n < g.B → g'.α n = g.α n
  b : g.B ≤ g'.B
theorem GLe.refl (g : Gh) : GLe g g := ⟨FSub.refl _, fun _ _ => rfl, Nat.le_refl _⟩
theorem GLe.trans {g g' g'' : Gh} (x : GLe g g') (y : GLe g' g'') : GLe g g'' := ⟨x.f.trans y.f, fun n h => (y.a n (Nat.lt_of_lt_of_le h x.b)).trans (x.a n h), Nat.le_trans x.b y.b⟩
section
variable {k : Gk} {g g' : Gh}
mutual
theorem Rep.mono (h : GLe g g') : ∀ (t : T) (v : V), Rep k g t v → Rep k g' t v
  | .non, _, q => q
  | .bl _, _, q => q
  | .int _, _, q => q
  | .str _, _, q => q
  | .tup xs, v, q => by
    unfold Rep at q ⊢
    obtain ⟨a, vs, e, s, r⟩ := q
    exact ⟨a, vs, e, Mp.SqT.fmono h.f s, RepL.mono h xs vs r⟩
  | .lst xs, v, q => by
    unfold Rep at q ⊢
    obtain ⟨a, vs, e, s, r⟩ := q
    exact ⟨a, vs, e, h.f _ _ s, RepL.mono h xs vs r⟩
  | .dct xs, v, q => by
    unfold Rep at q ⊢
    obtain ⟨a, vs, e, s, r⟩ := q
    exact ⟨a, vs, e, h.f _ _ s, RepE.mono h xs vs r⟩
  | .set _, _, q => by unfold Rep at q; exact q.elim
  | .ins c ns ts, v, q => by
    unfold Rep at q ⊢
    obtain ⟨a, dx, ws, e, s1, l, r⟩ := q
    exact ⟨a, dx, ws, e, h.f _ _ s1, l, RepL.mono h ts ws r⟩
  | .obj n, v, q => by
    unfold Rep at q ⊢
    obtain ⟨e, l⟩ := q
    exact ⟨by rw [h.a n l]; exact e, Nat.lt_of_lt_of_le l h.b⟩
theorem RepL.mono (h : GLe g g') : ∀ (ts : List T) (vs : List V), RepL k g ts vs → RepL k g' ts vs
  | [], _, q => q
  | t :: ts, vs, q => by
    unfold RepL at q ⊢
    obtain ⟨w, ws, e, q1, q2⟩ := q
    exact ⟨w, ws, e, Rep.mono h t w q1, RepL.mono h ts ws q2⟩
theorem RepE.mono (h : GLe g g') : ∀ (ts : List T) (vs : List (Key × V)), RepE k g ts vs → RepE k g' ts vs
  | [], _, q => q
  | .tup [kt, vt] :: r, vs, q => by
    unfold RepE at q ⊢
    obtain ⟨kk, w, ws, e, q1, q2, q3⟩ := q
    exact ⟨kk, w, ws, e, q1, Rep.mono h vt w q2, RepE.mono h r ws q3⟩
  | .tup [] :: _, _, q => by simp [RepE] at q
  | .tup [_] :: _, _, q => by simp [RepE] at q
  | .tup (_ :: _ :: _ :: _) :: _, _, q => by simp [RepE] at q
  | .non :: _, _, q => by simp [RepE] at q
  | .bl _ :: _, _, q => by simp [RepE] at q
  | .int _ :: _, _, q => by simp [RepE] at q
  | .str _ :: _, _, q => by simp [RepE] at q
  | .lst _ :: _, _, q => by simp [RepE] at q
  | .dct _ :: _, _, q => by simp [RepE] at q
  | .set _ :: _, _, q => by simp [RepE] at q
  | .ins _ _ _ :: _, _, q => by simp [RepE] at q
  | .obj _ :: _, _, q => by simp [RepE] at q
end
theorem RepL.nil {vs : List V} : RepL k g [] vs ↔ vs = [] := by unfold RepL; exact Iff.rfl
theorem RepL.cons {t : T} {ts : List T} {vs : List V} : RepL k g (t :: ts) vs ↔ ∃ w ws, vs = w :: ws ∧ Rep k g t w ∧ RepL k g ts ws := by
  constructor
  · intro q; unfold RepL at q; exact q
  · intro q; unfold RepL; exact q
theorem RepL.length : ∀ {ts : List T} {vs : List V}, RepL k g ts vs → ts.length = vs.length
  | [], vs, q => by rw [RepL.nil] at q; subst q; rfl
  | t :: ts, vs, q => by
    rw [RepL.cons] at q
    obtain ⟨w, ws, e, _, r⟩ := q
    rw [e, List.length_cons, List.length_cons, RepL.length r]
theorem RepL.get : ∀ {ts : List T} {vs : List V} {i : Nat} {t : T}, RepL k g ts vs → ts[i]? = some t → ∃ v, vs[i]? = some v ∧ Rep k g t v
  | [], _, i, t, _, e => by simp at e
  | t :: ts, vs, 0, t', q, e => by
    rw [RepL.cons] at q
    obtain ⟨w, ws, rfl, h, _⟩ := q
    simp at e
    subst e
    exact ⟨w, rfl, h⟩
  | t :: ts, vs, i + 1, t', q, e => by
    rw [RepL.cons] at q
    obtain ⟨w, ws, rfl, _, r⟩ := q
    obtain ⟨v, h1, h2⟩ := RepL.get (i := i) r (by simpa using e)
    exact ⟨v, by simpa using h1, h2⟩
theorem RepL.append : ∀ {ts us : List T} {vs ws : List V}, RepL k g ts vs → RepL k g us ws → RepL k g (ts ++ us) (vs ++ ws)
  | [], us, vs, ws, q, r => by rw [RepL.nil] at q; subst q; exact r
  | t :: ts, us, vs, ws, q, r => by
    rw [RepL.cons] at q
    obtain ⟨w, vs', rfl, h, q⟩ := q
    exact RepL.cons.mpr ⟨w, vs' ++ ws, rfl, h, RepL.append q r⟩
theorem RepL.one {t : T} {v : V} (h : Rep k g t v) : RepL k g [t] [v] := RepL.cons.mpr ⟨v, [], rfl, h, RepL.nil.mpr rfl⟩
theorem RepL.take : ∀ {ts : List T} {vs : List V} (n : Nat), RepL k g ts vs → RepL k g (ts.take n) (vs.take n)
  | _, _, 0, _ => by simp [RepL.nil]
  | [], vs, n + 1, q => by rw [RepL.nil] at q; subst q; simp [RepL.nil]
  | t :: ts, vs, n + 1, q => by
    rw [RepL.cons] at q
    obtain ⟨w, vs', rfl, h, q⟩ := q
    exact RepL.cons.mpr ⟨w, vs'.take n, rfl, h, RepL.take n q⟩
theorem RepL.drop : ∀ {ts : List T} {vs : List V} (n : Nat), RepL k g ts vs → RepL k g (ts.drop n) (vs.drop n)
  | _, _, 0, q => by simpa using q
  | [], vs, n + 1, q => by rw [RepL.nil] at q; subst q; simp [RepL.nil]
  | t :: ts, vs, n + 1, q => by
    rw [RepL.cons] at q
    obtain ⟨w, vs', rfl, h, q⟩ := q
    simpa using RepL.drop n q
theorem RepL.set : ∀ {ts : List T} {vs : List V} {t : T} {v : V} (i : Nat), RepL k g ts vs → Rep k g t v → RepL k g (ts.set i t) (vs.set i v)
  | [], vs, _, _, i, q, _ => by rw [RepL.nil] at q; subst q; simp [RepL.nil]
  | t :: ts, vs, _, v, 0, q, h => by
    rw [RepL.cons] at q
    obtain ⟨w, vs', rfl, _, q⟩ := q
    exact RepL.cons.mpr ⟨v, vs', rfl, h, q⟩
  | t :: ts, vs, _, v, i + 1, q, h => by
    rw [RepL.cons] at q
    obtain ⟨w, vs', rfl, h', q⟩ := q
    exact RepL.cons.mpr ⟨w, vs'.set i v, rfl, h', RepL.set i q h⟩
theorem RepL.eraseIdx : ∀ {ts : List T} {vs : List V} (i : Nat), RepL k g ts vs → RepL k g (ts.eraseIdx i) (vs.eraseIdx i)
  | [], vs, i, q => by rw [RepL.nil] at q; subst q; simp [RepL.nil]
  | t :: ts, vs, 0, q => by
    rw [RepL.cons] at q
    obtain ⟨w, vs', rfl, _, q⟩ := q
    exact q
  | t :: ts, vs, i + 1, q => by
    rw [RepL.cons] at q
    obtain ⟨w, vs', rfl, h', q⟩ := q
    exact RepL.cons.mpr ⟨w, vs'.eraseIdx i, rfl, h', RepL.eraseIdx i q⟩
theorem RepL.reverse : ∀ {ts : List T} {vs : List V}, RepL k g ts vs → RepL k g ts.reverse vs.reverse
  | [], vs, q => by rw [RepL.nil] at q; subst q; simp [RepL.nil]
  | t :: ts, vs, q => by
    rw [RepL.cons] at q
    obtain ⟨w, vs', rfl, h', q⟩ := q
    rw [List.reverse_cons, List.reverse_cons]
    exact RepL.append (RepL.reverse q) (RepL.one h')
end

/-! ### the store, the slots -/
/-- a list or dict of one's own at a -/
def Own (k : Gk) (g : Gh) (H : Hp) (a : Addr) : T → Prop
  | .lst xs => ∃ vs, H a = some (.lst vs) ∧ RepL k g xs vs
  | .dct kvs => ∃ gs, H a = some (.dK gs) ∧ RepE k g kvs gs
  | _ => False
/-- a field -/
def FdOk (k : Gk) (g : Gh) (H : Hp) (d : Fd) (w : V) : Prop := match d.own with
  | false => Rep k g d.t w
  | true => ∃ a, w = .ref a ∧ Own k g H a d.t
def FdsOk (k : Gk) (g : Gh) (H : Hp) : List Fd → List V → Prop
  | [], ws => ws = []
  | d :: ds, ws => ∃ w r, ws = w :: r ∧ FdOk k g H d w ∧ FdsOk k g H ds r
/-- an instance at a, its fields as they stand -/
def InsOk (k : Gk) (g : Gh) (H : Hp) (a : Addr) (c : Str) (ns : List Str) (ds : List Fd) : Prop :=
  ∃ dx ws, H a = some (.ins (k.cl c) dx (ns.zip ws)) ∧ ws.length = ns.length ∧ FdsOk k g H ds ws
def CellOk (k : Gk) (g : Gh) (H : Hp) (a : Addr) : Cell → Prop
  | .no => True
  | .lst xs => ∃ vs, H a = some (.lst vs) ∧ RepL k g xs vs
  | .scr xs => ∃ vs, SqL k.K g.F a vs ∧ RepL k g xs vs
  | .ins c ns ds => InsOk k g H a c ns ds
/-- what is one's own in the store -/
def Cell.held : Cell → Prop
  | .lst _ => True
  | .ins _ _ _ => True
  | _ => False
/-- who holds an address that may change -/
inductive Tk where
  | slot (i : Nat) | cell (n : Nat) | fld (n : Nat) (j : Nat) | sfld (i : Nat) (j : Nat)
/-- the own fields of the instance at a -/
def OwnFd (H : Hp) (a : Addr) (ds : List Fd) (j : Nat) (b : Addr) : Prop := ∃ d C dx fs p, ds[j]? = some d ∧ d.own = true ∧ H a = some (.ins C dx fs) ∧ fs[j]? = some p ∧ p.2 = V.ref b
def Held (g : Gh) (env : En) (st : Store) (σ : L2.St) (H : Hp) : Tk → Addr → Prop
  | .slot i, a => (∃ t, env[i]? = some (.own t) ∧ σ[i]? = some (some (.ref a))) ∨ ∃ c ns ds, env[i]? = some (.slf c ns ds) ∧ σ[i]? = some (some (.ref a))
  | .cell n, a => ∃ c, st[n]? = some c ∧ c.held ∧ g.α n = a
  | .fld n j, b => ∃ c ns ds, st[n]? = some (.ins c ns ds) ∧ OwnFd H (g.α n) ds j b
  | .sfld i j, b => ∃ c ns ds a, env[i]? = some (.slf c ns ds) ∧ σ[i]? = some (some (.ref a)) ∧ OwnFd H a ds j b
def Trk (g : Gh) (env : En) (st : Store) (σ : L2.St) (H : Hp) (a : Addr) : Prop := g.F a ≠ none ∨ ∃ q, Held g env st σ H q a
structure SR (k : Gk) (g : Gh) (env : En) (st : Store) (σ : L2.St) (H : Hp) : Prop where
  sub : FSub g.F H
  sz : g.B = st.length
  len : env.length = σ.length
  fr : ∀ (i : Nat) (t : T), env[i]? = some (Slot.fr t) → ∃ v, σ[i]? = some (some v) ∧ Rep k g t v
  own : ∀ (i : Nat) (t : T), env[i]? = some (Slot.own t) → ∃ a, σ[i]? = some (some (V.ref a)) ∧ Own k g H a t
  slf : ∀ (i : Nat) (c : Str) (ns : List Str) (ds : List Fd), env[i]? = some (Slot.slf c ns ds) → ∃ a, σ[i]? = some (some (V.ref a)) ∧ InsOk k g H a c ns ds
  cell : ∀ (n : Nat) (c : Cell), st[n]? = some c → CellOk k g H (g.α n) c
  uniq : ∀ q q' a, Held g env st σ H q a → Held g env st σ H q' a → q = q'
  nof : ∀ q a, Held g env st σ H q a → g.F a = none
/-- what a piece of code leaves as it was -/
structure Ext (g : Gh) (env : En) (st : Store) (σ : L2.St) (H : Hp) (g' : Gh) (env' : En) (st' : Store) (σ' : L2.St) (H' : Hp) : Prop where
  le : GLe g g'
  keep : ∀ a o, H a = some o → ¬ Trk g env st σ H a → H' a = some o ∧ ¬ Trk g' env' st' σ' H' a
  there : ∀ a, H a ≠ none → H' a ≠ none
theorem Ext.refl {g : Gh} {env : En} {st : Store} {σ : L2.St} {H : Hp} : Ext g env st σ H g env st σ H := ⟨GLe.refl _, fun _ _ h n => ⟨h, n⟩, fun _ h => h⟩
theorem Ext.trans {g g1 g2 : Gh} {env e1 e2 : En} {st s1 s2 : Store} {σ σ1 σ2 : L2.St} {H H1 H2 : Hp} (x : Ext g env st σ H g1 e1 s1 σ1 H1) (y : Ext g1 e1 s1 σ1 H1 g2 e2 s2 σ2 H2) : Ext g env st σ H g2 e2 s2 σ2 H2 :=
  ⟨x.le.trans y.le, fun a o h n => let ⟨h1, n1⟩ := x.keep a o h n; y.keep a o h1 n1, fun a h => y.there a (x.there a h)⟩
end Mp


set_option Elab.async false
set_option linter.all false
set_option maxRecDepth 100000
/-! Grow: new objects; what stays of the state's relation. -/
namespace Mp
open PySem PySem.Spec PyProof.Rows L2
section
variable {k : Gk} {g g' : Gh} {env : En} {st : Store} {σ : L2.St} {H H' : Hp} {a : Addr}
theorem FdsOk.get : ∀ {ds : List Fd} {ws : List V} {j : Nat} {d : Fd}, FdsOk k g H ds ws → ds[j]? = some d → ∃ w, ws[j]? = some w ∧ FdOk k g H d w
  | [], _, j, d, _, e => by simp at e
  | d :: ds, ws, 0, d', q, e => by
    obtain ⟨w, r, rfl, h, _⟩ := q
    simp at e
    subst e
    exact ⟨w, rfl, h⟩
  | d :: ds, ws, j + 1, d', q, e => by
    obtain ⟨w, r, rfl, _, q⟩ := q
    obtain ⟨v, h1, h2⟩ := FdsOk.get (j := j) q (by simpa using e)
    exact ⟨v, by simpa using h1, h2⟩
theorem FdsOk.len : ∀ {ds : List Fd} {ws : List V}, FdsOk k g H ds ws → ds.length = ws.length
  | [], _, q => by cases q; rfl
  | d :: ds, ws, q => by
    obtain ⟨w, r, rfl, _, q⟩ := q
    simp [FdsOk.len q]
theorem Own.mono (h : GLe g g') (hH : H' a = H a) : ∀ t, Own k g H a t → Own k g' H' a t
  | .lst xs, ⟨vs, e, r⟩ => ⟨vs, by rw [hH]; exact e, RepL.mono h _ _ r⟩
  | .dct kvs, ⟨gs, e, r⟩ => ⟨gs, by rw [hH]; exact e, RepE.mono h _ _ r⟩
  | .non, q => q.elim
  | .bl _, q => q.elim
  | .int _, q => q.elim
  | .str _, q => q.elim
  | .tup _, q => q.elim
  | .set _, q => q.elim
  | .ins _ _ _, q => q.elim
  | .obj _, q => q.elim
theorem Own.there {t : T} (q : Own k g H a t) : ∃ o, H a = some o := by
  cases t with
  | lst xs => obtain ⟨vs, e, _⟩ := q; exact ⟨_, e⟩
  | dct xs => obtain ⟨vs, e, _⟩ := q; exact ⟨_, e⟩
  | _ => exact q.elim
theorem FdOk.mono (h : GLe g g') {d : Fd} {w : V} (hH : ∀ (b : Addr), d.own = true → w = V.ref b → H' b = H b) (q : FdOk k g H d w) : FdOk k g' H' d w := by
  obtain ⟨b, t⟩ := d
  cases b with
  | false => exact Rep.mono h _ _ q
  | true =>
    obtain ⟨a, e, o⟩ := q
    exact ⟨a, e, Own.mono h (hH a rfl e) _ o⟩
theorem FdsOk.mono (h : GLe g g') : ∀ {ds : List Fd} {ws : List V}, (∀ (j : Nat) (d : Fd) (b : Addr), ds[j]? = some d → d.own = true → ws[j]? = some (V.ref b) → H' b = H b) → FdsOk k g H ds ws → FdsOk k g' H' ds ws
  | [], _, _, q => q
  | d :: ds, ws, hH, q => by
    obtain ⟨w, r, rfl, h1, q⟩ := q
    exact ⟨w, r, rfl, FdOk.mono h (fun b e1 e2 => hH 0 d b rfl e1 (by simp [e2])) h1, FdsOk.mono h (fun j d' b e1 e2 e3 => hH (j + 1) d' b (by simpa using e1) e2 (by simpa using e3)) q⟩
theorem zip_get : ∀ {ns : List Str} {ws : List V} {j : Nat} {w : V}, ws.length = ns.length → ws[j]? = some w → ∃ n, (ns.zip ws)[j]? = some (n, w)
  | [], ws, j, w, l, e => by
    have : ws = [] := by simpa using l
    subst this
    simp at e
  | n :: ns, [], j, w, l, e => by simp at e
  | n :: ns, v :: ws, 0, w, l, e => by simp at e; subst e; exact ⟨n, rfl⟩
  | n :: ns, v :: ws, j + 1, w, l, e => by
    obtain ⟨m, h⟩ := zip_get (ns := ns) (ws := ws) (j := j) (w := w) (by simpa using l) (by simpa using e)
    exact ⟨m, by simpa using h⟩
theorem zip_get' : ∀ {ns : List Str} {ws : List V} {j : Nat} {p : Str × V}, (ns.zip ws)[j]? = some p → ws[j]? = some p.2
  | [], ws, j, w, e => by simp at e
  | n :: ns, [], j, w, e => by simp at e
  | n :: ns, v :: ws, 0, p, e => by simp at e; subst e; rfl
  | n :: ns, v :: ws, j + 1, p, e => by
    have := zip_get' (ns := ns) (ws := ws) (j := j) (p := p) (by simpa using e)
    simpa using this
/-- an own field's address -/
theorem InsOk.ownFd {c : Str} {ns : List Str} {ds : List Fd} {j : Nat} {b : Addr} (q : InsOk k g H a c ns ds) (o : OwnFd H a ds j b) : ∃ t, ds[j]? = some ⟨true, t⟩ ∧ Own k g H b t := by
  obtain ⟨dx, ws, e, l, f⟩ := q
  obtain ⟨d, C, dx', fs, p, h1, h2, h3, h4, h5⟩ := o
  rw [e] at h3
  cases h3
  obtain ⟨w, h6, h7⟩ := f.get h1
  have h8 := zip_get' h4
  rw [h6] at h8
  cases h8
  obtain ⟨ow, t⟩ := d
  cases h2
  obtain ⟨b', e1, o1⟩ := h7
  rw [h5] at e1
  cases e1
  exact ⟨t, h1, o1⟩
theorem InsOk.mono (h : GLe g g') {c : Str} {ns : List Str} {ds : List Fd} (ha : H' a = H a) (hH : ∀ j b, OwnFd H a ds j b → H' b = H b) (q : InsOk k g H a c ns ds) : InsOk k g' H' a c ns ds := by
  obtain ⟨dx, ws, e, l, f⟩ := q
  refine ⟨dx, ws, by rw [ha]; exact e, l, f.mono h fun j d b h1 h2 h3 => ?_⟩
  obtain ⟨n, h4⟩ := zip_get l h3
  exact hH j b ⟨d, _, dx, _, _, h1, h2, e, h4, rfl⟩
theorem Held.there (S : SR k g env st σ H) {q : Tk} (h : Held g env st σ H q a) : ∃ o, H a = some o := by
  cases q with
  | slot i =>
    rcases h with ⟨t, h1, h2⟩ | ⟨c, ns, ds, h1, h2⟩
    · obtain ⟨b, e, o⟩ := S.own i t h1
      rw [h2] at e
      cases e
      exact o.there
    · obtain ⟨b, e, o⟩ := S.slf i c ns ds h1
      rw [h2] at e
      cases e
      obtain ⟨dx, ws, e, _⟩ := o
      exact ⟨_, e⟩
  | cell n =>
    obtain ⟨c, h1, h2, rfl⟩ := h
    have := S.cell n c h1
    cases c with
    | no => exact h2.elim
    | lst xs => obtain ⟨vs, e, _⟩ := this; exact ⟨_, e⟩
    | scr xs => exact h2.elim
    | ins c ns ds => obtain ⟨dx, ws, e, _⟩ := this; exact ⟨_, e⟩
  | fld n j =>
    obtain ⟨c, ns, ds, h1, h2⟩ := h
    obtain ⟨t, _, o⟩ := InsOk.ownFd (S.cell n _ h1) h2
    exact o.there
  | sfld i j =>
    obtain ⟨c, ns, ds, b, h1, h2, h3⟩ := h
    obtain ⟨b', e, o⟩ := S.slf i c ns ds h1
    rw [h2] at e
    cases e
    obtain ⟨t, _, o⟩ := o.ownFd h3
    exact o.there
/-- what is held stands where it stood -/
theorem Held.back (S : SR k g env st σ H) (hα : ∀ n, n < st.length → g'.α n = g.α n) (hi : ∀ b C dx fs, H b = some (.ins C dx fs) → H' b = some (.ins C dx fs)) {q : Tk} (h : Held g' env st σ H' q a) : Held g env st σ H q a := by
  have lt : ∀ {n : Nat} {c : Cell}, st[n]? = some c → n < st.length := fun e => (List.getElem?_eq_some_iff.mp e).1
  cases q with
  | slot i => exact h
  | cell n =>
    obtain ⟨c, h1, h2, h3⟩ := h
    exact ⟨c, h1, h2, by rw [← hα n (lt h1)]; exact h3⟩
  | fld n j =>
    obtain ⟨c, ns, ds, h1, d, C, dx, fs, p, h2, h3, h4, h5, h6⟩ := h
    rw [hα n (lt h1)] at h4
    obtain ⟨dx', ws, e, _⟩ := S.cell n _ h1
    have := hi _ _ _ _ e
    rw [h4] at this
    cases this
    exact ⟨c, ns, ds, h1, d, _, _, _, p, h2, h3, e, h5, h6⟩
  | sfld i j =>
    obtain ⟨c, ns, ds, b, h1, h2, d, C, dx, fs, p, h3, h4, h5, h6, h7⟩ := h
    obtain ⟨b', e', dx', ws, e, _⟩ := S.slf i c ns ds h1
    rw [h2] at e'
    cases e'
    have := hi _ _ _ _ e
    rw [h5] at this
    cases this
    exact ⟨c, ns, ds, b, h1, h2, d, _, _, _, p, h3, h4, e, h6, h7⟩
/-- only new objects, frozen ones -/
structure Grow (g : Gh) (H : Hp) (g' : Gh) (H' : Hp) : Prop where
  α : g'.α = g.α
  B : g'.B = g.B
  f : FSub g.F g'.F
  h : ∀ a o, H a = some o → H' a = some o
  new : ∀ a, H a ≠ none → g'.F a = g.F a
  sub : ∀ a o, g'.F a = some o → H' a = some o
theorem Grow.le (x : Grow g H g' H') : GLe g g' := ⟨x.f, fun n _ => by rw [x.α], Nat.le_of_eq x.B.symm⟩
theorem Grow.refl (S : SR k g env st σ H) : Grow g H g H := ⟨rfl, rfl, FSub.refl _, fun _ _ h => h, fun _ _ => rfl, S.sub⟩
theorem Grow.trans {g1 : Gh} {H1 : Hp} (x : Grow g H g1 H1) (y : Grow g1 H1 g' H') : Grow g H g' H' :=
  ⟨y.α.trans x.α, y.B.trans x.B, x.f.trans y.f, fun a o h => y.h a o (x.h a o h), fun a h => (y.new a (by
    cases e : H a with
    | none => exact absurd e h
    | some o => rw [x.h a o e]; exact fun z => by cases z)).trans (x.new a h), y.sub⟩
theorem SR.grow (S : SR k g env st σ H) (x : Grow g H g' H') : SR k g' env st σ H' := by
  have back : ∀ {q : Tk} {b : Addr}, Held g' env st σ H' q b → Held g env st σ H q b := fun {q b} h => Held.back S (fun n _ => by rw [x.α]) (fun b C dx fs e => x.h _ _ e) h
  have same : ∀ {q : Tk} {b : Addr}, Held g env st σ H q b → H' b = H b := fun {q b} h => by
    obtain ⟨o, e⟩ := h.there S
    rw [e, x.h _ _ e]
  refine ⟨x.sub, by rw [x.B]; exact S.sz, S.len, fun i t e => ?_, fun i t e => ?_, fun i c ns ds e => ?_, fun n c e => ?_, fun q q' b h1 h2 => S.uniq q q' b (back h1) (back h2), fun q b h => ?_⟩
  · obtain ⟨v, e1, r⟩ := S.fr i t e
    exact ⟨v, e1, Rep.mono x.le _ _ r⟩
  · obtain ⟨b, e1, o⟩ := S.own i t e
    exact ⟨b, e1, Own.mono x.le (same (q := .slot i) (.inl ⟨t, e, e1⟩)) _ o⟩
  · obtain ⟨b, e1, o⟩ := S.slf i c ns ds e
    exact ⟨b, e1, o.mono x.le (same (q := .slot i) (.inr ⟨c, ns, ds, e, e1⟩)) fun j b' h => same (q := .sfld i j) ⟨c, ns, ds, b, e, e1, h⟩⟩
  · have := S.cell n c e
    rw [x.α]
    cases c with
    | no => trivial
    | lst xs =>
      obtain ⟨vs, e1, r⟩ := this
      exact ⟨vs, x.h _ _ e1, RepL.mono x.le _ _ r⟩
    | scr xs =>
      obtain ⟨vs, e1, r⟩ := this
      exact ⟨vs, Mp.SqL.fmono x.f e1, RepL.mono x.le _ _ r⟩
    | ins c ns ds =>
      exact InsOk.mono x.le (same (q := .cell n) ⟨_, e, trivial, rfl⟩) (fun j b' h => same (q := .fld n j) ⟨c, ns, ds, e, h⟩) this
  · have h' := back h
    obtain ⟨o, e⟩ := h'.there S
    rw [x.new b (by rw [e]; exact fun z => by cases z)]
    exact S.nof q b h'
theorem Ext.grow (S : SR k g env st σ H) (x : Grow g H g' H') : Ext g env st σ H g' env st σ H' := by
  refine ⟨x.le, fun a o h n => ⟨x.h a o h, fun z => n ?_⟩, fun a h => ?_⟩
  rotate_left
  · cases e : H a with
    | none => exact absurd e h
    | some o => rw [x.h a o e]; exact fun z => by cases z
  rcases z with z | ⟨q, z⟩
  · refine .inl ?_
    rw [← x.new a (by rw [h]; exact fun z => by cases z)]
    exact z
  · exact .inr ⟨q, Held.back S (fun n _ => by rw [x.α]) (fun b C dx fs e => x.h _ _ e) z⟩
/-- one new object -/
def Gh.put (g : Gh) (p : Addr) (o : HO) : Gh := { g with F := upd g.F p o }
theorem Grow.one (S : SR k g env st σ H) {p : Addr} {o : HO} (hp : H p = none) : Grow g H (g.put p o) (upd H p o) := by
  have nf : g.F p = none := by
    cases e : g.F p with
    | none => rfl
    | some u => have := S.sub _ _ e; rw [hp] at this; cases this
  have ne : ∀ b, H b ≠ none → b ≠ p := fun b h z => h (by rw [z]; exact hp)
  refine ⟨rfl, rfl, fun a u h => ?_, fun a u h => ?_, fun a h => ?_, fun a u h => ?_⟩
  · show upd g.F p o a = some u
    rw [upd_ne (fun z => by rw [z, nf] at h; cases h)]
    exact h
  · rw [upd_ne (ne a (by rw [h]; exact fun z => by cases z))]
    exact h
  · show upd g.F p o a = g.F a
    rw [upd_ne (ne a h)]
  · by_cases e : a = p
    · subst e
      have h' : upd g.F a o a = some u := h
      rw [upd_same] at h' ⊢
      exact h'
    · have h' : upd g.F p o a = some u := h
      rw [upd_ne e] at h' ⊢
      exact S.sub _ _ h'
/-- a new object that is left alone -/
theorem Grow.skip (S : SR k g env st σ H) {p : Addr} {o : HO} (hp : H p = none) : Grow g H g (upd H p o) := by
  have ne : ∀ b, H b ≠ none → b ≠ p := fun b h z => h (by rw [z]; exact hp)
  refine ⟨rfl, rfl, FSub.refl _, fun a u h => ?_, fun a h => rfl, fun a u h => ?_⟩
  · rw [upd_ne (ne a (by rw [h]; exact fun z => by cases z))]
    exact h
  · have h' := S.sub _ _ h
    rw [upd_ne (ne a (by rw [h']; exact fun z => by cases z))]
    exact h'

/-! ### moves of the state -/
theorem Trk.of_held {q : Tk} (h : Held g env st σ H q a) : Trk g env st σ H a := .inr ⟨q, h⟩
/-- an untracked object is frozen -/
theorem SR.freeze (S : SR k g env st σ H) {o : HO} (h : H a = some o) (n : ¬ Trk g env st σ H a) : SR k (g.put a o) env st σ H ∧ GLe g (g.put a o) := by
  have nf : g.F a = none := by
    cases e : g.F a with
    | none => rfl
    | some u => exact absurd (.inl (by rw [e]; exact fun z => by cases z)) n
  have fs : FSub g.F (g.put a o).F := fun b u e => by
    show upd g.F a o b = some u
    rw [upd_ne (fun z => by rw [z, nf] at e; cases e)]
    exact e
  have le : GLe g (g.put a o) := ⟨fs, fun _ _ => rfl, Nat.le_refl _⟩
  have back : ∀ {q : Tk} {b : Addr}, Held (g.put a o) env st σ H q b → Held g env st σ H q b := fun h => h
  refine ⟨⟨fun b u e => ?_, S.sz, S.len, fun i t e => ?_, fun i t e => ?_, fun i c ns ds e => ?_, fun m c e => ?_, fun q q' b h1 h2 => S.uniq q q' b h1 h2, fun q b hq => ?_⟩, le⟩
  · by_cases e' : b = a
    · subst e'
      have e2 : upd g.F b o b = some u := e
      rw [upd_same] at e2
      rw [h]; exact e2
    · have e2 : upd g.F a o b = some u := e
      rw [upd_ne e'] at e2
      exact S.sub _ _ e2
  · obtain ⟨v, e1, r⟩ := S.fr i t e
    exact ⟨v, e1, Rep.mono le _ _ r⟩
  · obtain ⟨b, e1, r⟩ := S.own i t e
    exact ⟨b, e1, Own.mono le rfl _ r⟩
  · obtain ⟨b, e1, r⟩ := S.slf i c ns ds e
    exact ⟨b, e1, r.mono le rfl fun _ _ _ => rfl⟩
  · have := S.cell m c e
    cases c with
    | no => trivial
    | lst xs => obtain ⟨vs, e1, r⟩ := this; exact ⟨vs, e1, RepL.mono le _ _ r⟩
    | scr xs => obtain ⟨vs, e1, r⟩ := this; exact ⟨vs, Mp.SqL.fmono le.f e1, RepL.mono le _ _ r⟩
    | ins c ns ds => exact InsOk.mono le rfl (fun _ _ _ => rfl) this
  · have hb : b ≠ a := fun z => n (.inr ⟨q, by rw [← z]; exact hq⟩)
    show upd g.F a o b = none
    rw [upd_ne hb]
    exact S.nof q b hq
/-- .. since H0 -/
theorem Ext.freeze {g0 : Gh} {env0 : En} {st0 : Store} {σ0 : L2.St} {H0 : Hp} (x : Ext g0 env0 st0 σ0 H0 g env st σ H) {o : HO} (h0 : H0 a ≠ none → Trk g0 env0 st0 σ0 H0 a) (nf : g.F a = none) : Ext g0 env0 st0 σ0 H0 (g.put a o) env st σ H := by
  refine ⟨x.le.trans ⟨fun b u e => ?_, fun _ _ => rfl, Nat.le_refl _⟩, fun b u e n => ?_, x.there⟩
  · show upd g.F a o b = some u
    rw [upd_ne (fun z => by rw [z, nf] at e; cases e)]
    exact e
  · obtain ⟨h1, n1⟩ := x.keep b u e n
    refine ⟨h1, fun z => n1 ?_⟩
    rcases z with z | z
    · refine .inl ?_
      have z' : upd g.F a o b ≠ none := z
      rw [upd_ne (fun z => n (by rw [z]; exact h0 (by rw [← z, e]; exact fun z => by cases z)))] at z'
      exact z'
    · exact .inr z
/-- a new object that is nobody's yet -/
theorem SR.skip (S : SR k g env st σ H) {p : Addr} {o : HO} (hp : H p = none) : SR k g env st σ (upd H p o) ∧ Ext g env st σ H g env st σ (upd H p o) ∧ ¬ Trk g env st σ (upd H p o) p := by
  have x := Grow.skip (o := o) S hp
  have S' := S.grow x
  refine ⟨S', Ext.grow S x, fun z => ?_⟩
  rcases z with z | ⟨q, z⟩
  · cases e : g.F p with
    | none => exact z e
    | some u => have := S.sub _ _ e; rw [hp] at this; cases this
  · have := Held.back (g := g) (g' := g) S (fun _ _ => rfl) (fun b C dx fs e => x.h _ _ e) z
    obtain ⟨o', e⟩ := this.there S
    rw [hp] at e; cases e
section
variable {σ' : L2.St} {env' : En}
/-- fewer things are held -/
theorem SR.fewer (S : SR k g env st σ H) (hl : env'.length = σ'.length) (hfr : ∀ (i : Nat) (t : T), env'[i]? = some (Slot.fr t) → ∃ v, σ'[i]? = some (some v) ∧ Rep k g t v)
    (hown : ∀ (i : Nat) (t : T), env'[i]? = some (Slot.own t) → env[i]? = some (Slot.own t) ∧ σ'[i]? = σ[i]?) (hslf : ∀ (i : Nat) (c : Str) (ns : List Str) (ds : List Fd), env'[i]? = some (Slot.slf c ns ds) → env[i]? = some (Slot.slf c ns ds) ∧ σ'[i]? = σ[i]?) :
    SR k g env' st σ' H ∧ Ext g env st σ H g env' st σ' H := by
  have back : ∀ {q : Tk} {b : Addr}, Held g env' st σ' H q b → Held g env st σ H q b := fun {q b} h => by
    cases q with
    | slot i =>
      rcases h with ⟨t, h1, h2⟩ | ⟨c, ns, ds, h1, h2⟩
      · obtain ⟨e1, e2⟩ := hown i t h1
        exact .inl ⟨t, e1, by rw [← e2]; exact h2⟩
      · obtain ⟨e1, e2⟩ := hslf i c ns ds h1
        exact .inr ⟨c, ns, ds, e1, by rw [← e2]; exact h2⟩
    | cell n => exact h
    | fld n j => exact h
    | sfld i j =>
      obtain ⟨c, ns, ds, b', h1, h2, h3⟩ := h
      obtain ⟨e1, e2⟩ := hslf i c ns ds h1
      exact ⟨c, ns, ds, b', e1, by rw [← e2]; exact h2, h3⟩
  refine ⟨⟨S.sub, S.sz, hl, hfr, fun i t e => ?_, fun i c ns ds e => ?_, S.cell, fun q q' b h1 h2 => S.uniq q q' b (back h1) (back h2), fun q b h => S.nof q b (back h)⟩, GLe.refl _, fun b o h n => ⟨h, fun z => n ?_⟩, fun _ h => h⟩
  · obtain ⟨e1, e2⟩ := hown i t e
    rw [e2]
    exact S.own i t e1
  · obtain ⟨e1, e2⟩ := hslf i c ns ds e
    rw [e2]
    exact S.slf i c ns ds e1
  · rcases z with z | ⟨q, z⟩
    · exact .inl z
    · exact .inr ⟨q, back z⟩
end
/-- a slot set to a value -/
theorem SR.setFr (S : SR k g env st σ H) (i : Nat) {t : T} {v : V} (r : Rep k g t v) : SR k g (env.set i (.fr t)) st (σ.set i (some v)) H ∧ Ext g env st σ H g (env.set i (.fr t)) st (σ.set i (some v)) H := by
  refine S.fewer (by simp [S.len]) (fun j u e => ?_) (fun j u e => ?_) (fun j c ns ds e => ?_)
  · by_cases h : i = j
    · subst h
      rw [List.getElem?_set_self'] at e ⊢
      cases e1 : env[i]? with
      | none => rw [e1] at e; simp at e
      | some w =>
        rw [e1] at e
        have hi : i < σ.length := by rw [← S.len]; exact (List.getElem?_eq_some_iff.mp e1).1
        simp at e
        subst e
        refine ⟨v, ?_, r⟩
        rw [List.getElem?_eq_getElem hi]
        simp
    · rw [List.getElem?_set_ne h] at e ⊢
      exact S.fr j u e
  · by_cases h : i = j
    · subst h
      rw [List.getElem?_set_self'] at e
      cases e1 : env[i]? with
      | none => rw [e1] at e; simp at e
      | some w => rw [e1] at e; simp at e
    · rw [List.getElem?_set_ne h] at e ⊢
      exact ⟨e, rfl⟩
  · by_cases h : i = j
    · subst h
      rw [List.getElem?_set_self'] at e
      cases e1 : env[i]? with
      | none => rw [e1] at e; simp at e
      | some w => rw [e1] at e; simp at e
    · rw [List.getElem?_set_ne h] at e ⊢
      exact ⟨e, rfl⟩
/-- a slot forgotten -/
theorem SR.setNo (S : SR k g env st σ H) (i : Nat) : SR k g (env.set i .no) st (σ.set i none) H ∧ Ext g env st σ H g (env.set i .no) st (σ.set i none) H := by
  refine S.fewer (by simp [S.len]) (fun j u e => ?_) (fun j u e => ?_) (fun j c ns ds e => ?_)
  all_goals
    by_cases h : i = j
    · subst h
      rw [List.getElem?_set_self'] at e
      cases e1 : env[i]? with
      | none => rw [e1] at e; simp at e
      | some w => rw [e1] at e; simp at e
    · rw [List.getElem?_set_ne h] at e ⊢
      first | exact S.fr j u e | exact ⟨e, rfl⟩
theorem SR.wipe (S : SR k g env st σ H) : ∀ vs : List Nat, SR k g (wipeE vs env) st (L2.wipe σ vs) H ∧ Ext g env st σ H g (wipeE vs env) st (L2.wipe σ vs) H
  | [] => ⟨S, Ext.refl⟩
  | v :: vs => by
    obtain ⟨S1, x1⟩ := S.wipe vs
    obtain ⟨S2, x2⟩ := S1.setNo v
    exact ⟨S2, x1.trans x2⟩
theorem SR.nof' (S : SR k g env st σ H) (n : ¬ Trk g env st σ H a) : g.F a = none := by
  cases e : g.F a with
  | none => rfl
  | some u => exact absurd (.inl (by rw [e]; exact fun z => by cases z)) n
/-- an own list or dict becomes a value -/
theorem SR.frzOwn (S : SR k g env st σ H) {i : Nat} {t : T} (e : env[i]? = some (.own t)) : ∃ g', SR k g' (env.set i (.fr t)) st σ H ∧ Ext g env st σ H g' (env.set i (.fr t)) st σ H := by
  obtain ⟨a, e1, o⟩ := S.own i t e
  have hi : i < env.length := (List.getElem?_eq_some_iff.mp e).1
  have set : ∀ (s : Slot) (j : Nat), (env.set i s)[j]? = if i = j then some s else env[j]? := fun s j => by
    by_cases h : i = j
    · subst h; rw [List.getElem?_set_self hi, if_pos rfl]
    · rw [List.getElem?_set_ne h, if_neg h]
  obtain ⟨S1, x1⟩ := S.fewer (env' := env.set i .no) (σ' := σ) (by simp [S.len]) (fun j u h => by
      rw [set] at h; split at h
      · cases h
      · exact S.fr j u h) (fun j u h => by
      rw [set] at h; split at h
      · cases h
      · exact ⟨h, rfl⟩) (fun j c ns ds h => by
      rw [set] at h; split at h
      · cases h
      · exact ⟨h, rfl⟩)
  have held : Held g env st σ H (.slot i) a := .inl ⟨t, e, e1⟩
  have nt : ¬ Trk g (env.set i .no) st σ H a := fun z => by
    rcases z with z | ⟨q, z⟩
    · exact z (S.nof _ _ held)
    · have : Held g env st σ H q a ∧ q ≠ .slot i := by
        cases q with
        | slot j =>
          rcases z with ⟨u, h1, h2⟩ | ⟨c, ns, ds, h1, h2⟩
          · rw [set] at h1; split at h1
            · cases h1
            · rename_i h; exact ⟨.inl ⟨u, h1, h2⟩, fun z => h (by cases z; rfl)⟩
          · rw [set] at h1; split at h1
            · cases h1
            · rename_i h; exact ⟨.inr ⟨c, ns, ds, h1, h2⟩, fun z => h (by cases z; rfl)⟩
        | cell n => exact ⟨z, fun z => by cases z⟩
        | fld n j => exact ⟨z, fun z => by cases z⟩
        | sfld j l =>
          obtain ⟨c, ns, ds, b, h1, h2, h3⟩ := z
          rw [set] at h1; split at h1
          · cases h1
          · exact ⟨⟨c, ns, ds, b, h1, h2, h3⟩, fun z => by cases z⟩
      exact this.2 (S.uniq _ _ _ this.1 held)
  obtain ⟨u, hu⟩ := o.there
  obtain ⟨S2, le⟩ := S1.freeze hu nt
  have x2 := x1.freeze (o := u) (fun _ => .of_held held) (S1.nof' nt)
  have r : Rep k (g.put a u) t (.ref a) := by
    cases t with
    | lst xs =>
      obtain ⟨vs, h, r⟩ := o
      rw [hu] at h; cases h
      unfold Rep
      exact ⟨a, vs, rfl, upd_same, RepL.mono le _ _ r⟩
    | dct xs =>
      obtain ⟨vs, h, r⟩ := o
      rw [hu] at h; cases h
      unfold Rep
      exact ⟨a, vs, rfl, upd_same, RepE.mono le _ _ r⟩
    | _ => exact o.elim
  obtain ⟨S3, x3⟩ := S2.setFr i r
  have e2 : (env.set i Slot.no).set i (.fr t) = env.set i (.fr t) := by simp
  have e3 : σ.set i (some (.ref a)) = σ := by
    apply List.ext_getElem?
    intro j
    by_cases h : i = j
    · subst h
      rw [List.getElem?_set_self (by rw [← S.len]; exact hi), e1]
    · rw [List.getElem?_set_ne h]
  rw [e2, e3] at S3 x3
  exact ⟨_, S3, x2.trans x3⟩
end
end Mp


set_option Elab.async false
set_option linter.all false
set_option maxRecDepth 100000
/-! Move: how the state's relation goes along with stores. -/
namespace Mp
open PySem PySem.Spec PyProof.Rows L2
section
variable {k : Gk} {g g' g0 : Gh} {env env0 : En} {st st0 : Store} {σ σ0 : L2.St} {H H' H0 : Hp} {a : Addr}
theorem set_get {α : Type} {l : List α} {i : Nat} (hi : i < l.length) (s : α) (j : Nat) : (l.set i s)[j]? = if i = j then some s else l[j]? := by
  by_cases h : i = j
  · subst h; rw [List.getElem?_set_self hi, if_pos rfl]
  · rw [List.getElem?_set_ne h, if_neg h]
theorem set_same {α : Type} {l : List α} {i : Nat} {s : α} (h : l[i]? = some s) : l.set i s = l := by
  apply List.ext_getElem?
  intro j
  by_cases e : i = j
  · subst e
    rw [List.getElem?_set_self (List.getElem?_eq_some_iff.mp h).1, h]
  · rw [List.getElem?_set_ne e]
/-- an own slot forgotten: its list is nobody's -/
theorem SR.dropOwn (S : SR k g env st σ H) {i : Nat} {t : T} {v : V} (e : env[i]? = some (.own t)) (ea : σ[i]? = some (some (.ref a))) :
    SR k g (env.set i .no) st σ H ∧ Ext g env st σ H g (env.set i .no) st σ H ∧ ¬ Trk g (env.set i .no) st σ H a ∧ Trk g env st σ H a := by
  have hi : i < env.length := (List.getElem?_eq_some_iff.mp e).1
  obtain ⟨S1, x1⟩ := S.fewer (env' := env.set i .no) (σ' := σ) (by simp [S.len]) (fun j u h => by
      rw [set_get hi] at h; split at h
      · cases h
      · exact S.fr j u h) (fun j u h => by
      rw [set_get hi] at h; split at h
      · cases h
      · exact ⟨h, rfl⟩) (fun j c ns ds h => by
      rw [set_get hi] at h; split at h
      · cases h
      · exact ⟨h, rfl⟩)
  have held : Held g env st σ H (.slot i) a := .inl ⟨t, e, ea⟩
  refine ⟨S1, x1, fun z => ?_, .of_held held⟩
  rcases z with z | ⟨q, z⟩
  · exact z (S.nof _ _ held)
  · have : Held g env st σ H q a ∧ q ≠ .slot i := by
      cases q with
      | slot j =>
        rcases z with ⟨u, h1, h2⟩ | ⟨c, ns, ds, h1, h2⟩
        · rw [set_get hi] at h1; split at h1
          · cases h1
          · rename_i h; exact ⟨.inl ⟨u, h1, h2⟩, fun z => h (by cases z; rfl)⟩
        · rw [set_get hi] at h1; split at h1
          · cases h1
          · rename_i h; exact ⟨.inr ⟨c, ns, ds, h1, h2⟩, fun z => h (by cases z; rfl)⟩
      | cell n => exact ⟨z, fun z => by cases z⟩
      | fld n j => exact ⟨z, fun z => by cases z⟩
      | sfld j l =>
        obtain ⟨c, ns, ds, b, h1, h2, h3⟩ := z
        rw [set_get hi] at h1; split at h1
        · cases h1
        · exact ⟨⟨c, ns, ds, b, h1, h2, h3⟩, fun z => by cases z⟩
    exact this.2 (S.uniq _ _ _ this.1 held)
/-- an object that is nobody's is changed -/
theorem SR.updU (S : SR k g env st σ H) {o u : HO} (ho : H a = some o) (no : ∀ x, o ≠ .own x) (ni : ∀ C dx fs, u ≠ .ins C dx fs) (n : ¬ Trk g env st σ H a) : SR k g env st σ (upd H a u) ∧ ¬ Trk g env st σ (upd H a u) a := by
  have hne : ∀ {q : Tk} {b : Addr}, Held g env st σ H q b → b ≠ a := fun h z => n (.inr ⟨_, by rw [← z]; exact h⟩)
  have same : ∀ {q : Tk} {b : Addr}, Held g env st σ H q b → upd H a u b = H b := fun h => upd_ne (hne h)
  have dxs : ∀ {dx b : Addr}, H dx = some (.own b) → upd H a u dx = some (.own b) := fun {dx b} h => by
    rw [upd_ne (fun z => by rw [z, ho] at h; cases h; exact no _ rfl)]; exact h
  -- what is held now was held
  have back : ∀ {q : Tk} {b : Addr}, Held g env st σ (upd H a u) q b → Held g env st σ H q b := fun {q b} h => by
    cases q with
    | slot i => exact h
    | cell m => exact h
    | fld m j =>
      obtain ⟨c, ns, ds, h1, d, C, dx, fs, p, h2, h3, h4, h5, h6⟩ := h
      refine ⟨c, ns, ds, h1, d, C, dx, fs, p, h2, h3, ?_, h5, h6⟩
      by_cases e : g.α m = a
      · rw [e, upd_same] at h4
        cases h4
        exact absurd rfl (ni _ _ _)
      · rw [upd_ne e] at h4; exact h4
    | sfld i j =>
      obtain ⟨c, ns, ds, b', h1, h2, d, C, dx, fs, p, h3, h4, h5, h6, h7⟩ := h
      refine ⟨c, ns, ds, b', h1, h2, d, C, dx, fs, p, h3, h4, ?_, h6, h7⟩
      by_cases e : b' = a
      · rw [e, upd_same] at h5
        cases h5
        exact absurd rfl (ni _ _ _)
      · rw [upd_ne e] at h5; exact h5
  refine ⟨⟨fun b w e => ?_, S.sz, S.len, fun i t e => ?_, fun i t e => ?_, fun i c ns ds e => ?_, fun m c e => ?_, fun q q' b h1 h2 => S.uniq q q' b (back h1) (back h2), fun q b h => S.nof q b (back h)⟩, fun z => n ?_⟩
  · rw [upd_ne (fun z => n (.inl (by rw [← z, e]; exact fun z => by cases z)))]
    exact S.sub _ _ e
  · exact S.fr i t e
  · obtain ⟨b, e1, r⟩ := S.own i t e
    exact ⟨b, e1, Own.mono (GLe.refl g) (same (q := .slot i) (.inl ⟨t, e, e1⟩)) _ r⟩
  · obtain ⟨b, e1, r⟩ := S.slf i c ns ds e
    exact ⟨b, e1, r.mono (GLe.refl g) (same (q := .slot i) (.inr ⟨c, ns, ds, e, e1⟩)) fun j b' h => same (q := .sfld i j) ⟨c, ns, ds, b, e, e1, h⟩⟩
  · have := S.cell m c e
    have sm : c.held → upd H a u (g.α m) = H (g.α m) := fun h => same (q := .cell m) ⟨c, e, h, rfl⟩
    cases c with
    | no => trivial
    | lst xs => obtain ⟨vs, e1, r⟩ := this; exact ⟨vs, by rw [sm trivial]; exact e1, r⟩
    | scr xs => exact this
    | ins c ns ds => exact InsOk.mono (GLe.refl g) (sm trivial) (fun j b' h => same (q := .fld m j) ⟨c, ns, ds, e, h⟩) this
  · rcases z with z | ⟨q, z⟩
    · exact .inl z
    · exact .inr ⟨q, back z⟩
/-- .. since the start -/
theorem Ext.updU (x : Ext g0 env0 st0 σ0 H0 g env st σ H) (S : SR k g env st σ H) {o u : HO} (ho : H a = some o) (no : ∀ x, o ≠ .own x) (ni : ∀ C dx fs, u ≠ .ins C dx fs) (n : ¬ Trk g env st σ H a) (h0 : H0 a ≠ none → Trk g0 env0 st0 σ0 H0 a) : Ext g0 env0 st0 σ0 H0 g env st σ (upd H a u) := by
  have t := S.updU (u := u) ho no ni n
  refine ⟨x.le, fun b w e nt => ?_, fun b e => ?_⟩
  · have hb : b ≠ a := fun z => nt (by rw [z]; exact h0 (by rw [← z, e]; exact fun z => by cases z))
    obtain ⟨h1, n1⟩ := x.keep b w e nt
    refine ⟨by rw [upd_ne hb]; exact h1, fun z => n1 ?_⟩
    rcases z with z | ⟨q, z⟩
    · exact .inl z
    · refine .inr ⟨q, ?_⟩
      cases q with
      | slot i => exact z
      | cell m => exact z
      | fld m j =>
        obtain ⟨c, ns, ds, h1, d, C, dx, fs, p, h2, h3, h4, h5, h6⟩ := z
        refine ⟨c, ns, ds, h1, d, C, dx, fs, p, h2, h3, ?_, h5, h6⟩
        by_cases e : g.α m = a
        · rw [e, upd_same] at h4
          cases h4
          exact absurd rfl (ni _ _ _)
        · rw [upd_ne e] at h4; exact h4
      | sfld i j =>
        obtain ⟨c, ns, ds, b', h1, h2, d, C, dx, fs, p, h3, h4, h5, h6, h7⟩ := z
        refine ⟨c, ns, ds, b', h1, h2, d, C, dx, fs, p, h3, h4, ?_, h6, h7⟩
        by_cases e : b' = a
        · rw [e, upd_same] at h5
          cases h5
          exact absurd rfl (ni _ _ _)
        · rw [upd_ne e] at h5; exact h5
  · by_cases hb : b = a
    · rw [hb, upd_same]; exact fun z => by cases z
    · rw [upd_ne hb]; exact x.there b e
/-- an object that is nobody's becomes a slot's own -/
theorem SR.setOwn (S : SR k g env st σ H) {i : Nat} {t : T} (hi : i < env.length) (n : ¬ Trk g env st σ H a) (o : Own k g H a t) : SR k g (env.set i (.own t)) st (σ.set i (some (.ref a))) H := by
  have hi' : i < σ.length := by rw [← S.len]; exact hi
  have back : ∀ {q : Tk} {b : Addr}, Held g (env.set i (.own t)) st (σ.set i (some (.ref a))) H q b → (q = .slot i ∧ b = a) ∨ (Held g env st σ H q b ∧ q ≠ .slot i) := fun {q b} h => by
    cases q with
    | slot j =>
      by_cases e : i = j
      · subst e
        left
        refine ⟨rfl, ?_⟩
        rcases h with ⟨u, h1, h2⟩ | ⟨c, ns, ds, h1, h2⟩
        · rw [List.getElem?_set_self hi'] at h2; cases h2; rfl
        · rw [List.getElem?_set_self hi'] at h2; cases h2; rfl
      · right
        refine ⟨?_, fun z => e (by cases z; rfl)⟩
        rcases h with ⟨u, h1, h2⟩ | ⟨c, ns, ds, h1, h2⟩
        · rw [List.getElem?_set_ne e] at h1 h2; exact .inl ⟨u, h1, h2⟩
        · rw [List.getElem?_set_ne e] at h1 h2; exact .inr ⟨c, ns, ds, h1, h2⟩
    | cell m => exact .inr ⟨h, fun z => by cases z⟩
    | fld m j => exact .inr ⟨h, fun z => by cases z⟩
    | sfld l j =>
      obtain ⟨c, ns, ds, b', h1, h2, h3⟩ := h
      by_cases e : i = l
      · subst e
        rw [List.getElem?_set_self hi] at h1; cases h1
      · rw [List.getElem?_set_ne e] at h1 h2
        exact .inr ⟨⟨c, ns, ds, b', h1, h2, h3⟩, fun z => by cases z⟩
  refine ⟨S.sub, S.sz, by simp [S.len], fun j u e => ?_, fun j u e => ?_, fun j c ns ds e => ?_, S.cell, fun q q' b h1 h2 => ?_, fun q b h => ?_⟩
  · by_cases h : i = j
    · subst h; rw [List.getElem?_set_self hi] at e; cases e
    · rw [List.getElem?_set_ne h] at e ⊢; exact S.fr j u e
  · by_cases h : i = j
    · subst h; rw [List.getElem?_set_self hi] at e; cases e
      rw [List.getElem?_set_self hi']
      exact ⟨a, rfl, o⟩
    · rw [List.getElem?_set_ne h] at e ⊢; exact S.own j u e
  · by_cases h : i = j
    · subst h; rw [List.getElem?_set_self hi] at e; cases e
    · rw [List.getElem?_set_ne h] at e ⊢; exact S.slf j c ns ds e
  · rcases back h1 with ⟨e1, e2⟩ | ⟨h1, _⟩ <;> rcases back h2 with ⟨e3, e4⟩ | ⟨h2, _⟩
    · rw [e1, e3]
    · rw [e2] at h2; exact absurd (.inr ⟨_, h2⟩) n
    · rw [e4] at h1; exact absurd (.inr ⟨_, h1⟩) n
    · exact S.uniq _ _ _ h1 h2
  · rcases back h with ⟨_, rfl⟩ | ⟨h, _⟩
    · exact S.nof' n
    · exact S.nof q b h
theorem Ext.setOwn (x : Ext g0 env0 st0 σ0 H0 g env st σ H) (S : SR k g env st σ H) {i : Nat} {t : T} (hi : i < env.length) (h0 : H0 a ≠ none → Trk g0 env0 st0 σ0 H0 a) : Ext g0 env0 st0 σ0 H0 g (env.set i (.own t)) st (σ.set i (some (.ref a))) H := by
  have hi' : i < σ.length := by rw [← S.len]; exact hi
  refine ⟨x.le, fun b w e nt => ?_, x.there⟩
  have hb : b ≠ a := fun z => nt (by rw [z]; exact h0 (by rw [← z, e]; exact fun z => by cases z))
  obtain ⟨h1, n1⟩ := x.keep b w e nt
  refine ⟨h1, fun z => n1 ?_⟩
  rcases z with z | ⟨q, h⟩
  · exact .inl z
  · refine .inr ⟨q, ?_⟩
    cases q with
    | slot j =>
      by_cases e : i = j
      · subst e
        exfalso
        apply hb
        rcases h with ⟨u, h1, h2⟩ | ⟨c, ns, ds, h1, h2⟩
        · rw [List.getElem?_set_self hi'] at h2; cases h2; rfl
        · rw [List.getElem?_set_self hi'] at h2; cases h2; rfl
      · rcases h with ⟨u, h1, h2⟩ | ⟨c, ns, ds, h1, h2⟩
        · rw [List.getElem?_set_ne e] at h1 h2; exact .inl ⟨u, h1, h2⟩
        · rw [List.getElem?_set_ne e] at h1 h2; exact .inr ⟨c, ns, ds, h1, h2⟩
    | cell m => exact h
    | fld m j => exact h
    | sfld l j =>
      obtain ⟨c, ns, ds, b', h1, h2, h3⟩ := h
      by_cases e : i = l
      · subst e
        rw [List.getElem?_set_self hi] at h1; cases h1
      · rw [List.getElem?_set_ne e] at h1 h2
        exact ⟨c, ns, ds, b', h1, h2, h3⟩
/-- an own list changed in place -/
theorem SR.updOwn (S : SR k g env st σ H) {i : Nat} {t t' : T} {o u : HO} (e : env[i]? = some (.own t)) (ea : σ[i]? = some (some (.ref a))) (ho : H a = some o) (no : ∀ x, o ≠ .own x) (ni : ∀ C dx fs, u ≠ .ins C dx fs) (ow : Own k g (upd H a u) a t') :
    SR k g (env.set i (.own t')) st σ (upd H a u) ∧ Ext g env st σ H g (env.set i (.own t')) st σ (upd H a u) := by
  obtain ⟨S1, x1, n1, tr⟩ := S.dropOwn (v := .non) e ea
  obtain ⟨S2, n2⟩ := S1.updU (u := u) ho no ni n1
  have x2 := x1.updU S1 (u := u) ho no ni n1 (fun _ => tr)
  have hi : i < (env.set i .no).length := by rw [List.length_set]; exact (List.getElem?_eq_some_iff.mp e).1
  have S3 := S2.setOwn hi n2 ow
  have x3 := x2.setOwn (t := t') S2 hi (fun _ => tr)
  have e2 : (env.set i Slot.no).set i (.own t') = env.set i (.own t') := by simp
  rw [e2, set_same ea] at S3 x3
  exact ⟨S3, x3⟩
/-! ### cells -/
/-- a cell forgotten -/
theorem SR.dropCell (S : SR k g env st σ H) {n : Nat} {c : Cell} (e : st[n]? = some c) (hc : c.held) :
    SR k g env (st.set n .no) σ H ∧ Ext g env st σ H g env (st.set n .no) σ H ∧ ¬ Trk g env (st.set n .no) σ H (g.α n) ∧ Trk g env st σ H (g.α n) := by
  have hn : n < st.length := (List.getElem?_eq_some_iff.mp e).1
  have held : Held g env st σ H (.cell n) (g.α n) := ⟨c, e, hc, rfl⟩
  have back : ∀ {q : Tk} {b : Addr}, Held g env (st.set n .no) σ H q b → Held g env st σ H q b ∧ q ≠ .cell n := fun {q b} h => by
    cases q with
    | slot i => exact ⟨h, fun z => by cases z⟩
    | cell m =>
      obtain ⟨c', h1, h2, h3⟩ := h
      rw [set_get hn] at h1; split at h1
      · cases h1; exact h2.elim
      · rename_i hm; exact ⟨⟨c', h1, h2, h3⟩, fun z => hm (by cases z; rfl)⟩
    | fld m j =>
      obtain ⟨c', ns, ds, h1, h2⟩ := h
      rw [set_get hn] at h1; split at h1
      · cases h1
      · exact ⟨⟨c', ns, ds, h1, h2⟩, fun z => by cases z⟩
    | sfld i j => exact ⟨h, fun z => by cases z⟩
  refine ⟨⟨S.sub, by simp [S.sz], S.len, S.fr, S.own, S.slf, fun m c' h => ?_, fun q q' b h1 h2 => S.uniq q q' b (back h1).1 (back h2).1, fun q b h => S.nof q b (back h).1⟩, ⟨GLe.refl _, fun b o h n => ⟨h, fun z => n ?_⟩, fun _ h => h⟩, fun z => ?_, .of_held held⟩
  · rw [set_get hn] at h; split at h
    · cases h; trivial
    · exact S.cell m c' h
  · rcases z with z | ⟨q, z⟩
    · exact .inl z
    · exact .inr ⟨q, (back z).1⟩
  · rcases z with z | ⟨q, z⟩
    · exact z (S.nof _ _ held)
    · exact (back z).2 (S.uniq _ _ _ (back z).1 held)
/-- an object that is nobody's becomes a cell's (a list) -/
theorem SR.setCell (S : SR k g env st σ H) {n : Nat} {xs : List T} (hn : n < st.length) (nt : ¬ Trk g env st σ H (g.α n)) (o : CellOk k g H (g.α n) (.lst xs)) : SR k g env (st.set n (.lst xs)) σ H := by
  have back : ∀ {q : Tk} {b : Addr}, Held g env (st.set n (.lst xs)) σ H q b → (q = .cell n ∧ b = g.α n) ∨ Held g env st σ H q b := fun {q b} h => by
    cases q with
    | slot i => exact .inr h
    | cell m =>
      obtain ⟨c', h1, h2, h3⟩ := h
      rw [set_get hn] at h1; split at h1
      · rename_i hm; subst hm; exact .inl ⟨rfl, h3.symm⟩
      · exact .inr ⟨c', h1, h2, h3⟩
    | fld m j =>
      obtain ⟨c', ns, ds, h1, h2⟩ := h
      rw [set_get hn] at h1; split at h1
      · cases h1
      · exact .inr ⟨c', ns, ds, h1, h2⟩
    | sfld i j => exact .inr h
  refine ⟨S.sub, by simp [S.sz], S.len, S.fr, S.own, S.slf, fun m c' h => ?_, fun q q' b h1 h2 => ?_, fun q b h => ?_⟩
  · rw [set_get hn] at h; split at h
    · rename_i hm; subst hm; cases h; exact o
    · exact S.cell m c' h
  · rcases back h1 with ⟨e1, e2⟩ | h1 <;> rcases back h2 with ⟨e3, e4⟩ | h2
    · rw [e1, e3]
    · rw [e2] at h2; exact absurd (.inr ⟨_, h2⟩) nt
    · rw [e4] at h1; exact absurd (.inr ⟨_, h1⟩) nt
    · exact S.uniq _ _ _ h1 h2
  · rcases back h with ⟨_, rfl⟩ | h
    · exact S.nof' nt
    · exact S.nof q b h
theorem Ext.setCell (x : Ext g0 env0 st0 σ0 H0 g env st σ H) {n : Nat} {xs : List T} (hn : n < st.length) (h0 : H0 (g.α n) ≠ none → Trk g0 env0 st0 σ0 H0 (g.α n)) : Ext g0 env0 st0 σ0 H0 g env (st.set n (.lst xs)) σ H := by
  refine ⟨x.le, fun b w e nt => ?_, x.there⟩
  have hb : b ≠ g.α n := fun z => nt (by rw [z]; exact h0 (by rw [← z, e]; exact fun z => by cases z))
  obtain ⟨h1, n1⟩ := x.keep b w e nt
  refine ⟨h1, fun z => n1 ?_⟩
  rcases z with z | ⟨q, h⟩
  · exact .inl z
  · refine .inr ⟨q, ?_⟩
    cases q with
    | slot i => exact h
    | cell m =>
      obtain ⟨c', h1, h2, h3⟩ := h
      rw [set_get hn] at h1; split at h1
      · rename_i hm; subst hm; exact absurd h3.symm hb
      · exact ⟨c', h1, h2, h3⟩
    | fld m j =>
      obtain ⟨c', ns, ds, h1, h2⟩ := h
      rw [set_get hn] at h1; split at h1
      · cases h1
      · exact ⟨c', ns, ds, h1, h2⟩
    | sfld i j => exact h
/-- a list of the store changed in place -/
theorem SR.updCell (S : SR k g env st σ H) {n : Nat} {xs xs' : List T} {vs : List V} (e : st[n]? = some (.lst xs)) (r : RepL k g xs' vs) :
    SR k g env (st.set n (.lst xs')) σ (upd H (g.α n) (.lst vs)) ∧ Ext g env st σ H g env (st.set n (.lst xs')) σ (upd H (g.α n) (.lst vs)) := by
  obtain ⟨ws, hw, _⟩ := S.cell n _ e
  obtain ⟨S1, x1, n1, tr⟩ := S.dropCell e trivial
  have no : ∀ x, HO.lst ws ≠ .own x := fun x z => by cases z
  have ni : ∀ C dx fs, HO.lst vs ≠ .ins C dx fs := fun _ _ _ z => by cases z
  obtain ⟨S2, n2⟩ := S1.updU (u := .lst vs) hw no ni n1
  have x2 := x1.updU S1 (u := .lst vs) hw no ni n1 (fun _ => tr)
  have hn : n < (st.set n .no).length := by rw [List.length_set]; exact (List.getElem?_eq_some_iff.mp e).1
  have S3 := S2.setCell (xs := xs') hn n2 ⟨vs, upd_same, r⟩
  have x3 := x2.setCell (xs := xs') hn (fun _ => tr)
  have e2 : (st.set n Cell.no).set n (.lst xs') = st.set n (.lst xs') := by simp
  rw [e2] at S3 x3
  exact ⟨S3, x3⟩
/-- a new cell for a list that is nobody's -/
def Gh.cell (g : Gh) (a : Addr) : Gh := { g with α := fun n => if n = g.B then a else g.α n, B := g.B + 1 }
theorem SR.newCell (S : SR k g env st σ H) {xs : List T} {vs : List V} (nt : ¬ Trk g env st σ H a) (h : H a = some (.lst vs)) (r : RepL k g xs vs) : SR k (g.cell a) env (st ++ [.lst xs]) σ H ∧ GLe g (g.cell a) ∧ (g.cell a).α st.length = a := by
  have le : GLe g (g.cell a) := ⟨FSub.refl _, fun n hn => if_neg (Nat.ne_of_lt hn), Nat.le_succ _⟩
  have αo : ∀ {n}, n < st.length → (g.cell a).α n = g.α n := fun h => if_neg (by rw [S.sz]; exact Nat.ne_of_lt h)
  have αn : (g.cell a).α st.length = a := if_pos S.sz.symm
  have lt : ∀ {n : Nat} {c : Cell}, st[n]? = some c → n < st.length := fun e => (List.getElem?_eq_some_iff.mp e).1
  have cases_ : ∀ {n : Nat} {c : Cell}, (st ++ [Cell.lst xs])[n]? = some c → (n < st.length ∧ st[n]? = some c) ∨ (n = st.length ∧ c = .lst xs) := fun {n c} e => by
    by_cases hn : n < st.length
    · rw [List.getElem?_append_left hn] at e; exact .inl ⟨hn, e⟩
    · rw [List.getElem?_append_right (by omega)] at e
      have : n - st.length = 0 := by
        cases q : n - st.length with
        | zero => rfl
        | succ m => rw [q] at e; simp at e
      rw [this] at e
      exact .inr ⟨by omega, by simpa using e.symm⟩
  have back : ∀ {q : Tk} {b : Addr}, Held (g.cell a) env (st ++ [.lst xs]) σ H q b → (q = .cell st.length ∧ b = a) ∨ (Held g env st σ H q b ∧ q ≠ .cell st.length) := fun {q b} h => by
    cases q with
    | slot i => exact .inr ⟨h, fun z => by cases z⟩
    | cell m =>
      obtain ⟨c', h1, h2, h3⟩ := h
      rcases cases_ h1 with ⟨hm, h1⟩ | ⟨rfl, rfl⟩
      · rw [αo hm] at h3; exact .inr ⟨⟨c', h1, h2, h3⟩, fun z => by cases z; omega⟩
      · rw [αn] at h3; exact .inl ⟨rfl, h3.symm⟩
    | fld m j =>
      obtain ⟨c', ns, ds, h1, h2⟩ := h
      rcases cases_ h1 with ⟨hm, h1⟩ | ⟨rfl, z⟩
      · rw [αo hm] at h2; exact .inr ⟨⟨c', ns, ds, h1, h2⟩, fun z => by cases z⟩
      · cases z
    | sfld i j => exact .inr ⟨h, fun z => by cases z⟩
  refine ⟨⟨S.sub, ?_, S.len, fun i t e => ?_, fun i t e => ?_, fun i c ns ds e => ?_, fun m c e => ?_, fun q q' b h1 h2 => ?_, fun q b h => ?_⟩, le, αn⟩
  · show g.B + 1 = _
    rw [List.length_append, S.sz]; rfl
  · obtain ⟨v, e1, r⟩ := S.fr i t e
    exact ⟨v, e1, Rep.mono le _ _ r⟩
  · obtain ⟨b, e1, r⟩ := S.own i t e
    exact ⟨b, e1, Own.mono le rfl _ r⟩
  · obtain ⟨b, e1, r⟩ := S.slf i c ns ds e
    exact ⟨b, e1, r.mono le rfl fun _ _ _ => rfl⟩
  · rcases cases_ e with ⟨hm, e⟩ | ⟨rfl, rfl⟩
    · have := S.cell m c e
      rw [αo hm]
      cases c with
      | no => trivial
      | lst xs => obtain ⟨vs, e1, r⟩ := this; exact ⟨vs, e1, RepL.mono le _ _ r⟩
      | scr xs => obtain ⟨vs, e1, r⟩ := this; exact ⟨vs, Mp.SqL.fmono le.f e1, RepL.mono le _ _ r⟩
      | ins c ns ds => exact InsOk.mono le rfl (fun _ _ _ => rfl) this
    · rw [αn]
      exact ⟨vs, h, RepL.mono le _ _ r⟩
  · rcases back h1 with ⟨e1, e2⟩ | ⟨h1, _⟩ <;> rcases back h2 with ⟨e3, e4⟩ | ⟨h2, _⟩
    · rw [e1, e3]
    · rw [e2] at h2; exact absurd (.inr ⟨_, h2⟩) nt
    · rw [e4] at h1; exact absurd (.inr ⟨_, h1⟩) nt
    · exact S.uniq _ _ _ h1 h2
  · rcases back h with ⟨_, rfl⟩ | ⟨h, _⟩
    · exact S.nof' nt
    · exact S.nof q b h
theorem Ext.newCell (x : Ext g0 env0 st0 σ0 H0 g env st σ H) (S : SR k g env st σ H) {xs : List T} (h0 : H0 a ≠ none → Trk g0 env0 st0 σ0 H0 a) : Ext g0 env0 st0 σ0 H0 (g.cell a) env (st ++ [.lst xs]) σ H := by
  have le : GLe g (g.cell a) := ⟨FSub.refl _, fun n hn => if_neg (Nat.ne_of_lt hn), Nat.le_succ _⟩
  have αo : ∀ {n}, n < st.length → (g.cell a).α n = g.α n := fun h => if_neg (by rw [S.sz]; exact Nat.ne_of_lt h)
  have αn : (g.cell a).α st.length = a := if_pos S.sz.symm
  have cases_ : ∀ {n : Nat} {c : Cell}, (st ++ [Cell.lst xs])[n]? = some c → (n < st.length ∧ st[n]? = some c) ∨ (n = st.length ∧ c = .lst xs) := fun {n c} e => by
    by_cases hn : n < st.length
    · rw [List.getElem?_append_left hn] at e; exact .inl ⟨hn, e⟩
    · rw [List.getElem?_append_right (by omega)] at e
      have : n - st.length = 0 := by
        cases q : n - st.length with
        | zero => rfl
        | succ m => rw [q] at e; simp at e
      rw [this] at e
      exact .inr ⟨by omega, by simpa using e.symm⟩
  refine ⟨x.le.trans le, fun b w e nt => ?_, x.there⟩
  have hb : b ≠ a := fun z => nt (by rw [z]; exact h0 (by rw [← z, e]; exact fun z => by cases z))
  obtain ⟨h1, n1⟩ := x.keep b w e nt
  refine ⟨h1, fun z => n1 ?_⟩
  rcases z with z | ⟨q, h⟩
  · exact .inl z
  · refine .inr ⟨q, ?_⟩
    cases q with
    | slot i => exact h
    | cell m =>
      obtain ⟨c', h1, h2, h3⟩ := h
      rcases cases_ h1 with ⟨hm, h1⟩ | ⟨rfl, rfl⟩
      · rw [αo hm] at h3; exact ⟨c', h1, h2, h3⟩
      · rw [αn] at h3; exact absurd h3.symm hb
    | fld m j =>
      obtain ⟨c', ns, ds, h1, h2⟩ := h
      rcases cases_ h1 with ⟨hm, h1⟩ | ⟨rfl, z⟩
      · rw [αo hm] at h2; exact ⟨c', ns, ds, h1, h2⟩
      · cases z
    | sfld i j => exact h

/-! ### a part of the slots: a callee's (none), a block's -/
/-- env0 has some of env's slots -/
structure Sub (env0 : En) (σ0 : L2.St) (env : En) (σ : L2.St) : Prop where
  at_ : ∀ i : Nat, (env0[i]? = env[i]? ∧ σ0[i]? = σ[i]?) ∨ env0[i]? = none ∨ env0[i]? = some .no
theorem Sub.nil : Sub [] [] env σ := ⟨fun i => .inr (.inl (by simp))⟩
theorem Sub.refl : Sub env σ env σ := ⟨fun i => .inl ⟨rfl, rfl⟩⟩
theorem Sub.own {env0 : En} {σ0 : L2.St} (b : Sub env0 σ0 env σ) {i : Nat} {t : T} (e : env0[i]? = some (.own t)) : env[i]? = some (.own t) ∧ σ0[i]? = σ[i]? := by
  rcases b.at_ i with ⟨h1, h2⟩ | h | h
  · exact ⟨by rw [← h1]; exact e, h2⟩
  · rw [h] at e; cases e
  · rw [h] at e; cases e
theorem Sub.slf {env0 : En} {σ0 : L2.St} (b : Sub env0 σ0 env σ) {i : Nat} {c : Str} {ns : List Str} {ds : List Fd} (e : env0[i]? = some (.slf c ns ds)) : env[i]? = some (.slf c ns ds) ∧ σ0[i]? = σ[i]? := by
  rcases b.at_ i with ⟨h1, h2⟩ | h | h
  · exact ⟨by rw [← h1]; exact e, h2⟩
  · rw [h] at e; cases e
  · rw [h] at e; cases e
theorem Sub.set {env0 : En} {σ0 : L2.St} (b : Sub env0 σ0 env σ) (i : Nat) : Sub (env0.set i .no) (σ0.set i none) env σ := ⟨fun j => by
  by_cases h : i = j
  · subst h
    rw [List.getElem?_set_self']
    cases env0[i]? with
    | none => exact .inr (.inl rfl)
    | some w => exact .inr (.inr rfl)
  · rw [List.getElem?_set_ne h, List.getElem?_set_ne h]
    exact b.at_ j⟩
theorem Sub.wipe : ∀ vs : List Nat, Sub (wipeE vs env) (L2.wipe σ vs) env σ
  | [] => .refl
  | v :: vs => (Sub.wipe vs).set v
section
variable {env0 : En} {σ0 : L2.St}
theorem Held.up (b : Sub env0 σ0 env σ) {q : Tk} (h : Held g env0 st σ0 H q a) : Held g env st σ H q a := by
  cases q with
  | slot i =>
    rcases h with ⟨t, h1, h2⟩ | ⟨c, ns, ds, h1, h2⟩
    · obtain ⟨e1, e2⟩ := b.own h1
      exact .inl ⟨t, e1, by rw [← e2]; exact h2⟩
    · obtain ⟨e1, e2⟩ := b.slf h1
      exact .inr ⟨c, ns, ds, e1, by rw [← e2]; exact h2⟩
  | cell n => exact h
  | fld n j => exact h
  | sfld i j =>
    obtain ⟨c, ns, ds, b', h1, h2, h3⟩ := h
    obtain ⟨e1, e2⟩ := b.slf h1
    exact ⟨c, ns, ds, b', e1, by rw [← e2]; exact h2, h3⟩
theorem Trk.up (b : Sub env0 σ0 env σ) (h : Trk g env0 st σ0 H a) : Trk g env st σ H a := by
  rcases h with h | ⟨q, h⟩
  · exact .inl h
  · exact .inr ⟨q, h.up b⟩
theorem SR.part (S : SR k g env st σ H) (b : Sub env0 σ0 env σ) (hl : env0.length = σ0.length) : SR k g env0 st σ0 H := by
  refine ⟨S.sub, S.sz, hl, fun i t e => ?_, fun i t e => ?_, fun i c ns ds e => ?_, S.cell, fun q q' x h1 h2 => S.uniq q q' x (h1.up b) (h2.up b), fun q x h => S.nof q x (h.up b)⟩
  · rcases b.at_ i with ⟨h1, h2⟩ | h | h
    · rw [h2]; exact S.fr i t (by rw [← h1]; exact e)
    · rw [h] at e; cases e
    · rw [h] at e; cases e
  · obtain ⟨e1, e2⟩ := b.own e
    rw [e2]; exact S.own i t e1
  · obtain ⟨e1, e2⟩ := b.slf e
    rw [e2]; exact S.slf i c ns ds e1
theorem SR.bare (S : SR k g env st σ H) : SR k g [] st [] H := S.part .nil rfl
/-- behind a call, a block -/
theorem SR.back (S : SR k g env st σ H) (b : Sub env0 σ0 env σ) {st' : Store} (x : Ext g env0 st σ0 H g' env0 st' σ0 H') (S' : SR k g' env0 st' σ0 H') : SR k g' env st' σ H' ∧ Ext g env st σ H g' env st' σ H' := by
  -- what a slot aside holds is kept, and is nobody's there
  have mineS : ∀ {i : Nat} {c : Addr}, (env0[i]? = none ∨ env0[i]? = some .no) → Held g env st σ H (.slot i) c → H' c = H c ∧ ¬ Trk g' env0 st' σ0 H' c := fun {i c} hi h => by
    obtain ⟨o, e⟩ := h.there S
    obtain ⟨h1, h2⟩ := x.keep c o e fun z => by
      rcases z with z | ⟨q', z⟩
      · exact z (S.nof _ _ h)
      · have := S.uniq _ _ _ h (z.up b)
        subst this
        rcases z with ⟨t, z, _⟩ | ⟨_, _, _, z, _⟩ <;> (rcases hi with hi | hi <;> rw [hi] at z <;> cases z)
    exact ⟨h1.trans e.symm, h2⟩
  have mineF : ∀ {i j : Nat} {c : Addr}, (env0[i]? = none ∨ env0[i]? = some .no) → Held g env st σ H (.sfld i j) c → H' c = H c ∧ ¬ Trk g' env0 st' σ0 H' c := fun {i j c} hi h => by
    obtain ⟨o, e⟩ := h.there S
    obtain ⟨h1, h2⟩ := x.keep c o e fun z => by
      rcases z with z | ⟨q', z⟩
      · exact z (S.nof _ _ h)
      · have := S.uniq _ _ _ h (z.up b)
        subst this
        obtain ⟨_, _, _, _, z, _⟩ := z
        rcases hi with hi | hi <;> rw [hi] at z <;> cases z
    exact ⟨h1.trans e.symm, h2⟩
  have split_ : ∀ {q : Tk} {c : Addr}, Held g' env st' σ H' q c → (Held g' env0 st' σ0 H' q c) ∨ (Held g env st σ H q c ∧ H' c = H c ∧ ¬ Trk g' env0 st' σ0 H' c) := fun {q c} h => by
    cases q with
    | slot i =>
      rcases b.at_ i with ⟨h1, h2⟩ | hi
      · left
        rcases h with ⟨t, e1, e2⟩ | ⟨cc, ns, ds, e1, e2⟩
        · exact .inl ⟨t, by rw [h1]; exact e1, by rw [h2]; exact e2⟩
        · exact .inr ⟨cc, ns, ds, by rw [h1]; exact e1, by rw [h2]; exact e2⟩
      · exact .inr ⟨h, mineS hi h⟩
    | cell n => exact .inl h
    | fld n j => exact .inl h
    | sfld i j =>
      rcases b.at_ i with ⟨h1, h2⟩ | hi
      · left
        obtain ⟨cc, ns, ds, b', e1, e2, e3⟩ := h
        exact ⟨cc, ns, ds, b', by rw [h1]; exact e1, by rw [h2]; exact e2, e3⟩
      · have h' : Held g env st σ H (.sfld i j) c := by
          obtain ⟨cc, ns, ds, b', h1, h2, d, C, dx, fs, p, h3, h4, h5, h6, h7⟩ := h
          have hb := mineS (i := i) (c := b') hi (.inr ⟨cc, ns, ds, h1, h2⟩)
          rw [hb.1] at h5
          exact ⟨cc, ns, ds, b', h1, h2, d, C, dx, fs, p, h3, h4, h5, h6, h7⟩
        exact .inr ⟨h', mineF hi h'⟩
  refine ⟨⟨S'.sub, S'.sz, S.len, fun i t e => ?_, fun i t e => ?_, fun i c ns ds e => ?_, S'.cell, fun q q' c h1 h2 => ?_, fun q c h => ?_⟩, x.le, fun c o e n => ?_, x.there⟩
  · obtain ⟨v, e1, r⟩ := S.fr i t e
    exact ⟨v, e1, Rep.mono x.le _ _ r⟩
  · rcases b.at_ i with ⟨h1, h2⟩ | hi
    · rw [← h2]; exact S'.own i t (by rw [h1]; exact e)
    · obtain ⟨c, e1, r⟩ := S.own i t e
      exact ⟨c, e1, Own.mono x.le (mineS hi (.inl ⟨t, e, e1⟩)).1 _ r⟩
  · rcases b.at_ i with ⟨h1, h2⟩ | hi
    · rw [← h2]; exact S'.slf i c ns ds (by rw [h1]; exact e)
    · obtain ⟨b', e1, r⟩ := S.slf i c ns ds e
      exact ⟨b', e1, r.mono x.le (mineS hi (.inr ⟨c, ns, ds, e, e1⟩)).1 fun j b2 h => (mineF (j := j) hi ⟨c, ns, ds, b', e, e1, h⟩).1⟩
  · rcases split_ h1 with h1 | ⟨h1, _, n1⟩ <;> rcases split_ h2 with h2 | ⟨h2, _, n2⟩
    · exact S'.uniq _ _ _ h1 h2
    · exact absurd (.inr ⟨_, h1⟩) n2
    · exact absurd (.inr ⟨_, h2⟩) n1
    · exact S.uniq _ _ _ h1 h2
  · rcases split_ h with h | ⟨h, _, n⟩
    · exact S'.nof q c h
    · exact S'.nof' n
  · obtain ⟨h1, n1⟩ := x.keep c o e fun z => n (z.up b)
    refine ⟨h1, fun z => ?_⟩
    rcases z with z | ⟨q, z⟩
    · exact n1 (.inl z)
    · rcases split_ z with z | ⟨z, _⟩
      · exact n1 (.inr ⟨q, z⟩)
      · exact n (.inr ⟨q, z⟩)
/-- what is new and nobody's there is nobody's -/
theorem Trk.back (S : SR k g env st σ H) (b : Sub env0 σ0 env σ) {st' : Store} (x : Ext g env0 st σ0 H g' env0 st' σ0 H') (S' : SR k g' env0 st' σ0 H') (h0 : H a = none) (n : ¬ Trk g' env0 st' σ0 H' a) : ¬ Trk g' env st' σ H' a := fun z => by
  rcases z with z | ⟨q, h⟩
  · exact n (.inl z)
  · obtain ⟨S2, x2⟩ := S.back b x S'
    cases q with
    | cell m => exact n (.inr ⟨.cell m, h⟩)
    | fld m j => exact n (.inr ⟨.fld m j, h⟩)
    | slot i =>
      rcases b.at_ i with ⟨h1, h2⟩ | hi
      · refine n (.inr ⟨.slot i, ?_⟩)
        rcases h with ⟨t, e1, e2⟩ | ⟨cc, ns, ds, e1, e2⟩
        · exact .inl ⟨t, by rw [h1]; exact e1, by rw [h2]; exact e2⟩
        · exact .inr ⟨cc, ns, ds, by rw [h1]; exact e1, by rw [h2]; exact e2⟩
      · have h' : Held g env st σ H (.slot i) a := h
        obtain ⟨o, e⟩ := h'.there S
        rw [h0] at e; cases e
    | sfld i j =>
      rcases b.at_ i with ⟨h1, h2⟩ | hi
      · refine n (.inr ⟨.sfld i j, ?_⟩)
        obtain ⟨cc, ns, ds, b', e1, e2, e3⟩ := h
        exact ⟨cc, ns, ds, b', by rw [h1]; exact e1, by rw [h2]; exact e2, e3⟩
      · obtain ⟨cc, ns, ds, b', h1, h2, d, C, dx, fs, p, h3, h4, h5, h6, h7⟩ := h
        obtain ⟨b2, e1, dx', ws, e2, l, f⟩ := S.slf i cc ns ds h1
        rw [h2] at e1; cases e1
        obtain ⟨o, eo⟩ : ∃ o, H' b' = some o := ⟨_, h5⟩
        have keepb : H' b' = H b' := by
          have hh : Held g env st σ H (.slot i) b' := .inr ⟨cc, ns, ds, h1, h2⟩
          have := x.keep b' _ e2 fun z => by
            rcases z with z | ⟨q', z⟩
            · exact z (S.nof _ _ hh)
            · have := S.uniq _ _ _ hh (z.up b)
              subst this
              rcases z with ⟨t, z, _⟩ | ⟨_, _, _, z, _⟩ <;> (rcases hi with hi | hi <;> rw [hi] at z <;> cases z)
          rw [this.1, e2]
        rw [keepb] at h5
        have hh : Held g env st σ H (.sfld i j) a := ⟨cc, ns, ds, b', h1, h2, d, C, dx, fs, p, h3, h4, h5, h6, h7⟩
        obtain ⟨o2, e⟩ := hh.there S
        rw [h0] at e; cases e
theorem Ext.part (S : SR k g env st σ H) (b : Sub env0 σ0 env σ) : Ext g env st σ H g env0 st σ0 H := ⟨GLe.refl _, fun c o e n => ⟨e, fun z => n (z.up b)⟩, fun _ h => h⟩
end
end
end Mp


set_option Elab.async false
set_option linter.all false
set_option maxRecDepth 100000
/-! Sx: the soundness of expressions: what is asked and told. -/
namespace Mp
open PySem PySem.Spec PyProof.Rows L2
/-- an exception: its class, its values -/
def ErrOk (k : Gk) (g : Gh) (H : Hp) (c : Str) (vs : List T) (cls : Value) (d : Option Addr) : Prop := cls = .ref (k.cl c) ∧ ∃ dx fs, d = some dx ∧ H dx = some (.xd fs) ∧ RepL k g vs (fs.map (·.2))
/-- how a result is to be read: the heap at the start, then what stands at the end -/
abbrev Rdg (α β : Type) := Hp → En → Store → L2.St → Gh → Hp → α → β → Prop
/-- what was there is there -/
def Dom (H H1 : Hp) : Prop := ∀ a, H a ≠ none → H1 a ≠ none
def Mono0 {α β : Type} (R : Rdg α β) : Prop := ∀ H0 H1 env st σ g H t v, Dom H0 H1 → R H1 env st σ g H t v → R H0 env st σ g H t v
section
variable (k : Gk) (W : L2.WX) {α β : Type}
def After (R : Rdg α β) (σ : L2.St) (env : En) (g : Gh) (st : Store) (H : Hp) (Q : β → Hp → Prop) : Out α → Prop
  | .ok t st' => ∀ v H' g', Ext g env st σ H g' env st' σ H' → SR k g' env st' σ H' → R H env st' σ g' H' t v → Q v H'
  | .err c vs st' => ∀ cls d H' g', Ext g env st σ H g' env st' σ H' → SR k g' env st' σ H' → ErrOk k g' H' c vs cls d → W cls d σ H'
  | .bad => False
def tR (R : Rdg α β) (f : Ev α) : L2.St → Hp → (β → Hp → Prop) → Prop := fun σ H Q => ∃ g env st, SR k g env st σ H ∧ After k W R σ env g st H Q (f env st)
/-- a value -/
def rV : Rdg T V := fun _ _ _ _ g _ t v => Rep k g t v
/-- .. or a list, a dict of a name's own -/
def rS : Rdg T V := fun _ env _ σ g _ t v => Rep k g t v ∨ ∃ i : Nat, env[i]? = some (Slot.own t) ∧ σ[i]? = some (some v)
/-- .. or any of one's own, as it stands -/
def RepB (g : Gh) (H : Hp) (t : T) (v : V) : Prop := Rep k g t v ∨ ∃ a, v = .ref a ∧ Own k g H a t
def rB : Rdg T V := fun _ _ _ _ g H t v => RepB k g H t v
/-- a new list, a new dict: nobody's yet -/
def rF : Rdg T V := fun H0 env st σ g H t v => match t with
  | .lst xs => ∃ a vs, v = .ref a ∧ H0 a = none ∧ H a = some (.lst vs) ∧ RepL k g xs vs ∧ ¬ Trk g env st σ H a
  | .dct kvs => ∃ a vs, v = .ref a ∧ H0 a = none ∧ H a = some (.dK vs) ∧ RepE k g kvs vs ∧ ¬ Trk g env st σ H a
  | t => Rep k g t v
def rL : Rdg (List T) (List V) := fun _ _ _ _ g _ t v => RepL k g t v
def rT : Rdg Bool Bool := fun _ _ _ _ _ _ b c => b = c
abbrev tV (f : EvT) : TE := tR k W (rV k) f
abbrev tS (f : EvT) : TE := tR k W (rS k) f
abbrev tB (f : EvT) : TE := tR k W (rB k) f
abbrev tF (f : EvT) : TE := tR k W (rF k) f
abbrev tL (fs : List EvT) : TA := tR k W (rL k) (evL fs)
abbrev tT (f : EvB) : TT := tR k W rT f
end
theorem PE.imp {X : Cx} {e : Expr} {t t' : TE} (h : PE X e t) (i : ∀ σ H Q, t' σ H Q → t σ H Q) : PE X e t' := ⟨fun pins s σ H Q I q => h.run pins s σ H Q I (i σ H Q q)⟩
theorem PT.imp {X : Cx} {e : Expr} {t t' : TT} (h : PT X e t) (i : ∀ σ H Q, t' σ H Q → t σ H Q) : PT X e t' := ⟨fun pins s σ H Q I q => h.run pins s σ H Q I (i σ H Q q)⟩
theorem PW.imp {X : Cx} {e : Expr} {t t' : TT} (h : PW X e t) (i : ∀ σ H Q, t' σ H Q → t σ H Q) : PW X e t' := ⟨fun wh pins s σ H Q I q => h.run wh pins s σ H Q I (i σ H Q q)⟩
theorem PA.imp {X : Cx} {e : List Expr} {t t' : TA} (h : PA X e t) (i : ∀ σ H Q, t' σ H Q → t σ H Q) : PA X e t' := ⟨fun pos pins s σ H Q I q => h.run pos pins s σ H Q I (i σ H Q q)⟩
theorem PS.imp {X : Cx} {e : Stmt} {t t' : TS} (h : PS X e t) (i : ∀ D σ H, t' D σ H → t D σ H) : PS X e t' := ⟨fun pins s σ H D I q => h.run pins s σ H D I (i D σ H q)⟩
theorem PSs.imp {X : Cx} {e : List Stmt} {t t' : TS} (h : PSs X e t) (i : ∀ D σ H, t' D σ H → t D σ H) : PSs X e t' := ⟨fun pins s σ H D I q => h.run pins s σ H D I (i D σ H q)⟩
theorem PI.imp {X : Cx} {tg e : Expr} {t t' : TI} (h : PI X tg e t) (i : ∀ σ H R, t' σ H R → t σ H R) : PI X tg e t' := ⟨fun pins s σ H R I q => h.run pins s σ H R I (i σ H R q)⟩
section
variable {k : Gk} {W : L2.WX} {X : Cx} {α β γ δ : Type} {R : Rdg α β} {R1 : Rdg γ δ} {g g1 : Gh} {env : En} {st st1 : Store} {σ : L2.St} {H H1 : Hp} {Q Q' : β → Hp → Prop}
theorem m0V : Mono0 (rV k) := fun _ _ _ _ _ _ _ _ _ _ q => q
theorem m0S : Mono0 (rS k) := fun _ _ _ _ _ _ _ _ _ _ q => q
theorem m0B : Mono0 (rB k) := fun _ _ _ _ _ _ _ _ _ _ q => q
theorem m0L : Mono0 (rL k) := fun _ _ _ _ _ _ _ _ _ _ q => q
theorem m0T : Mono0 rT := fun _ _ _ _ _ _ _ _ _ _ q => q
theorem Dom.none {H H1 : Hp} (d : Dom H H1) {a : Addr} (h : H1 a = none) : H a = none := by
  cases e : H a with
  | none => rfl
  | some o => exact absurd h (d a (by rw [e]; exact fun z => by cases z))
theorem m0F : Mono0 (rF k) := fun H0 H1 env st σ g H t v d q => by
  cases t with
  | lst xs =>
    obtain ⟨a, vs, e, h, r⟩ := q
    exact ⟨a, vs, e, d.none h, r⟩
  | dct xs =>
    obtain ⟨a, vs, e, h, r⟩ := q
    exact ⟨a, vs, e, d.none h, r⟩
  | _ => exact q
theorem After.imp {r : Out α} (h : After k W R σ env g st H Q r) (i : ∀ v H', Q v H' → Q' v H') : After k W R σ env g st H Q' r := by
  cases r with
  | ok t st' => exact fun v H' g' x S r => i _ _ (h v H' g' x S r)
  | err c vs st' => exact h
  | bad => exact h
/-- what is asked stays asked behind a step -/
theorem After.shift (m : Mono0 R) (x : Ext g env st σ H g1 env st1 σ H1) {r : Out α} (h : After k W R σ env g st H Q r) : After k W R σ env g1 st1 H1 Q r := by
  cases r with
  | ok t st' => exact fun v H' g' e S r => h v H' g' (x.trans e) S (m _ _ _ _ _ _ _ _ _ x.there r)
  | err c vs st' => exact fun cls d H' g' e S r => h cls d H' g' (x.trans e) S r
  | bad => exact h
/-- one step, then the rest -/
theorem After.bind (m : Mono0 R) {f : Ev γ} {h : γ → Ev α} (q : After k W R σ env g st H Q (Ev.bind f h env st)) :
    After k W R1 σ env g st H (fun v H1 => ∃ a st1 g1, Ext g env st σ H g1 env st1 σ H1 ∧ SR k g1 env st1 σ H1 ∧ R1 H env st1 σ g1 H1 a v ∧ After k W R σ env g1 st1 H1 Q (h a env st1)) (f env st) := by
  unfold Ev.bind at q
  cases e : f env st with
  | bad => rw [e] at q; exact q
  | err c vs st' => rw [e] at q; exact q
  | ok a st1 =>
    rw [e] at q
    exact fun v H1 g1 x S r => ⟨a, st1, g1, x, S, r, After.shift m x q⟩
theorem tR.bind (m : Mono0 R) {f : Ev γ} {h : γ → Ev α} (q : tR k W R (Ev.bind f h) σ H Q) :
    tR k W R1 f σ H (fun v H1 => ∃ g0 env st a st1 g1, Ext g0 env st σ H g1 env st1 σ H1 ∧ SR k g1 env st1 σ H1 ∧ R1 H env st1 σ g1 H1 a v ∧ After k W R σ env g1 st1 H1 Q (h a env st1)) := by
  obtain ⟨g, env, st, S, q⟩ := q
  exact ⟨g, env, st, S, (q.bind m).imp fun v H1 ⟨a, st1, g1, r⟩ => ⟨g, env, st, a, st1, g1, r⟩⟩
theorem After.then (m : Mono0 R) (S : SR k g env st σ H) {f : Ev γ} {h : γ → Ev α} (q : After k W R σ env g st H Q (Ev.bind f h env st)) :
    tR k W R1 f σ H (fun v H1 => ∃ a st1 g1, Ext g env st σ H g1 env st1 σ H1 ∧ SR k g1 env st1 σ H1 ∧ R1 H env st1 σ g1 H1 a v ∧ After k W R σ env g1 st1 H1 Q (h a env st1)) := ⟨g, env, st, S, q.bind m⟩
theorem After.pure (S : SR k g env st σ H) {a : α} {v : β} (q : After k W R σ env g st H Q (Ev.pure a env st)) (r : R H env st σ g H a v) : Q v H := q v H g Ext.refl S r
theorem After.opt {o : Option α} (q : After k W R σ env g st H Q (Ev.opt o env st)) : ∃ z, o = some z ∧ After k W R σ env g st H Q (.ok z st) := by
  cases o with
  | none => exact q.elim
  | some z => exact ⟨z, rfl, q⟩
/-- a narrower reading -/
theorem tR.imp {R' : Rdg α β} {f : Ev α} (i : ∀ env st σ g H0 H t v, SR k g env st σ H → R H0 env st σ g H t v → R' H0 env st σ g H t v) {σ : L2.St} {H : Hp} {Q : β → Hp → Prop} (h : tR k W R' f σ H Q) : tR k W R f σ H Q := by
  obtain ⟨g, env, st, S, q⟩ := h
  refine ⟨g, env, st, S, ?_⟩
  cases e : f env st with
  | ok t st' =>
    rw [e] at q
    exact fun v H' g' x S' r => q v H' g' x S' (i _ _ _ _ _ _ _ _ S' r)
  | err c vs st' => rw [e] at q; exact q
  | bad => rw [e] at q; exact q
theorem rS.b {H0 : Hp} {t : T} {v : V} (S : SR k g env st σ H) (h : rS k H0 env st σ g H t v) : RepB k g H t v := by
  rcases h with h | ⟨i, e1, e2⟩
  · exact .inl h
  · obtain ⟨a, e3, o⟩ := S.own i t e1
    rw [e2] at e3
    cases e3
    exact .inr ⟨a, rfl, o⟩
theorem rS.mono {H0 H0' : Hp} {t : T} {v : V} (h : GLe g g1) (q : rS k H0 env st σ g H t v) : rS k H0' env st1 σ g1 H1 t v := by
  rcases q with q | q
  · exact .inl (Rep.mono h _ _ q)
  · exact .inr q
/-- values are values that stand, too -/
theorem PE.toS {e : Expr} {f : EvT} (h : PE X e (tV k W f)) : PE X e (tS k W f) := Mp.PE.imp h fun σ H Q q => tR.imp (fun _ _ _ _ _ _ _ _ _ r => .inl r) q
theorem PE.toB {e : Expr} {f : EvT} (h : PE X e (tS k W f)) : PE X e (tB k W f) := Mp.PE.imp h fun σ H Q q => tR.imp (fun _ _ _ _ _ _ _ _ S r => rS.b S r) q
theorem PE.vB {e : Expr} {f : EvT} (h : PE X e (tV k W f)) : PE X e (tB k W f) := Mp.PE.toB (Mp.PE.toS h)
/-- what is new may be kept as a value -/
theorem rF.thaw {g0 : Gh} {env0 : En} {st0 : Store} {σ0 : L2.St} {H0 : Hp} {t : T} {v : V} (x : Ext g0 env0 st0 σ0 H0 g env st σ H) (S : SR k g env st σ H) (r : rF k H0 env st σ g H t v) :
    ∃ g', Ext g0 env0 st0 σ0 H0 g' env st σ H ∧ SR k g' env st σ H ∧ Rep k g' t v := by
  cases t with
  | lst xs =>
    obtain ⟨a, vs, rfl, h0, h, r, n⟩ := r
    obtain ⟨S1, le⟩ := S.freeze h n
    refine ⟨_, x.freeze (o := .lst vs) (fun z => absurd h0 z) (S.nof' n), S1, ?_⟩
    unfold Rep
    exact ⟨a, vs, rfl, upd_same, RepL.mono le _ _ r⟩
  | dct xs =>
    obtain ⟨a, vs, rfl, h0, h, r, n⟩ := r
    obtain ⟨S1, le⟩ := S.freeze h n
    refine ⟨_, x.freeze (o := .dK vs) (fun z => absurd h0 z) (S.nof' n), S1, ?_⟩
    unfold Rep
    exact ⟨a, vs, rfl, upd_same, RepE.mono le _ _ r⟩
  | _ => exact ⟨g, x, S, r⟩
theorem rd_thaw {f : EvT} {σ : L2.St} {H : Hp} {Q : VK} (q : tV k W f σ H Q) : tF k W f σ H Q := by
  obtain ⟨g, env, st, S, q⟩ := q
  refine ⟨g, env, st, S, ?_⟩
  cases e : f env st with
  | ok t st' =>
    rw [e] at q
    intro v H' g' x S' r
    obtain ⟨g2, x2, S2, r2⟩ := rF.thaw x S' r
    exact q v H' g2 x2 S2 r2
  | err c vs st' => rw [e] at q; exact q
  | bad => rw [e] at q; exact q
theorem PE.thaw {e : Expr} {f : EvT} (h : PE X e (tF k W f)) : PE X e (tV k W f) := Mp.PE.imp h fun σ H Q q => rd_thaw q
theorem pe_bad {e : Expr} : PE X e (tR k W (rV k) Ev.bad) := ⟨fun _ _ _ _ _ _ q => by obtain ⟨g, env, st, S, q⟩ := q; exact q.elim⟩
theorem pe_badF {e : Expr} : PE X e (tR k W (rF k) Ev.bad) := ⟨fun _ _ _ _ _ _ q => by obtain ⟨g, env, st, S, q⟩ := q; exact q.elim⟩

/-! ### names, constants -/
theorem sx_con {e : Expr} {v : V} {t : T} (h : PE X e (tC v)) (hr : ∀ g, Rep k g t v) : PE X e (tV k W (con t)) :=
  Mp.PE.imp h fun σ H Q ⟨g, env, st, S, q⟩ => q v H g Ext.refl S (hr g)
theorem sx_var {e : Expr} {i : Nat} (h : PE X e (tVar i)) : PE X e (tV k W (var i)) := by
  refine Mp.PE.imp h fun σ H Q ⟨g, env, st, S, q⟩ => ?_
  unfold var at q
  split at q
  · rename_i t e
    obtain ⟨v, e1, r⟩ := S.fr i t e
    exact ⟨v, e1, q v H g Ext.refl S r⟩
  · exact q.elim
theorem sx_peek {e : Expr} {i : Nat} (h : PE X e (tVar i)) : PE X e (tS k W (peek i)) := by
  refine Mp.PE.imp h fun σ H Q ⟨g, env, st, S, q⟩ => ?_
  unfold peek at q
  split at q
  · rename_i t e
    obtain ⟨v, e1, r⟩ := S.fr i t e
    exact ⟨v, e1, q v H g Ext.refl S (.inl r)⟩
  · rename_i t e
    obtain ⟨a, e1, r⟩ := S.own i t e
    exact ⟨.ref a, e1, q (.ref a) H g Ext.refl S (.inr ⟨i, e, e1⟩)⟩
  · exact q.elim

/-! ### operators -/
/-- a result: frozen, or new and nobody's -/
def pV (k : Gk) (g : Gh) (H : Hp) (z : T) (u : V) (H' : Hp) : Prop := ∃ g', Grow g H g' H' ∧ Rep k g' z u
def pF (k : Gk) (g : Gh) (H : Hp) (z : T) (u : V) (H' : Hp) : Prop := match z with
  | .lst xs => ∃ a vs, u = .ref a ∧ H a = none ∧ H' = upd H a (.lst vs) ∧ RepL k g xs vs
  | .dct xs => ∃ a vs, u = .ref a ∧ H a = none ∧ H' = upd H a (.dK vs) ∧ RepE k g xs vs
  | z => ∃ g', Grow g H g' H' ∧ Rep k g' z u
abbrev Post := Gh → Hp → T → V → Hp → Prop
def PostOk (k : Gk) (p : Post) (R : Rdg T V) : Prop := ∀ (g : Gh) (env : En) (st : Store) (σ : L2.St) (H0 H : Hp) (z : T) (u : V) (H' : Hp), SR k g env st σ H → Dom H0 H → p g H z u H' → ∃ g', Ext g env st σ H g' env st σ H' ∧ SR k g' env st σ H' ∧ R H0 env st σ g' H' z u
theorem post_V : PostOk k (pV k) (rV k) := fun g env st σ H0 H z u H' S d ⟨g', gr, r⟩ => ⟨g', Ext.grow S gr, S.grow gr, r⟩
theorem post_F : PostOk k (pF k) (rF k) := fun g env st σ H0 H z u H' S d p => by
  cases z with
  | lst xs =>
    obtain ⟨a, vs, rfl, h, rfl, r⟩ := p
    obtain ⟨S1, x1, n1⟩ := S.skip (o := .lst vs) h
    exact ⟨g, x1, S1, a, vs, rfl, d.none h, upd_same, r, n1⟩
  | dct xs =>
    obtain ⟨a, vs, rfl, h, rfl, r⟩ := p
    obtain ⟨S1, x1, n1⟩ := S.skip (o := .dK vs) h
    exact ⟨g, x1, S1, a, vs, rfl, d.none h, upd_same, r, n1⟩
  | _ => obtain ⟨g', gr, r⟩ := p; exact ⟨g', Ext.grow S gr, S.grow gr, r⟩
theorem dom_of {g0 g : Gh} {env0 env : En} {st0 st : Store} {σ0 σ : L2.St} {H0 H : Hp} (x : Ext g0 env0 st0 σ0 H0 g env st σ H) : Dom H0 H := x.there
/-- what an operator of the model does where op tells -/
def OpOk (k : Gk) (p : Post) (r : R2) (op : Store → T → T → Option T) : Prop := ∀ st x y z, op st x y = some z → ∀ (g : Gh) (env : En) (σ : L2.St) (H : Hp) (v w : V) (Q : VK), SR k g env st σ H → RepB k g H x v → RepB k g H y w →
  (∀ u H', p g H z u H' → Q u H') → r v w H Q
def OpOk1 (k : Gk) (p : Post) (r : V → Hp → VK → Prop) (op : Store → T → Option T) : Prop := ∀ st x z, op st x = some z → ∀ (g : Gh) (env : En) (σ : L2.St) (H : Hp) (v : V) (Q : VK), SR k g env st σ H → RepB k g H x v →
  (∀ u H', p g H z u H' → Q u H') → r v H Q
theorem ev2_S (op : T → T → Option T) (fa fb : EvT) : ev2 op fa fb = ev2S (fun _ => op) fa fb := rfl
theorem ev1_S (op : T → Option T) (fa : EvT) : ev1 op fa = ev1S (fun _ => op) fa := rfl
theorem rd_ev2S {p : Post} {R : Rdg T V} (m : Mono0 R) (hp : PostOk k p R) {fa fb : EvT} {op : Store → T → T → Option T} {r : R2} (ho : OpOk k p r op) {σ : L2.St} {H : Hp} {Q : VK} (q : tR k W R (ev2S op fa fb) σ H Q) : tOp r (tS k W fa) (tB k W fb) σ H Q := by
  obtain ⟨g, env, st, S, q⟩ := q
  refine ⟨g, env, st, S, (q.bind (R1 := rS k) m).imp fun v H1 ⟨x, st1, g1, x1, S1, r1, q1⟩ => ⟨g1, env, st1, S1, (q1.bind (R1 := rB k) m).imp fun w H2 ⟨y, st2, g2, x2, S2, r2, q2⟩ => ?_⟩⟩
  obtain ⟨z, eo, q3⟩ := After.opt (o := op st2 x y) q2
  refine ho st2 x y z eo g2 env σ H2 v w Q S2 (rS.b S2 (rS.mono (st1 := st2) (H0' := H) (H1 := H2) x2.le r1)) r2 fun u H' pz => ?_
  obtain ⟨g', x3, S3, r3⟩ := hp g2 env st2 σ H2 H2 z u H' S2 (fun _ h => h) pz
  exact q3 u H' g' x3 S3 r3
theorem sx_ev2S {p : Post} {R : Rdg T V} (m : Mono0 R) (hp : PostOk k p R) {fa fb : EvT} {op : Store → T → T → Option T} {r : R2} {e : Expr} (ho : OpOk k p r op) (h : PE X e (tOp r (tS k W fa) (tB k W fb))) : PE X e (tR k W R (ev2S op fa fb)) :=
  Mp.PE.imp h fun σ H Q q => rd_ev2S m hp ho q
theorem sx_ev1S {p : Post} {R : Rdg T V} (m : Mono0 R) (hp : PostOk k p R) {fa : EvT} {op : Store → T → Option T} {r : V → Hp → VK → Prop} {e : Expr} (ho : OpOk1 k p r op) (h : PE X e (fun σ H Q => tB k W fa σ H fun x H1 => r x H1 Q)) : PE X e (tR k W R (ev1S op fa)) := by
  refine Mp.PE.imp h fun σ H Q ⟨g, env, st, S, q⟩ => ⟨g, env, st, S, (q.bind (R1 := rB k) m).imp fun v H1 ⟨x, st1, g1, x1, S1, r1, q1⟩ => ?_⟩
  obtain ⟨z, eo, q3⟩ := After.opt (o := op st1 x) q1
  refine ho st1 x z eo g1 env σ H1 v Q S1 r1 fun u H' pz => ?_
  obtain ⟨g', x3, S3, r3⟩ := hp g1 env st1 σ H1 H1 z u H' S1 (fun _ h => h) pz
  exact q3 u H' g' x3 S3 r3

/-! ### several values -/
theorem sx_nil {e : List Expr} (h : PA X e tNil) : PA X e (tL k W []) :=
  Mp.PA.imp h fun σ H Q ⟨g, env, st, S, q⟩ => q [] H g Ext.refl S (RepL.nil.mpr rfl)
theorem sx_cons {e : List Expr} {f : EvT} {fs : List EvT} (h : PA X e (tCons (tV k W f) (tL k W fs))) : PA X e (tL k W (f :: fs)) := by
  refine Mp.PA.imp h fun σ H Q ⟨g, env, st, S, q⟩ => ⟨g, env, st, S, (q.bind (R1 := rV k) m0L).imp fun v H1 ⟨x, st1, g1, x1, S1, r1, q1⟩ => ⟨g1, env, st1, S1, (q1.bind (R1 := rL k) m0L).imp fun w H2 ⟨y, st2, g2, x2, S2, r2, q2⟩ => ?_⟩⟩
  exact q2.pure S2 (RepL.cons.mpr ⟨v, w, rfl, Rep.mono x2.le _ _ r1, r2⟩)
/-- a display, a call of a built-in upon values -/
def OpOkL (k : Gk) (p : Post) (r : List V → Hp → VK → Prop) (op : List T → Option T) : Prop := ∀ xs z, op xs = some z → ∀ (g : Gh) (env : En) (st : Store) (σ : L2.St) (H : Hp) (vs : List V) (Q : VK), SR k g env st σ H → RepL k g xs vs →
  (∀ u H', p g H z u H' → Q u H') → r vs H Q
theorem sx_evN {p : Post} {R : Rdg T V} (m : Mono0 R) (hp : PostOk k p R) {fs : List EvT} {op : List T → Option T} {r : List V → Hp → VK → Prop} {e : Expr} (ho : OpOkL k p r op) (h : PE X e (fun σ H Q => tL k W fs σ H fun xs H1 => r xs H1 Q)) : PE X e (tR k W R (evN op fs)) := by
  refine Mp.PE.imp h fun σ H Q ⟨g, env, st, S, q⟩ => ⟨g, env, st, S, (q.bind (R1 := rL k) m).imp fun v H1 ⟨x, st1, g1, x1, S1, r1, q1⟩ => ?_⟩
  obtain ⟨z, eo, q3⟩ := q1.opt
  refine ho x z eo g1 env st1 σ H1 v Q S1 r1 fun u H' pz => ?_
  obtain ⟨g', x3, S3, r3⟩ := hp g1 env st1 σ H1 H1 z u H' S1 (fun _ h => h) pz
  exact q3 u H' g' x3 S3 r3

/-! ### tests -/
theorem rep_bl' {g : Gh} {b : Bool} : Rep k g (.bl b) (.bl b) := by unfold Rep; rfl
theorem bl_of {g : Gh} {b : Bool} {v : V} (h : Rep k g (.bl b) v) : v = .bl b := by unfold Rep at h; exact h
/-- a value as a test -/
theorem After.asB {R : Rdg Bool Bool} {Q : Bool → Hp → Prop} (S : SR k g env st σ H) {x : T} {v : V} (r : Rep k g x v) (q : After k W R σ env g st H Q (Mp.asB x env st)) : ∃ b, x = .bl b ∧ v = .bl b ∧ After k W R σ env g st H Q (.ok b st) := by
  cases x with
  | bl b => exact ⟨b, rfl, bl_of r, q⟩
  | _ => exact q.elim
theorem sx_testV {e : Expr} {f : EvT} (h : PT X e (tTest (tV k W f))) : PT X e (tT k W (testV f)) := by
  refine Mp.PT.imp h fun σ H Q ⟨g, env, st, S, q⟩ => ⟨g, env, st, S, (q.bind (R1 := rV k) m0T).imp fun v H1 ⟨x, st1, g1, x1, S1, r1, q1⟩ => ?_⟩
  obtain ⟨b, rfl, rfl, q2⟩ := After.asB S1 r1 q1
  exact ⟨b, rfl, q2 b H1 g1 Ext.refl S1 rfl⟩
theorem After.pick {f h : Ev α} {b : Bool} (S : SR k g env st σ H) (q : After k W R σ env g st H Q (Mp.pick f h b env st)) : if b = true then tR k W R f σ H Q else tR k W R h σ H Q := by
  cases b with
  | true => rw [if_pos rfl]; exact ⟨g, env, st, S, q⟩
  | false => rw [if_neg (by decide)]; exact ⟨g, env, st, S, q⟩
theorem tR_pure {a : α} {v : β} (hr : ∀ (H0 : Hp) (env : En) (st : Store) (σ : L2.St) (g : Gh) (H : Hp), R H0 env st σ g H a v) {σ : L2.St} {H : Hp} {Q : β → Hp → Prop} (q : tR k W R (Ev.pure a) σ H Q) : Q v H := by
  obtain ⟨g, env, st, S, q⟩ := q
  exact q.pure S (hr _ _ _ _ _ _)
theorem sx_andB {e : Expr} {f h' : EvB} (h : PW X e (tAnd (tT k W f) (tT k W h'))) : PW X e (tT k W (andB f h')) := by
  refine Mp.PW.imp h fun σ H Q ⟨g, env, st, S, q⟩ => ⟨g, env, st, S, (q.bind (R1 := rT) m0T).imp fun v H1 ⟨x, st1, g1, x1, S1, r1, q1⟩ => ?_⟩
  obtain rfl : x = v := r1
  have q2 := After.pick S1 q1
  cases x with
  | true => simpa using q2
  | false => rw [if_neg (by decide)] at q2 ⊢; exact tR_pure (v := false) (fun _ _ _ _ _ _ => rfl) q2
theorem sx_orB {e : Expr} {f h' : EvB} (h : PW X e (tOr (tT k W f) (tT k W h'))) : PW X e (tT k W (orB f h')) := by
  refine Mp.PW.imp h fun σ H Q ⟨g, env, st, S, q⟩ => ⟨g, env, st, S, (q.bind (R1 := rT) m0T).imp fun v H1 ⟨x, st1, g1, x1, S1, r1, q1⟩ => ?_⟩
  obtain rfl : x = v := r1
  have q2 := After.pick S1 q1
  cases x with
  | false => simpa using q2
  | true => rw [if_pos rfl] at q2 ⊢; exact tR_pure (v := true) (fun _ _ _ _ _ _ => rfl) q2
theorem sx_notT {e : Expr} {f : EvB} (h : PT X e (L2.tNot (tT k W f))) : PT X e (tT k W (Mp.notT f)) := by
  refine Mp.PT.imp h fun σ H Q ⟨g, env, st, S, q⟩ => ⟨g, env, st, S, (q.bind (R1 := rT) m0T).imp fun v H1 ⟨x, st1, g1, x1, S1, r1, q1⟩ => ?_⟩
  obtain rfl : x = v := r1
  exact q1.pure S1 rfl
/-! ### and, or, not as values; a if t else b -/
/-- a value as a test, read as a value -/
theorem tV_of_test {f : EvT} {h : Bool → Ev α} (m : Mono0 R) (q : tR k W R ((testV f).bind h) σ H Q) :
    tV k W f σ H (fun v H1 => ∃ b g1 env st1, v = .bl b ∧ SR k g1 env st1 σ H1 ∧ After k W R σ env g1 st1 H1 Q (h b env st1)) := by
  obtain ⟨g, env, st, S, q⟩ := q
  have e : (testV f).bind h env st = f.bind (fun x => (Mp.asB x).bind h) env st := by
    unfold testV Ev.bind
    cases f env st <;> rfl
  rw [e] at q
  refine ⟨g, env, st, S, (q.bind (R1 := rV k) m).imp fun v H1 ⟨x, st1, g1, x1, S1, r1, q1⟩ => ?_⟩
  cases x with
  | bl b => exact ⟨b, g1, env, st1, bl_of r1, S1, q1⟩
  | _ => exact q1.elim
theorem sx_andV {e : Expr} {f h' : EvT} (h : PE X e (tAndV (tV k W f) (tV k W h'))) : PE X e (tV k W (andV f h')) := by
  refine Mp.PE.imp h fun σ H Q q => ?_
  obtain ⟨g, env, st, S, q⟩ := tV_of_test m0V q
  refine ⟨g, env, st, S, q.imp fun v H1 ⟨b, g1, env1, st1, e, S1, q1⟩ => ⟨b, e, ?_⟩⟩
  have q2 := After.pick S1 q1
  cases b with
  | true => simpa using q2
  | false => rw [if_neg (by decide)] at q2 ⊢; exact tR_pure (v := V.bl false) (fun _ _ _ _ _ _ => rep_bl') q2
theorem sx_orV {e : Expr} {f h' : EvT} (h : PE X e (tOrV (tV k W f) (tV k W h'))) : PE X e (tV k W (orV f h')) := by
  refine Mp.PE.imp h fun σ H Q q => ?_
  obtain ⟨g, env, st, S, q⟩ := tV_of_test m0V q
  refine ⟨g, env, st, S, q.imp fun v H1 ⟨b, g1, env1, st1, e, S1, q1⟩ => ⟨b, e, ?_⟩⟩
  have q2 := After.pick S1 q1
  cases b with
  | false => simpa using q2
  | true => rw [if_pos rfl] at q2 ⊢; exact tR_pure (v := V.bl true) (fun _ _ _ _ _ _ => rep_bl') q2
theorem sx_notV {e : Expr} {f : EvT} (h : PE X e (tNotV (tV k W f))) : PE X e (tV k W (notV f)) := by
  refine Mp.PE.imp h fun σ H Q q => ?_
  obtain ⟨g, env, st, S, q⟩ := tV_of_test m0V q
  exact ⟨g, env, st, S, q.imp fun v H1 ⟨b, g1, env1, st1, e, S1, q1⟩ => ⟨b, e, q1.pure S1 rep_bl'⟩⟩
theorem sx_ite {e : Expr} {c : EvB} {f h' : EvT} (h : PE X e (tIf (tT k W c) (tV k W f) (tV k W h'))) : PE X e (tV k W (iteE c f h')) := by
  refine Mp.PE.imp h fun σ H Q ⟨g, env, st, S, q⟩ => ⟨g, env, st, S, (q.bind (R1 := rT) m0V).imp fun v H1 ⟨x, st1, g1, x1, S1, r1, q1⟩ => ?_⟩
  obtain rfl : x = v := r1
  exact After.pick S1 q1
/-- a < b < c -/
theorem rd_chain {fa fb fc : EvT} {op op' : T → T → Option T} {r r' : R2} (ho : OpOk k (pV k) r fun _ => op) (ho' : OpOk k (pV k) r' fun _ => op') {σ : L2.St} {H : Hp} {Q : VK} (q : tV k W (chain op op' fa fb fc) σ H Q) : tChain r r' (tV k W fa) (tV k W fb) (tV k W fc) σ H Q := by
  obtain ⟨g, env, st, S, q⟩ := q
  refine ⟨g, env, st, S, (q.bind (R1 := rV k) m0V).imp fun v H1 ⟨x, st1, g1, x1, S1, r1, q1⟩ => ⟨g1, env, st1, S1, (q1.bind (R1 := rV k) m0V).imp fun w H2 ⟨y, st2, g2, x2, S2, r2, q2⟩ => ?_⟩⟩
  cases eo : op x y with
  | none => rw [eo] at q2; exact q2.elim
  | some z =>
    rw [eo] at q2
    refine ho st2 x y z eo g2 env σ H2 v w _ S2 (.inl (Rep.mono x2.le _ _ r1)) (.inl r2) fun u H3 pz => ?_
    obtain ⟨g3, x3, S3, r3⟩ := post_V g2 env st2 σ H2 H2 z u H3 S2 (fun _ h => h) pz
    have q3 : After k W (rV k) σ env g2 st2 H2 Q (((Mp.asB z).bind (Mp.pick (fc.bind fun w => Ev.opt (op' y w)) (Ev.pure (.bl false)))) env st2) := q2
    cases z with
    | bl b =>
      refine ⟨b, bl_of r3, ?_⟩
      have q4 : After k W (rV k) σ env g2 st2 H2 Q (Mp.pick (fc.bind fun w => Ev.opt (op' y w)) (Ev.pure (.bl false)) b env st2) := q3
      have q5 := After.shift (R := rV k) m0V x3 q4
      cases b with
      | false => rw [if_neg (by decide)]; exact q5.pure S3 rep_bl'
      | true =>
        rw [if_pos rfl]
        refine ⟨g3, env, st2, S3, (After.bind (R1 := rV k) m0V q5).imp fun w' H4 ⟨t, st4, g4, x4, S4, r4, q6⟩ => ?_⟩
        obtain ⟨z', eo', q7⟩ := q6.opt
        refine ho' st4 y t z' eo' g4 env σ H4 w w' Q S4 (.inl (Rep.mono (x3.le.trans x4.le) _ _ r2)) (.inl r4) fun u' H' pz' => ?_
        obtain ⟨g5, x5, S5, r5⟩ := post_V g4 env st4 σ H4 H4 z' u' H' S4 (fun _ h => h) pz'
        exact q7 u' H' g5 x5 S5 r5
    | _ => exact q3.elim
theorem sx_chain {fa fb fc : EvT} {op op' : T → T → Option T} {r r' : R2} {e : Expr} (ho : OpOk k (pV k) r fun _ => op) (ho' : OpOk k (pV k) r' fun _ => op') (h : PE X e (tChain r r' (tV k W fa) (tV k W fb) (tV k W fc))) : PE X e (tV k W (chain op op' fa fb fc)) :=
  Mp.PE.imp h fun σ H Q q => rd_chain ho ho' q
end
end Mp


set_option Elab.async false
set_option linter.all false
set_option maxRecDepth 100000
set_option maxHeartbeats 1000000
/-! Ops: the operators. -/
namespace Mp
open PySem PySem.Spec PyProof.Rows L2
theorem sizeB {n : Nat} (h : n ≤ 100000) : n ≤ sizeLine := by rw [sizeLine_eq]; omega
section
variable {k : Gk} {g : Gh} {v : V}
theorem Rep.non (h : Rep k g .non v) : v = .non := by unfold Rep at h; exact h
theorem Rep.bl {b : Bool} (h : Rep k g (.bl b) v) : v = .bl b := by unfold Rep at h; exact h
theorem Rep.int {i : Int} (h : Rep k g (.int i) v) : v = .int i := by unfold Rep at h; exact h
theorem Rep.str {i : Str} (h : Rep k g (.str i) v) : v = .str i := by unfold Rep at h; exact h
theorem Rep.tup {xs : List T} (h : Rep k g (.tup xs) v) : ∃ a vs, v = .ref a ∧ SqT k.K g.F a vs ∧ RepL k g xs vs := by unfold Rep at h; exact h
theorem Rep.lst {xs : List T} (h : Rep k g (.lst xs) v) : ∃ a vs, v = .ref a ∧ g.F a = some (.lst vs) ∧ RepL k g xs vs := by unfold Rep at h; exact h
theorem Rep.dct {xs : List T} (h : Rep k g (.dct xs) v) : ∃ a vs, v = .ref a ∧ g.F a = some (.dK vs) ∧ RepE k g xs vs := by unfold Rep at h; exact h
theorem Rep.obj {n : Nat} (h : Rep k g (.obj n) v) : v = .ref (g.α n) ∧ n < g.B := by unfold Rep at h; exact h
theorem rep_non : Rep k g .non .non := by unfold Rep; rfl
theorem rep_bl {b : Bool} : Rep k g (.bl b) (.bl b) := by unfold Rep; rfl
theorem rep_int {i : Int} : Rep k g (.int i) (.int i) := by unfold Rep; rfl
theorem rep_str {i : Str} : Rep k g (.str i) (.str i) := by unfold Rep; rfl
theorem rep_tup {xs : List T} {a : Addr} {vs : List V} (h : SqT k.K g.F a vs) (r : RepL k g xs vs) : Rep k g (.tup xs) (.ref a) := by unfold Rep; exact ⟨a, vs, rfl, h, r⟩
theorem rep_lst {xs : List T} {a : Addr} {vs : List V} (h : g.F a = some (.lst vs)) (r : RepL k g xs vs) : Rep k g (.lst xs) (.ref a) := by unfold Rep; exact ⟨a, vs, rfl, h, r⟩
theorem rep_dct {xs : List T} {a : Addr} {vs : List (Key × V)} (h : g.F a = some (.dK vs)) (r : RepE k g xs vs) : Rep k g (.dct xs) (.ref a) := by unfold Rep; exact ⟨a, vs, rfl, h, r⟩
section
variable {H : Hp}
theorem RepB.non (h : RepB k g H .non v) : v = .non := h.elim Rep.non fun ⟨_, _, o⟩ => o.elim
theorem RepB.bl {b : Bool} (h : RepB k g H (.bl b) v) : v = .bl b := h.elim Rep.bl fun ⟨_, _, o⟩ => o.elim
theorem RepB.int {i : Int} (h : RepB k g H (.int i) v) : v = .int i := h.elim Rep.int fun ⟨_, _, o⟩ => o.elim
theorem RepB.str {i : Str} (h : RepB k g H (.str i) v) : v = .str i := h.elim Rep.str fun ⟨_, _, o⟩ => o.elim
theorem RepB.tup {xs : List T} (h : RepB k g H (.tup xs) v) : ∃ a vs, v = .ref a ∧ SqT k.K g.F a vs ∧ RepL k g xs vs := h.elim Rep.tup fun ⟨_, _, o⟩ => o.elim
theorem RepB.obj {n : Nat} (h : RepB k g H (.obj n) v) : v = .ref (g.α n) ∧ n < g.B := h.elim Rep.obj fun ⟨_, _, o⟩ => o.elim
theorem RepB.lst {xs : List T} (hs : FSub g.F H) (h : RepB k g H (.lst xs) v) : ∃ a vs, v = .ref a ∧ H a = some (.lst vs) ∧ RepL k g xs vs := h.elim (fun h => let ⟨a, vs, e, f, r⟩ := h.lst; ⟨a, vs, e, hs _ _ f, r⟩) fun ⟨a, e, vs, o, r⟩ => ⟨a, vs, e, o, r⟩
theorem RepB.dct {xs : List T} (hs : FSub g.F H) (h : RepB k g H (.dct xs) v) : ∃ a vs, v = .ref a ∧ H a = some (.dK vs) ∧ RepE k g xs vs := h.elim (fun h => let ⟨a, vs, e, f, r⟩ := h.dct; ⟨a, vs, e, hs _ _ f, r⟩) fun ⟨a, e, vs, o, r⟩ => ⟨a, vs, e, o, r⟩
end
theorem put_at (g : Gh) (p : Addr) (o : HO) : (g.put p o).F p = some o := upd_same
end
section
variable {k : Gk} {g : Gh} {env : En} {st : Store} {σ : L2.St} {H : Hp}
/-- a new list, tuple -/
theorem new_lst (S : SR k g env st σ H) {p : Addr} (hp : H p = none) {xs : List T} {vs : List V} (r : RepL k g xs vs) : Grow g H (g.put p (.lst vs)) (upd H p (.lst vs)) ∧ Rep k (g.put p (.lst vs)) (.lst xs) (.ref p) :=
  have x := Grow.one (o := .lst vs) S hp
  ⟨x, rep_lst (put_at _ _ _) (RepL.mono x.le _ _ r)⟩
theorem new_tup (S : SR k g env st σ H) {p : Addr} (hp : H p = none) {xs : List T} {vs : List V} (r : RepL k g xs vs) : Grow g H (g.put p (.tup vs)) (upd H p (.tup vs)) ∧ Rep k (g.put p (.tup vs)) (.tup xs) (.ref p) :=
  have x := Grow.one (o := .tup vs) S hp
  ⟨x, rep_tup (.inl (.inl (put_at _ _ _))) (RepL.mono x.le _ _ r)⟩
theorem SR.tup (S : SR k g env st σ H) {a : Addr} {vs : List V} (h : SqT k.K g.F a vs) : SqT k.K H a vs := Mp.SqT.fmono S.sub h
theorem SR.lst (S : SR k g env st σ H) {a : Addr} {vs : List V} (h : g.F a = some (.lst vs)) : H a = some (.lst vs) := S.sub _ _ h
end

/-! ### + - * // % ** -/
section
variable {k : Gk} {X : Cx}
def rAddM (k : Gk) : R2 := fun x y H Q => rI0 (fun i j => .int (i + j)) x y H Q ∨ (∃ i j, x = .str i ∧ y = .str j ∧ i.length + j.length ≤ sizeLine ∧ Q (.str (i ++ j)) H) ∨ rCatA k.K x y H Q ∨ rCat x y H Q
theorem op_addM (hK : X.K = k.K) : OpR X (binaryOp .Add) (rAddM k) := by
  have h : OpR X (binaryOp .Add) (rCatA k.K) := by rw [← hK]; exact op_catA
  exact (op_add).or (op_add_str.or (h.or op_cat))
theorem ok_add : OpOk k (pF k) (rAddM k) (fun _ => opAdd) := by
  intro st x y z e g env σ H v w Q S rx ry q
  cases x <;> cases y <;> simp only [opAdd] at e <;> try (cases e; done)
  · cases e
    exact .inl ⟨_, _, rx.int, ry.int, q _ H ⟨g, Grow.refl S, rep_int⟩⟩
  · split at e
    · rename_i hz
      cases e
      exact .inr (.inl ⟨_, _, rx.str, ry.str, sizeB hz, q _ H ⟨g, Grow.refl S, rep_str⟩⟩)
    · cases e
  · split at e
    · rename_i xs ys hz
      cases e
      obtain ⟨a, vs, rfl, h1, r1⟩ := rx.tup
      obtain ⟨b, ws, rfl, h2, r2⟩ := ry.tup
      have l1 := r1.length
      have l2 := r2.length
      refine .inr (.inr (.inl ⟨a, b, vs, ws, rfl, rfl, S.tup h1, S.tup h2, sizeB (by omega), fun h0 => ?_, fun _ h0 => ?_, fun _ _ p hp => ?_⟩))
      · have : xs = [] := List.eq_nil_of_length_eq_zero (by rw [l1, h0]; rfl)
        subst this
        exact q _ H ⟨g, Grow.refl S, (rep_tup h2 r2)⟩
      · have : ys = [] := List.eq_nil_of_length_eq_zero (by rw [l2, h0]; rfl)
        subst this
        rw [List.append_nil] at q
        exact q _ H ⟨g, Grow.refl S, (rep_tup h1 r1)⟩
      · obtain ⟨x, r⟩ := new_tup S hp (r1.append r2)
        exact q _ _ ⟨_, x, r⟩
    · cases e
  · split at e
    · rename_i xs ys hz
      cases e
      obtain ⟨a, vs, rfl, h1, r1⟩ := rx.lst S.sub
      obtain ⟨b, ws, rfl, h2, r2⟩ := ry.lst S.sub
      have l1 := r1.length
      have l2 := r2.length
      refine .inr (.inr (.inr ⟨a, b, vs, ws, rfl, rfl, h1, h2, sizeB (by omega), fun p hp => ?_⟩))
      exact q _ _ ⟨p, _, rfl, hp, rfl, r1.append r2⟩
    · cases e
theorem ok_sub : OpOk k (pF k) (rI0 fun i j => .int (i - j)) (fun _ => opSub) := by
  intro st x y z e g env σ H v w Q S rx ry q
  cases x <;> cases y <;> simp only [opSub] at e <;> try (cases e; done)
  cases e
  exact ⟨_, _, rx.int, ry.int, q _ H ⟨g, Grow.refl S, rep_int⟩⟩
theorem ok_div : OpOk k (pF k) (rI CDivW fun i j => .int (i / j)) (fun _ => opDiv) := by
  intro st x y z e g env σ H v w Q S rx ry q
  cases x <;> cases y <;> simp only [opDiv] at e <;> try (cases e; done)
  split at e
  · rename_i h
    cases e
    exact ⟨_, _, rx.int, ry.int, wide_div (b := 2000) h.1 (by omega) (by decide) (by decide), q _ H ⟨g, Grow.refl S, rep_int⟩⟩
  · cases e
theorem ok_mod : OpOk k (pF k) (rI (fun _ j => 0 < j) fun i j => .int (i % j)) (fun _ => opMod) := by
  intro st x y z e g env σ H v w Q S rx ry q
  cases x <;> cases y <;> simp only [opMod] at e <;> try (cases e; done)
  split at e
  · rename_i h
    cases e
    exact ⟨_, _, rx.int, ry.int, h, q _ H ⟨g, Grow.refl S, rep_int⟩⟩
  · cases e
theorem ok_pow : OpOk k (pF k) (rI CPow fun i j => .int (i ^ j.toNat)) (fun _ => opPow) := by
  intro st x y z e g env σ H v w Q S rx ry q
  cases x <;> cases y <;> simp only [opPow] at e <;> try (cases e; done)
  split at e
  · rename_i h
    cases e
    exact ⟨_, _, rx.int, ry.int, ⟨h.1, by omega, h.2.2⟩, q _ H ⟨g, Grow.refl S, rep_int⟩⟩
  · cases e
/-- tuple * int: whatever the number -/
def rRepA (K : PySem.W.Frag) : R2 := fun x y H Q => ∃ l k xs, x = .ref l ∧ y = .int k ∧ SqT K H l xs ∧ -(2 ^ 62) < k ∧ k < 2 ^ 62 ∧ xs.length * k.toNat ≤ 100000 ∧
  (xs = [] ∨ k = 1 → Q (.ref l) H) ∧ ∀ p, H p = none → Q (.ref p) (upd H p (.tup (List.replicate k.toNat xs).flatten))
theorem tuple_mul_same (l : Addr) (items : Array Value) (n : Nat) (dd : Option Addr) (sl : Array (Option Value)) (x : Int) (u : Tok) (c0 : (decide (x < -(2 ^ 63)) || decide (x ≥ 2 ^ 63)) = false) (c1 : (items.isEmpty || x == 1) = true) :
    Meets (Builtin.«tuple.__mul__» ⟨[.ref l, .int x u], []⟩) (fun _ R s => s.heap.get? l = some { cls := .type "tuple", dict := dd, data := .seq items n, slots := sl } ∧
      R (.ok (.ret (Value.ref l))) s) :=
  .of_wp fun prog w A R s h => by
    obtain ⟨hp, g, d, tk, os⟩ := s
    obtain ⟨hl, h⟩ := h
    have f1 := AutoSeq1.idx_int
    wp_walk using wpAny_loadPart' hl
    repeat (first
      | (refine wpAny_ite_false (decide_eq_false (by rw [c0]; exact Bool.false_ne_true)) ?_; wp_walk using wpAny_loadPart' hl)
      | (refine wpAny_ite_true (decide_eq_true c1) ?_; wp_walk using wpAny_loadPart' hl))
    exact ⟨_, rfl, h⟩
theorem tuple_mul_none (l : Addr) (items : Array Value) (n : Nat) (dd : Option Addr) (sl : Array (Option Value)) (x : Int) (u : Tok) (c0 : (decide (x < -(2 ^ 63)) || decide (x ≥ 2 ^ 63)) = false) (c1 : (items.isEmpty || x == 1) = false) (c2 : (decide (x ≤ 0) || items.isEmpty) = true) :
    Meets (Builtin.«tuple.__mul__» ⟨[.ref l, .int x u], []⟩) (fun _ R s => s.heap.get? l = some { cls := .type "tuple", dict := dd, data := .seq items n, slots := sl } ∧
      R (.ok (.ret (Value.ref s.heap.objs.size))) { s with heap := s.heap.push { cls := Value.type "tuple", data := Data.seq #[] }, toks := s.toks }) :=
  .of_wp fun prog w A R s h => by
    obtain ⟨hp, g, d, tk, os⟩ := s
    obtain ⟨hl, h⟩ := h
    have f1 := AutoSeq1.idx_int
    wp_walk using wpAny_loadPart' hl
    repeat (first
      | (refine wpAny_ite_false (decide_eq_false (by rw [c0]; exact Bool.false_ne_true)) ?_; wp_walk using wpAny_loadPart' hl)
      | (refine wpAny_ite_false (decide_eq_false (by rw [c1]; exact Bool.false_ne_true)) ?_; wp_walk using wpAny_loadPart' hl)
      | (refine wpAny_ite_true (decide_eq_true c2) ?_; wp_walk using wpAny_loadPart' hl))
    exact ⟨_, rfl, h⟩
theorem vals_nil {vs : List V} {us : List Value} (r : Vals vs us) : us.isEmpty = vs.isEmpty := by cases r <;> rfl
theorem op_repA (hK : X.K = k.K) : OpR X (binaryOp .Mult) (rRepA k.K) := by
  intro pins s σ H x y v u Q I rx ry h
  obtain ⟨l, n, xs, rfl, rfl, hT, hlo, hhi, hz, q0, q⟩ := h
  rw [← hK] at hT
  cases rx
  obtain ⟨t, rfl⟩ := ry
  obtain ⟨its, r, ⟨⟨cls, dd, data, sl⟩, ho, hc, m, hd⟩, hs⟩ := I.tuple hT
  simp only at hc hd
  subst hc hd
  have hle : its.length = xs.length := r.length.symm
  have hemp : its.toArray.isEmpty = xs.isEmpty := by
    have := vals_nil r
    simpa using this
  have c0 : (decide (n < -(2 ^ 63)) || decide (n ≥ 2 ^ 63)) = false := by
    rw [decide_eq_false (by omega), decide_eq_false (by omega)] <;> rfl
  by_cases h1 : xs = [] ∨ n = 1
  · have c1 : (its.toArray.isEmpty || n == 1) = true := by
      rw [hemp]
      rcases h1 with h1 | h1
      · rw [h1]; rfl
      · rw [h1]; simp
    refine wpAny_binaryOp_repeat_ref (T := "tuple") (U := "int") (by decide) ⟨_, ho, rfl⟩ (fun s' => typeIs_int s' n t) noFill_tuple_mul F.fills_int_mul F.slot_int_rmul repeat_tuple F.slot_int_index.lookup
      (call_meets F.slot_int_rmul (typeIs_int s n t) F.entry_int_rmul (F.args_int_rmul_2 _ _) (int_rmul_tuple n t l its.toArray m dd sl)
        ⟨ho, rfl, ⟨_, ho, rfl⟩, call_meets F.slot_tuple_mul ⟨_, ho, rfl⟩ F.entry_tuple_mul (F.args_tuple_mul_2 _ _) (tuple_mul_same l its.toArray m dd sl n t c0 c1) ⟨ho, ?_⟩⟩)
    exact ⟨.ref l, H, I, rfl, q0 h1⟩
  · have hne : xs ≠ [] := fun e => h1 (.inl e)
    have hn1 : n ≠ 1 := fun e => h1 (.inr e)
    have hi : its.toArray.isEmpty = false := by
      rw [hemp]
      cases xs with
      | nil => exact absurd rfl hne
      | cons a b => rfl
    have c1 : (its.toArray.isEmpty || n == 1) = false := by
      rw [hi, Bool.false_or]
      exact beq_eq_false_iff_ne.mpr hn1
    by_cases h2 : n ≤ 0
    · have c2 : (decide (n ≤ 0) || its.toArray.isEmpty) = true := by rw [decide_eq_true h2]; rfl
      have e0 : n.toNat = 0 := by omega
      rw [e0] at q
      refine wpAny_binaryOp_repeat_ref (T := "tuple") (U := "int") (by decide) ⟨_, ho, rfl⟩ (fun s' => typeIs_int s' n t) noFill_tuple_mul F.fills_int_mul F.slot_int_rmul repeat_tuple F.slot_int_index.lookup
        (call_meets F.slot_int_rmul (typeIs_int s n t) F.entry_int_rmul (F.args_int_rmul_2 _ _) (int_rmul_tuple n t l its.toArray m dd sl)
          ⟨ho, rfl, ⟨_, ho, rfl⟩, call_meets F.slot_tuple_mul ⟨_, ho, rfl⟩ F.entry_tuple_mul (F.args_tuple_mul_2 _ _) (tuple_mul_none l its.toArray m dd sl n t c0 c1 c2) ⟨ho, ?_⟩⟩)
      have hf : H s.heap.objs.size = none := I.hok.fresh (Nat.le_refl _)
      refine ⟨.ref s.heap.objs.size, upd H s.heap.objs.size (.tup []), I.laid (t' := s.toks) (fun b u e => Heap.get?_push_of_some _ e) (Nat.le_refl _) ?_, rfl, q _ hf⟩
      exact ⟨Nat.zero_le _, [], .nil, _, Heap.get?_push_size _ rfl, rfl, 0, rfl⟩
    · have hm : ((its.toArray.size : Nat) : Int) * n ≤ 1000000 := by
        have e1 : (((xs.length * n.toNat : Nat)) : Int) = (xs.length : Int) * n := by
          rw [Int.natCast_mul, Int.toNat_of_nonneg (by omega)]
        rw [List.size_toArray, hle, ← e1]
        omega
      have flen : (List.replicate n.toNat its).flatten.length ≤ sizeLine := by
        rw [PyProof.Rows.lm_len_rep_flat, hle, Nat.mul_comm]
        exact sizeB hz
      have c2 : (decide (n ≤ 0) || its.toArray.isEmpty) = false := by
        rw [hi, Bool.or_false]
        exact decide_eq_false h2
      have c4 : Builtin.Tuple.tupleTooMany (((its.toArray.size : Nat) : Int) * n) = false := by
        unfold Builtin.Tuple.tupleTooMany
        rw [sizeLine_eq]
        exact decide_eq_false (by omega)
      refine wpAny_binaryOp_repeat_ref (T := "tuple") (U := "int") (by decide) ⟨_, ho, rfl⟩ (fun s' => typeIs_int s' n t) noFill_tuple_mul F.fills_int_mul F.slot_int_rmul repeat_tuple F.slot_int_index.lookup
        (call_meets F.slot_int_rmul (typeIs_int s n t) F.entry_int_rmul (F.args_int_rmul_2 _ _) (int_rmul_tuple n t l its.toArray m dd sl)
          ⟨ho, rfl, ⟨_, ho, rfl⟩, call_meets F.slot_tuple_mul ⟨_, ho, rfl⟩ F.entry_tuple_mul (F.args_tuple_mul_2 _ _) (tuple_mulW l its.toArray m dd sl n t c0 c1 c2 (by omega) c4 (by rw [size_rep, List.size_toArray]; exact flen)) ⟨ho, ?_⟩⟩)
      rw [size_rep]
      have hf : H s.heap.objs.size = none := I.hok.fresh (Nat.le_refl _)
      have rr : Vals (List.replicate n.toNat xs).flatten (List.replicate n.toNat its).flatten := by
        clear q q0 hlo hhi hz flen hm c0 c1 c2 c4 h1 h2 hn1
        generalize n.toNat = j
        induction j with
        | zero => exact .nil
        | succ j ih =>
          rw [List.replicate_succ, List.replicate_succ, List.flatten_cons, List.flatten_cons]
          exact r.append ih
      refine ⟨.ref s.heap.objs.size, upd H s.heap.objs.size (.tup _), I.laid (t' := s.toks) (fun b u e => Heap.get?_push_of_some _ e) (Nat.le_refl _) ?_, rfl, q _ hf⟩
      exact ⟨by rw [rr.length]; exact flen, _, rr, _, Heap.get?_push_size _ rfl, rfl, 0, rfl⟩
theorem rep_eq (xs : List T) : ∀ n, rep xs n = (List.replicate n xs).flatten
  | 0 => rfl
  | n + 1 => by
    rw [List.replicate_succ, List.flatten_cons, ← rep_eq xs n]
    rfl
theorem RepL.rep {g : Gh} {xs : List T} {vs : List V} (r : RepL k g xs vs) : ∀ n, RepL k g (rep xs n) (List.replicate n vs).flatten
  | 0 => by simp [Mp.rep, RepL.nil]
  | n + 1 => by
    rw [List.replicate_succ, List.flatten_cons]
    exact r.append (RepL.rep r n)
def rMulM (k : Gk) : R2 := fun x y H Q => rI CMulW (fun i j => .int (i * j)) x y H Q ∨ rRepA k.K x y H Q ∨ rRep x y H Q
theorem op_mulM (hK : X.K = k.K) : OpR X (binaryOp .Mult) (rMulM k) := op_mulW.or ((op_repA hK).or op_rep)
theorem bigI_lt {i : Int} (h : bigI i = true) : i.natAbs < 2 ^ 5000 := of_decide_eq_true h
theorem ok_mul : OpOk k (pF k) (rMulM k) (fun _ => opMul) := by
  intro st x y z e g env σ H v w Q S rx ry q
  cases x <;> cases y <;> simp only [opMul] at e <;> try (cases e; done)
  · split at e
    · rename_i h
      cases e
      rw [Bool.and_eq_true] at h
      exact .inl ⟨_, _, rx.int, ry.int, wide_mul (bigI_lt h.1) (bigI_lt h.2) (by decide) (by decide) (by decide), q _ H ⟨g, Grow.refl S, rep_int⟩⟩
    · cases e
  · split at e
    · rename_i xs n h
      cases e
      obtain ⟨a, vs, rfl, h1, r1⟩ := rx.tup
      have l1 := r1.length
      refine .inr (.inl ⟨a, n, vs, rfl, ry.int, S.tup h1, h.2.2, h.2.1, by rw [← l1]; exact h.1, fun h0 => ?_, fun p hp => ?_⟩)
      · have e1 : rep xs n.toNat = xs := by
          rcases h0 with h0 | h0
          · have : xs = [] := List.eq_nil_of_length_eq_zero (by rw [l1, h0]; rfl)
            subst this
            generalize n.toNat = j
            induction j with
            | zero => rfl
            | succ j ih => exact ih
          · rw [h0]
            exact List.append_nil _
        rw [e1] at q
        exact q _ H ⟨g, Grow.refl S, (rep_tup h1 r1)⟩
      · obtain ⟨x, r⟩ := new_tup S hp (r1.rep n.toNat)
        exact q _ _ ⟨_, x, r⟩
    · cases e
  · split at e
    · rename_i xs n h
      cases e
      obtain ⟨a, vs, rfl, h1, r1⟩ := rx.lst S.sub
      have l1 := r1.length
      refine .inr (.inr ⟨a, n, vs, rfl, ry.int, h1, by omega, by omega, sizeB (by rw [← l1]; exact h.1), fun p hp => ?_⟩)
      exact q _ _ ⟨p, _, rfl, hp, rfl, r1.rep n.toNat⟩
    · cases e

/-! ### comparisons -/
theorem ok_cmpI {p : Int → Int → Bool} {op : T → T → Option T} (ho : ∀ x y z, op x y = some z → ∃ i j, x = .int i ∧ y = .int j ∧ z = .bl (p i j)) : OpOk k (pF k) (rI0 fun i j => .bl (p i j)) (fun _ => op) := by
  intro st x y z e g env σ H v w Q S rx ry q
  obtain ⟨i, j, rfl, rfl, rfl⟩ := ho x y z e
  exact ⟨_, _, rx.int, ry.int, q _ H ⟨g, Grow.refl S, rep_bl⟩⟩
theorem ok_lt : OpOk k (pF k) (rI0 fun i j => .bl (decide (i < j))) (fun _ => opLt) := ok_cmpI fun x y z e => by
  cases x <;> cases y <;> simp only [opLt] at e <;> first | (cases e; done) | (cases e; exact ⟨_, _, rfl, rfl, rfl⟩)
theorem ok_le : OpOk k (pF k) (rI0 fun i j => .bl (decide (i ≤ j))) (fun _ => opLe) := ok_cmpI fun x y z e => by
  cases x <;> cases y <;> simp only [opLe] at e <;> first | (cases e; done) | (cases e; exact ⟨_, _, rfl, rfl, rfl⟩)
theorem ok_gt : OpOk k (pF k) (rI0 fun i j => .bl (decide (j < i))) (fun _ => opGt) := ok_cmpI fun x y z e => by
  cases x <;> cases y <;> simp only [opGt] at e <;> first | (cases e; done) | (cases e; exact ⟨_, _, rfl, rfl, rfl⟩)
theorem ok_ge : OpOk k (pF k) (rI0 fun i j => .bl (decide (j ≤ i))) (fun _ => opGe) := ok_cmpI fun x y z e => by
  cases x <;> cases y <;> simp only [opGe] at e <;> first | (cases e; done) | (cases e; exact ⟨_, _, rfl, rfl, rfl⟩)
mutual
def T.pd : T → PyData
  | .non => .none
  | .bl b => .bool b
  | .int i => .int i
  | .str s => .str s
  | .tup xs => .tuple (T.pdL xs)
  | .lst xs => .list (T.pdL xs)
  | .dct _ => .none
  | .set _ => .none
  | .ins _ _ _ => .none
  | .obj _ => .none
def T.pdL : List T → List PyData
  | [] => []
  | x :: xs => T.pd x :: T.pdL xs
end
mutual
theorem dp_of {g : Gh} {H : Hp} (hs : FSub g.F H) : ∀ (n : Nat) (t : T) (v : V), T.okd n t = true → Rep k g t v → Dp k.K H v (T.pd t)
  | 0, t, _, h, _ => by simp [T.okd] at h
  | n + 1, .non, v, _, r => by rw [r.non]; exact Dp.non
  | n + 1, .bl b, v, _, r => by rw [r.bl]; exact Dp.bl b
  | n + 1, .int b, v, _, r => by rw [r.int]; exact Dp.int b
  | n + 1, .str b, v, _, r => by rw [r.str]; exact Dp.str b
  | n + 1, .tup xs, v, h, r => by
    obtain ⟨a, vs, rfl, h1, r⟩ := r.tup
    exact Dp.tup (Mp.SqT.fmono hs h1) (dpL_of hs n xs vs (by simpa [T.okd] using h) r)
  | n + 1, .lst xs, v, h, r => by
    obtain ⟨a, vs, rfl, h1, r⟩ := r.lst
    exact Dp.lst (SqL.of (hs _ _ h1)) (dpL_of hs n xs vs (by simpa [T.okd] using h) r)
  | n + 1, .dct _, v, h, _ => by simp [T.okd] at h
  | n + 1, .set _, v, h, _ => by simp [T.okd] at h
  | n + 1, .ins _ _ _, v, h, _ => by simp [T.okd] at h
  | n + 1, .obj _, v, h, _ => by simp [T.okd] at h
theorem dpL_of {g : Gh} {H : Hp} (hs : FSub g.F H) : ∀ (n : Nat) (ts : List T) (vs : List V), T.okdL n ts = true → RepL k g ts vs → DpAll k.K H vs (T.pdL ts)
  | n, [], vs, _, r => by rw [RepL.nil] at r; subst r; exact DpAll.nil
  | n, t :: ts, vs, h, r => by
    obtain ⟨w, ws, rfl, r1, r2⟩ := RepL.cons.mp r
    have h' : T.okd n t = true ∧ T.okdL n ts = true := by simpa [T.okdL, Bool.and_eq_true] using h
    exact DpAll.cons (dp_of hs n t w h'.1 r1) (dpL_of hs n ts ws h'.2 r2)
end
theorem dp_ofB {g : Gh} {H : Hp} (hs : FSub g.F H) {n : Nat} {t : T} {v : V} (h : T.okd n t = true) (r : RepB k g H t v) : Dp k.K H v (T.pd t) := by
  rcases r with r | ⟨a, rfl, o⟩
  · exact dp_of hs n t v h r
  · cases t with
    | lst xs =>
      obtain ⟨vs, e, r⟩ := o
      cases n with
      | zero => simp [T.okd] at h
      | succ n => exact Dp.lst (SqL.of e) (dpL_of hs n xs vs (by simpa [T.okd] using h) r)
    | dct xs => cases n <;> simp [T.okd] at h
    | _ => exact o.elim
mutual
theorem depth_of : ∀ (n : Nat) (t : T), T.okd n t = true → (T.pd t).depth ≤ n
  | 0, t, h => by simp [T.okd] at h
  | n + 1, .non, _ => by simp [T.pd, PyData.depth]
  | n + 1, .bl b, _ => by simp [T.pd, PyData.depth]
  | n + 1, .int b, _ => by simp [T.pd, PyData.depth]
  | n + 1, .str b, _ => by simp [T.pd, PyData.depth]
  | n + 1, .tup xs, h => by
    have := depthL_of n xs (by simpa [T.okd] using h)
    simp only [T.pd, PyData.depth]
    omega
  | n + 1, .lst xs, h => by
    have := depthL_of n xs (by simpa [T.okd] using h)
    simp only [T.pd, PyData.depth]
    omega
  | n + 1, .dct _, h => by simp [T.okd] at h
  | n + 1, .set _, h => by simp [T.okd] at h
  | n + 1, .ins _ _ _, h => by simp [T.okd] at h
  | n + 1, .obj _, h => by simp [T.okd] at h
theorem depthL_of : ∀ (n : Nat) (ts : List T), T.okdL n ts = true → PyData.depthAll (T.pdL ts) ≤ n
  | n, [], _ => by simp [T.pdL, PyData.depthAll]
  | n, t :: ts, h => by
    have h' : T.okd n t = true ∧ T.okdL n ts = true := by simpa [T.okdL, Bool.and_eq_true] using h
    have h1 := depth_of n t h'.1
    have h2 := depthL_of n ts h'.2
    simp only [T.pdL, PyData.depthAll]
    omega
end
theorem shaped_of {t : T} (h : T.okd 12 t = true) : SeqAt.shaped (T.pd t) = true := by
  have hd := depth_of 12 t h
  unfold SeqAt.shaped
  rw [Bool.and_eq_true]
  refine ⟨?_, decide_eq_true (by omega)⟩
  have : ∀ n, (∀ t, T.okd n t = true → (T.pd t).canLay0 = true) ∧ (∀ ts, T.okdL n ts = true → PyData.canLayAll0 (T.pdL ts) = true) := by
    intro n
    induction n with
    | zero =>
      refine ⟨fun t h => by simp [T.okd] at h, fun ts => ?_⟩
      cases ts with
      | nil => intro _; rfl
      | cons a b => intro h; simp [T.okdL, T.okd] at h
    | succ n ih =>
      have h1 : ∀ t, T.okd (n + 1) t = true → (T.pd t).canLay0 = true := by
        intro t h
        cases t with
        | non => rfl
        | bl _ => rfl
        | int _ => rfl
        | str s => simpa [T.okd, T.pd, PyData.canLay0, PyData.strOk] using h
        | tup xs => simpa [T.pd, PyData.canLay0] using ih.2 xs (by simpa [T.okd] using h)
        | lst xs => simpa [T.pd, PyData.canLay0] using ih.2 xs (by simpa [T.okd] using h)
        | _ => simp [T.okd] at h
      refine ⟨h1, fun ts => ?_⟩
      induction ts with
      | nil => intro _; rfl
      | cons a b ih2 =>
        intro h
        have h' : T.okd (n + 1) a = true ∧ T.okdL (n + 1) b = true := by simpa [T.okdL, Bool.and_eq_true] using h
        simp [T.pdL, PyData.canLayAll0, h1 a h'.1, ih2 h'.2]
  exact (this 12).1 t h
theorem two_of (n : Nat) : (∀ x y, T.okd n x = true → T.okd n y = true → PyData.eqv (T.pd x) (T.pd y) = T.eqv x y) → (∀ xs ys, T.okdL n xs = true → T.okdL n ys = true → PyData.eqvAll (T.pdL xs) (T.pdL ys) = T.eqvL xs ys) := by
    intro h xs
    induction xs with
    | nil =>
      intro ys _ _
      cases ys <;> simp [T.pdL, PyData.eqvAll, T.eqvL]
    | cons x xs ih =>
      intro ys h1 h2
      cases ys with
      | nil => simp [T.pdL, PyData.eqvAll, T.eqvL]
      | cons y ys =>
        have a1 : T.okd n x = true ∧ T.okdL n xs = true := by simpa [T.okdL, Bool.and_eq_true] using h1
        have a2 : T.okd n y = true ∧ T.okdL n ys = true := by simpa [T.okdL, Bool.and_eq_true] using h2
        simp [T.pdL, PyData.eqvAll, T.eqvL, h x y a1.1 a2.1, ih ys a1.2 a2.2]
theorem okd_pd : ∀ (n : Nat), (∀ x y, T.okd n x = true → T.okd n y = true → PyData.eqv (T.pd x) (T.pd y) = T.eqv x y) ∧ (∀ xs ys, T.okdL n xs = true → T.okdL n ys = true → PyData.eqvAll (T.pdL xs) (T.pdL ys) = T.eqvL xs ys) := by
  intro n
  have two : ∀ n, (∀ x y, T.okd n x = true → T.okd n y = true → PyData.eqv (T.pd x) (T.pd y) = T.eqv x y) → (∀ xs ys, T.okdL n xs = true → T.okdL n ys = true → PyData.eqvAll (T.pdL xs) (T.pdL ys) = T.eqvL xs ys) := two_of
  induction n with
  | zero => exact ⟨fun x _ h => by simp [T.okd] at h, two _ fun x _ h => by simp [T.okd] at h⟩
  | succ n ih =>
    have ih2 : ∀ xs ys, T.okdL n xs = true → T.okdL n ys = true → PyData.eqvAll (T.pdL xs) (T.pdL ys) = T.eqvL xs ys := ih.2 
    have one : ∀ x y, T.okd (n + 1) x = true → T.okd (n + 1) y = true → PyData.eqv (T.pd x) (T.pd y) = T.eqv x y := by
      intro x y h1 h2
      cases x <;> cases y <;> first
        | (simp [T.okd] at h1; done)
        | (simp [T.okd] at h2; done)
        | (simp only [T.okd] at h1 h2; simp only [T.pd, PyData.eqv, T.eqv]; exact ih2 _ _ h1 h2)
        | (simp [T.pd, PyData.eqv, T.eqv]; done)
    exact ⟨one, two _ one⟩
theorem eqv_of {x y : T} (h1 : T.okd 12 x = true) (h2 : T.okd 12 y = true) : PyData.eqv (T.pd x) (T.pd y) = T.eqv x y := (okd_pd 12).1 x y h1 h2
theorem eq?_of {x y : T} {b : Bool} (h : T.eq? x y = some b) : T.okd 12 x = true ∧ T.okd 12 y = true ∧ T.eqv x y = b := by
  unfold T.eq? at h
  split at h
  · rename_i hh
    rw [Bool.and_eq_true] at hh
    exact ⟨hh.1, hh.2, Option.some.inj h⟩
  · cases h
theorem ok_eq : OpOk k (pF k) (rEqD k.K) (fun _ => opEq) := by
  intro st x y z e g env σ H v w Q S rx ry q
  have e : (T.eq? x y).map T.bl = some z := e
  cases h : T.eq? x y with
  | none => rw [h] at e; cases e
  | some b =>
    rw [h] at e
    cases e
    obtain ⟨h1, h2, rfl⟩ := eq?_of h
    exact ⟨_, _, dp_ofB S.sub h1 rx, dp_ofB S.sub h2 ry, shaped_of h1, shaped_of h2, by rw [eqv_of h1 h2]; exact q _ H ⟨g, Grow.refl S, rep_bl⟩⟩
theorem ok_ne : OpOk k (pF k) (rNeD k.K) (fun _ => opNe) := by
  intro st x y z e g env σ H v w Q S rx ry q
  have e : (T.eq? x y).map (fun b => T.bl (!b)) = some z := e
  cases h : T.eq? x y with
  | none => rw [h] at e; cases e
  | some b =>
    rw [h] at e
    cases e
    obtain ⟨h1, h2, rfl⟩ := eq?_of h
    exact ⟨_, _, dp_ofB S.sub h1 rx, dp_ofB S.sub h2 ry, shaped_of h1, shaped_of h2, by rw [eqv_of h1 h2]; exact q _ H ⟨g, Grow.refl S, rep_bl⟩⟩
/-! ### in -/
theorem mem_pd {x : T} (hx : T.okd 12 x = true) : ∀ {ys : List T}, T.okdL 12 ys = true → ((T.pdL ys).any fun z => PyData.eqv z (T.pd x)) = memT x ys
  | [], _ => rfl
  | y :: ys, h => by
    have h' : T.okd 12 y = true ∧ T.okdL 12 ys = true := by simpa [T.okdL, Bool.and_eq_true] using h
    simp only [T.pdL, List.any_cons, memT, eqv_of h'.1 hx, mem_pd hx h'.2]
mutual
theorem okd_succ : ∀ (n : Nat) (t : T), T.okd n t = true → T.okd (n + 1) t = true
  | 0, t, h => by simp [T.okd] at h
  | n + 1, .non, _ => rfl
  | n + 1, .bl _, _ => rfl
  | n + 1, .int _, _ => rfl
  | n + 1, .str s, h => by simpa [T.okd] using h
  | n + 1, .tup xs, h => by
    have h' : T.okdL n xs = true := by simpa [T.okd] using h
    show T.okdL (n + 1) xs = true
    exact okdL_succ n xs h'
  | n + 1, .lst xs, h => by
    have h' : T.okdL n xs = true := by simpa [T.okd] using h
    show T.okdL (n + 1) xs = true
    exact okdL_succ n xs h'
  | n + 1, .dct _, h => by simp [T.okd] at h
  | n + 1, .set _, h => by simp [T.okd] at h
  | n + 1, .ins _ _ _, h => by simp [T.okd] at h
  | n + 1, .obj _, h => by simp [T.okd] at h
theorem okdL_succ : ∀ (n : Nat) (ts : List T), T.okdL n ts = true → T.okdL (n + 1) ts = true
  | n, [], _ => rfl
  | n, t :: ts, h => by
    have h' : T.okd n t = true ∧ T.okdL n ts = true := by simpa [T.okdL, Bool.and_eq_true] using h
    simp [T.okdL, okd_succ n t h'.1, okdL_succ n ts h'.2]
end
/-- a flat value's V -/
def vOf : T → V
  | .non => .non
  | .bl b => .bl b
  | .int i => .int i
  | .str s => .str s
  | _ => .non
theorem vOf_eq {g : Gh} {H : Hp} {t : T} {v : V} (h : flatT t = true) (r : RepB k g H t v) : v = vOf t := by
  cases t with
  | non => exact r.non
  | bl b => exact r.bl
  | int i => exact r.int
  | str s => exact r.str
  | _ => simp [flatT] at h
theorem vOfL_eq {g : Gh} : ∀ {ts : List T} {vs : List V}, ts.all flatT = true → RepL k g ts vs → vs = ts.map vOf
  | [], vs, _, r => by rw [RepL.nil] at r; exact r
  | t :: ts, vs, h, r => by
    obtain ⟨w, ws, rfl, r1, r2⟩ := RepL.cons.mp r
    rw [List.all_cons, Bool.and_eq_true] at h
    have e1 : w = vOf t := vOf_eq (H := fun _ => none) h.1 (.inl r1)
    have e2 := vOfL_eq h.2 r2
    rw [e1, e2]
    rfl
theorem flat_vOf {t : T} (h : flatT t = true) : flatV (vOf t) = true := by cases t <;> first | rfl | (simp [flatT] at h; done)
theorem flat_vOfL : ∀ {ts : List T}, ts.all flatT = true → (ts.map vOf).all flatV = true
  | [], _ => rfl
  | t :: ts, h => by
    rw [List.all_cons, Bool.and_eq_true] at h
    simp [flat_vOf h.1]
    have := flat_vOfL h.2
    simpa using this
theorem eqV_vOf {x y : T} (hx : flatT x = true) (hy : flatT y = true) : eqV (vOf y) (vOf x) = T.eqv y x := by
  cases x <;> cases y <;> first | (simp [flatT] at hx; done) | (simp [flatT] at hy; done) | (simp [vOf, eqV, T.eqv]; done) | rfl
theorem mem_vOf {x : T} (hx : flatT x = true) : ∀ {ys : List T}, ys.all flatT = true → inV (vOf x) (ys.map vOf) = memT x ys
  | [], _ => rfl
  | y :: ys, h => by
    rw [List.all_cons, Bool.and_eq_true] at h
    have ih := mem_vOf hx h.2
    unfold inV at ih ⊢
    simp only [List.map_cons, List.any_cons, memT, eqV_vOf hx h.1]
    rw [ih]
end
end Mp


set_option Elab.async false
set_option linter.all false
set_option maxRecDepth 100000
set_option maxHeartbeats 1000000
/-! Ops2: items, slices, displays, built-ins. -/
namespace Mp
open PySem PySem.Spec PyProof.Rows L2
section
variable {k : Gk} {X : Cx} {g : Gh} {env : En} {st : Store} {σ : L2.St} {H H' : Hp} {z : T} {u : V}
theorem pV_of_F (S : SR k g env st σ H) (p : pF k g H z u H') : pV k g H z u H' := by
  cases z with
  | lst xs =>
    obtain ⟨a, vs, rfl, h, rfl, r⟩ := p
    obtain ⟨x, r⟩ := new_lst S h r
    exact ⟨_, x, r⟩
  | dct xs =>
    obtain ⟨a, vs, rfl, h, rfl, r⟩ := p
    have x := Grow.one (o := .dK vs) S h
    exact ⟨_, x, rep_dct (put_at _ _ _) (RepE.mono x.le _ _ r)⟩
  | _ => exact p
theorem OpOk.v {r : R2} {op : Store → T → T → Option T} (h : OpOk k (pF k) r op) : OpOk k (pV k) r op := fun st x y z e g env σ H v w Q S rx ry q => h st x y z e g env σ H v w Q S rx ry fun u H' p => q u H' (pV_of_F S p)
theorem OpOk1.v {r : V → Hp → VK → Prop} {op : Store → T → Option T} (h : OpOk1 k (pF k) r op) : OpOk1 k (pV k) r op := fun st x z e g env σ H v Q S rx q => h st x z e g env σ H v Q S rx fun u H' p => q u H' (pV_of_F S p)
theorem OpOkL.v {r : List V → Hp → VK → Prop} {op : List T → Option T} (h : OpOkL k (pF k) r op) : OpOkL k (pV k) r op := fun xs z e g env st σ H vs Q S rx q => h xs z e g env st σ H vs Q S rx fun u H' p => q u H' (pV_of_F S p)
/-- a result that is none of the new ones -/
theorem pF_same (S : SR k g env st σ H) (r : Rep k g z u) (h : match z with | .lst _ => False | .dct _ => False | _ => True) : pF k g H z u H := by
  cases z <;> first | exact h.elim | exact ⟨g, Grow.refl S, r⟩
theorem pV_same (S : SR k g env st σ H) (r : Rep k g z u) : pV k g H z u H := ⟨g, Grow.refl S, r⟩

/-! ### displays -/
theorem ok_tup : OpOkL k (pF k) (fun vs H Q => vs.length ≤ sizeLine ∧ ∀ p, H p = none → Q (.ref p) (upd H p (.tup vs))) mkTup := by
  intro xs z e g env st σ H vs Q S r q
  unfold mkTup at e
  split at e
  · rename_i h
    cases e
    refine ⟨by rw [← r.length]; exact sizeB h, fun p hp => ?_⟩
    obtain ⟨x, r⟩ := new_tup S hp r
    exact q _ _ ⟨_, x, r⟩
  · cases e
theorem ok_lst : OpOkL k (pF k) (fun vs H Q => vs.length ≤ sizeLine ∧ ∀ p, H p = none → Q (.ref p) (upd H p (.lst vs))) mkLst := by
  intro xs z e g env st σ H vs Q S r q
  unfold mkLst at e
  split at e
  · rename_i h
    cases e
    exact ⟨by rw [← r.length]; exact sizeB h, fun p hp => q _ _ ⟨p, _, rfl, hp, rfl, r⟩⟩
  · cases e

/-! ### items -/
/-- what a sequence is in the heap -/
theorem seq_of (S : SR k g env st σ H) {x : T} {xs : List T} {v : V} (r : RepB k g H x v) (e : seqOf st x = some xs) : ∃ a vs, v = .ref a ∧ (SqL k.K H a vs ∨ SqT k.K H a vs) ∧ RepL k g xs vs := by
  cases x with
  | lst ys =>
    cases e
    obtain ⟨a, vs, rfl, h, r⟩ := r.lst S.sub
    exact ⟨a, vs, rfl, .inl (SqL.of h), r⟩
  | tup ys =>
    cases e
    obtain ⟨a, vs, rfl, h, r⟩ := r.tup
    exact ⟨a, vs, rfl, .inr (S.tup h), r⟩
  | obj n =>
    obtain ⟨rfl, _⟩ := r.obj
    cases h : st[n]? with
    | none => simp [seqOf, h] at e
    | some c =>
      cases c with
      | lst ys =>
        simp [seqOf, h] at e
        subst e
        obtain ⟨vs, h, r⟩ := S.cell n _ h
        exact ⟨_, vs, rfl, .inl (SqL.of h), r⟩
      | _ => simp [seqOf, h] at e
  | _ => cases e
theorem ixN_of {i : Int} {n j : Nat} (h : ixOf i n = some j) : ixN n i = some j ∧ j < n := by
  unfold ixOf at h
  unfold ixN
  split at h
  · split at h
    · cases h
      rename_i h1 h2
      rw [if_pos h1, if_pos h2]
      exact ⟨rfl, by omega⟩
    · cases h
  · split at h
    · rename_i h1 h2
      cases h
      rw [if_neg h1, if_pos h2, Int.add_comm]
      exact ⟨rfl, by omega⟩
    · cases h
theorem atI_of {xs : List T} {vs : List V} {i : Int} {j : Nat} {t : T} (r : RepL k g xs vs) (h : ixOf i xs.length = some j) (e : xs[j]? = some t) : ∃ w, atI vs i = some w ∧ Rep k g t w := by
  obtain ⟨w, e1, r1⟩ := r.get e
  refine ⟨w, ?_, r1⟩
  unfold atI
  rw [← r.length, (ixN_of h).1]
  exact e1
theorem ok_ix : OpOk k (pV k) (rIx k.K) opIx := by
  intro st x y z e g env σ H v w Q S rx ry q
  unfold opIx at e
  split at e
  · rename_i s i
    split at e
    · rename_i hz
      cases h : ixOf i s.length with
      | none => rw [h] at e; cases e
      | some j =>
        rw [h] at e
        cases e
        have hj := ixN_of h
        have hs : s.cps.size = s.length := rfl
        refine .inr (.inr ⟨s, i, s.cps.getD j 0, rx.str, ry.int, sizeB hz, ?_, q _ H (pV_same S rep_str)⟩)
        unfold atI
        rw [show s.cps.toList.length = s.length from by simp [Str.length], hj.1]
        have : j < s.cps.size := by rw [hs]; exact hj.2
        simp [this]
    · cases e
  · rename_i i _
    split at e
    · rename_i xs hs
      split at e
      · rename_i j hj
        obtain ⟨a, vs, rfl, h, r⟩ := seq_of S rx hs
        obtain ⟨w', h1, r1⟩ := atI_of r hj e
        rcases h with h | h
        · exact .inl ⟨a, vs, i, w', rfl, ry.int, h, h1, q _ H (pV_same S r1)⟩
        · exact .inr (.inl ⟨a, vs, i, w', rfl, ry.int, h, h1, q _ H (pV_same S r1)⟩)
      · cases e
    · cases e
  · cases e

/-! ### slices -/
/-- a part of a slice -/
def PartO (t : T) (o : Option Int) : Prop := (t = .non ∧ o = none) ∨ ∃ i, t = .int i ∧ o = some i
theorem lim_sIx {n d a : Nat} {t : T} {o : Option Int} (r : PartO t o) (e : lim n t (some d) = some a) : HT.sIx n d o = a := by
  rcases r with ⟨rfl, rfl⟩ | ⟨i, rfl, rfl⟩
  · cases e; rfl
  · have e : (if -(2 ^ 60) < i ∧ i < 2 ^ 60 then some (if i < 0 then ((n : Int) + i).toNat else min i.toNat n) else none) = some a := e
    split at e
    · cases e
      show (if i < 0 then (i + (n : Int)).toNat else min i.toNat n) = _
      rw [Int.add_comm]
    · cases e
def rCutM (K : PySem.W.Frag) : V → Option Int → Option Int → Hp → VK → Prop := fun x lo hi H Q => rSlL K x lo hi H Q ∨ rSlA K x lo hi H Q ∨ rSlS x lo hi H Q
theorem sl_M (hK : X.K = k.K) : SlR X (rCutM k.K) := by
  rw [← hK]
  exact sl_list.or (sl_tupA.or sl_str)
theorem RepL.cut {ts : List T} {vs : List V} (r : RepL k g ts vs) (lo hi : Option Int) : RepL k g (cutT (HT.sIx ts.length 0 lo) (HT.sIx ts.length ts.length hi) ts) (cutV vs lo hi) := by
  unfold cutT cutV
  rw [r.length]
  exact (r.drop _).take _
theorem ok_cut {x lo hi z : T} {v : V} {ol oh : Option Int} {Q : VK} (S : SR k g env st σ H) (rx : RepB k g H x v) (rl : PartO lo ol) (rh : PartO hi oh) (e : opCut st x lo hi = some z)
    (q : ∀ u H', pF k g H z u H' → Q u H') : rCutM k.K v ol oh H Q := by
  have lsts : ∀ (xs : List T) (a : Addr) (vs : List V), v = .ref a → SqL k.K H a vs → RepL k g xs vs → (match lim xs.length lo (some 0), lim xs.length hi (some xs.length) with
      | some a, some b => some (T.lst (cutT a b xs))
      | _, _ => none) = some z → rCutM k.K v ol oh H Q := by
    intro xs a vs ev hq r e
    split at e
    · rename_i a' b' e1 e2
      cases e
      have s1 := lim_sIx rl e1
      have s2 := lim_sIx rh e2
      refine .inl ⟨a, vs, ev, hq, fun p hp => q _ _ ⟨p, _, rfl, hp, rfl, ?_⟩⟩
      rw [← s1, ← s2]
      exact r.cut ol oh
    · cases e
  cases x with
  | tup xs =>
    obtain ⟨a, vs, rfl, h, r⟩ := rx.tup
    unfold opCut at e
    simp only at e
    split at e
    · rename_i a' b' e1 e2
      cases e
      have s1 := lim_sIx rl e1
      have s2 := lim_sIx rh e2
      refine .inr (.inl ⟨a, vs, rfl, S.tup h, fun hw => q _ H ?_, fun _ p hp => ?_⟩)
      · rw [← r.length] at hw
        have e3 : cutT a' b' xs = xs := by
          rw [← s1, ← s2, hw.1, hw.2]
          unfold cutT
          simp
        rw [e3]
        exact ⟨g, Grow.refl S, rep_tup h r⟩
      · have r2 := r.cut ol oh
        rw [s1, s2] at r2
        obtain ⟨x, r3⟩ := new_tup S hp r2
        exact q _ _ ⟨_, x, r3⟩
    · cases e
  | lst xs =>
    obtain ⟨a, vs, rfl, h, r⟩ := rx.lst S.sub
    exact lsts xs a vs rfl (SqL.of h) r e
  | str s =>
    have hv := rx.str
    unfold opCut at e
    simp only at e
    split at e
    · rename_i a' b' e1 e2
      split at e
      · rename_i hz
        cases e
        have s1 := lim_sIx rl e1
        have s2 := lim_sIx rh e2
        refine .inr (.inr ⟨s, hv, sizeB hz, ?_⟩)
        have : cutS s ol oh = ⟨((s.cps.toList.drop a').take (b' - a')).toArray⟩ := by
          unfold cutS
          rw [s1, s2]
        rw [this]
        exact q _ H ⟨g, Grow.refl S, rep_str⟩
      · cases e
    · cases e
  | obj n =>
    obtain ⟨rfl, _⟩ := rx.obj
    unfold opCut at e
    simp only at e
    cases h : st[n]? with
    | none => rw [h] at e; cases e
    | some c =>
      rw [h] at e
      cases c with
      | lst xs =>
        obtain ⟨vs, h1, r⟩ := S.cell n _ h
        exact lsts xs _ vs rfl (SqL.of h1) r e
      | scr xs =>
        obtain ⟨vs, h1, r⟩ := S.cell n _ h
        exact lsts xs _ vs rfl (Mp.SqL.fmono S.sub h1) r e
      | _ => cases e
  | _ => cases e

/-! ### built-ins -/
theorem ok_len : OpOk1 k (pF k) (fun x H Q => (∃ p ys, x = .ref p ∧ (SqL k.K H p ys ∨ SqT k.K H p ys) ∧ Q (.int ys.length) H) ∨ (∃ z, x = .str z ∧ z.length ≤ sizeLine ∧ Q (.int z.length) H)) lenT := by
  intro st x z e g env σ H v Q S rx q
  have seq : ∀ xs, seqOf st x = some xs → z = .int xs.length → ∃ p ys, v = .ref p ∧ (SqL k.K H p ys ∨ SqT k.K H p ys) ∧ Q (.int ys.length) H := fun xs e1 e2 => by
    obtain ⟨a, vs, rfl, h, r⟩ := seq_of S rx e1
    refine ⟨a, vs, rfl, h, ?_⟩
    rw [← r.length]
    subst e2
    exact q _ H ⟨g, Grow.refl S, rep_int⟩
  cases x with
  | lst xs => exact .inl (seq xs rfl (by cases e; rfl))
  | tup xs => exact .inl (seq xs rfl (by cases e; rfl))
  | str s =>
    unfold lenT at e
    simp only at e
    split at e
    · rename_i hz
      cases e
      exact .inr ⟨s, rx.str, sizeB hz, q _ H ⟨g, Grow.refl S, rep_int⟩⟩
    · cases e
  | obj n =>
    unfold lenT at e
    cases h : st[n]? with
    | none => simp [h] at e
    | some c =>
      cases c with
      | lst ys =>
        simp [h] at e
        exact .inl (seq ys (by simp [seqOf, h]) e.symm)
      | _ => simp [h] at e
  | _ => cases e
theorem ok_list : OpOk1 k (pF k) (fun x H Q => ∃ p ys, x = .ref p ∧ (SqL k.K H p ys ∨ SqT k.K H p ys) ∧ ∀ l, H l = none → Q (.ref l) (upd H l (.lst ys))) listT := by
  intro st x z e g env σ H v Q S rx q
  unfold listT at e
  cases h : seqOf st x with
  | none => rw [h] at e; cases e
  | some xs =>
    rw [h] at e
    cases e
    obtain ⟨a, vs, rfl, h, r⟩ := seq_of S rx h
    exact ⟨a, vs, rfl, h, fun l hl => q _ _ ⟨l, _, rfl, hl, rfl, r⟩⟩
theorem ok_tuple : OpOk1 k (pF k) (fun x H Q => ∃ p ys, x = .ref p ∧ ((SqL k.K H p ys ∧ ∀ l, H l = none → Q (.ref l) (upd H l (.tup ys))) ∨ (SqT k.K H p ys ∧ Q (.ref p) H))) tupleT := by
  intro st x z e g env σ H v Q S rx q
  unfold tupleT at e
  cases h : seqOf st x with
  | none => rw [h] at e; cases e
  | some xs =>
    rw [h] at e
    cases e
    have lst : ∀ a vs, v = .ref a → SqL k.K H a vs → RepL k g xs vs → ∃ p ys, v = .ref p ∧ ((SqL k.K H p ys ∧ ∀ l, H l = none → Q (.ref l) (upd H l (.tup ys))) ∨ (SqT k.K H p ys ∧ Q (.ref p) H)) := fun a vs ev h r =>
      ⟨a, vs, ev, .inl ⟨h, fun l hl => by
        obtain ⟨x, r3⟩ := new_tup S hl r
        exact q _ _ ⟨_, x, r3⟩⟩⟩
    cases x with
    | tup ys =>
      cases h
      obtain ⟨a, vs, rfl, h, r⟩ := rx.tup
      exact ⟨a, vs, rfl, .inr ⟨S.tup h, q _ H ⟨g, Grow.refl S, rep_tup h r⟩⟩⟩
    | lst ys =>
      cases h
      obtain ⟨a, vs, ev, h, r⟩ := rx.lst S.sub
      exact lst a vs ev (SqL.of h) r
    | obj n =>
      obtain ⟨rfl, _⟩ := rx.obj
      cases h' : st[n]? with
      | none => simp [seqOf, h'] at h
      | some c =>
        cases c with
        | lst ys =>
          simp [seqOf, h'] at h
          subst h
          obtain ⟨vs, h2, r⟩ := S.cell n _ h'
          exact lst _ vs rfl (SqL.of h2) r
        | _ => simp [seqOf, h'] at h
    | _ => cases h
theorem bls_of : ∀ {xs : List T} {bs : List Bool} {vs : List V}, T.bls? xs = some bs → RepL k g xs vs → vs = bs.map V.bl
  | [], bs, vs, e, r => by cases e; rw [RepL.nil] at r; exact r
  | t :: xs, bs, vs, e, r => by
    obtain ⟨w, ws, rfl, r1, r2⟩ := RepL.cons.mp r
    cases t with
    | bl b =>
      simp only [T.bls?] at e
      cases h : T.bls? xs with
      | none => rw [h] at e; cases e
      | some cs =>
        rw [h] at e
        cases e
        rw [r1.bl, bls_of h r2]
        rfl
    | _ => simp [T.bls?] at e
theorem ok_all : OpOk1 k (pF k) (fun x H Q => rAll k.K [x] H Q) (fun _ => allT) := by
  intro st x z e g env σ H v Q S rx q
  cases x with
  | lst xs =>
    obtain ⟨a, vs, rfl, h, r⟩ := rx.lst S.sub
    have e : (T.bls? xs).map (fun bs => T.bl (bs.all id)) = some z := e
    cases hb : T.bls? xs with
    | none => rw [hb] at e; cases e
    | some bs =>
      rw [hb] at e
      cases e
      have := bls_of hb r
      subst this
      exact ⟨a, bs, rfl, SqL.of h, q _ H ⟨g, Grow.refl S, rep_bl⟩⟩
  | _ => cases e
theorem ok_any : OpOk1 k (pF k) (fun x H Q => rAny k.K [x] H Q) (fun _ => anyT) := by
  intro st x z e g env σ H v Q S rx q
  cases x with
  | lst xs =>
    obtain ⟨a, vs, rfl, h, r⟩ := rx.lst S.sub
    have e : (T.bls? xs).map (fun bs => T.bl (bs.any id)) = some z := e
    cases hb : T.bls? xs with
    | none => rw [hb] at e; cases e
    | some bs =>
      rw [hb] at e
      cases e
      have := bls_of hb r
      subst this
      exact ⟨a, bs, rfl, SqL.of h, q _ H ⟨g, Grow.refl S, rep_bl⟩⟩
  | _ => cases e
theorem ok_neg : OpOk1 k (pF k) (rU fun i => .int (-i)) (fun _ => opNeg) := by
  intro st x z e g env σ H v Q S rx q
  cases x with
  | int i => cases e; exact ⟨i, rx.int, q _ H ⟨g, Grow.refl S, rep_int⟩⟩
  | _ => cases e
theorem ne_non {x : T} {v : V} (hx : x ≠ .non) (r : RepB k g H x v) : v ≠ .non := by
  intro e
  subst e
  rcases r with r | ⟨a, h, _⟩
  · cases x with
    | non => exact hx rfl
    | bl b => cases r.bl
    | int i => cases r.int
    | str s => cases r.str
    | tup xs => obtain ⟨a, vs, h, _⟩ := r.tup; cases h
    | lst xs => obtain ⟨a, vs, h, _⟩ := r.lst; cases h
    | dct xs => obtain ⟨a, vs, h, _⟩ := r.dct; cases h
    | set xs => unfold Rep at r; exact r
    | ins c ns ts => unfold Rep at r; obtain ⟨a, dx, ws, h, _⟩ := r; cases h
    | obj n => cases r.obj.1
  · cases h
def isNon : T → Bool
  | .non => true
  | _ => false
theorem isN_of {x y z : T} (e : opIsN x y = some z) : y = .non ∧ z = .bl (isNon x) := by
  cases y <;> cases x <;> first | (cases e; exact ⟨rfl, rfl⟩) | (cases e; done)
theorem dec_isN {x : T} {v : V} (r : RepB k g H x v) : decide (v = .non) = isNon x := by
  cases x with
  | non => have := r.non; subst this; rfl
  | _ => exact decide_eq_false (ne_non (fun z => by cases z) r)
theorem ok_isN : OpOk k (pF k) (fun x y H Q => y = .non ∧ Q (.bl (decide (x = .non))) H) (fun _ => opIsN) := by
  intro st x y z e g env σ H v w Q S rx ry q
  obtain ⟨e1, e2⟩ := isN_of e
  subst e1 e2
  exact ⟨ry.non, by rw [dec_isN rx]; exact q _ H ⟨g, Grow.refl S, rep_bl⟩⟩
theorem ok_notN : OpOk k (pF k) (fun x y H Q => y = .non ∧ Q (.bl (!decide (x = .non))) H) (fun _ => opIsNotN) := by
  intro st x y z e g env σ H v w Q S rx ry q
  have e : notB (opIsN x y) = some z := e
  cases h : opIsN x y with
  | none => rw [h] at e; cases e
  | some z' =>
    rw [h] at e
    obtain ⟨e1, e2⟩ := isN_of h
    subst e1 e2
    cases e
    exact ⟨ry.non, by rw [dec_isN rx]; exact q _ H ⟨g, Grow.refl S, rep_bl⟩⟩

/-! ### isinstance -/
theorem kind_ty (S : SR k g env st σ H) {x : T} {v : V} {s : String} (r : RepB k g H x v) (e : kindOf st x = some s) : TyX k.K H v (.type s) := by
  cases x with
  | non => cases e; rw [r.non]; exact .base .non
  | bl b => cases e; rw [r.bl]; exact .base (.bl b)
  | int i => cases e; rw [r.int]; exact .base (.int i)
  | str i => cases e; rw [r.str]; exact .base (.str i)
  | tup xs =>
    cases e
    obtain ⟨a, vs, rfl, h, _⟩ := r.tup
    rcases S.tup h with (h | ⟨o, h⟩) | ⟨o, its, n, h, c, _⟩
    · exact .base (.tup h)
    · exact .fTuple h
    · exact .kTuple h c
  | lst xs =>
    cases e
    obtain ⟨a, vs, rfl, h, _⟩ := r.lst S.sub
    exact .base (.lst h)
  | dct xs =>
    cases e
    obtain ⟨a, vs, rfl, h, _⟩ := r.dct S.sub
    exact .base (.dK h)
  | obj n =>
    obtain ⟨rfl, _⟩ := r.obj
    cases h : st[n]? with
    | none => simp [kindOf, h] at e
    | some c =>
      cases c with
      | lst ys =>
        simp [kindOf, h] at e
        subst e
        obtain ⟨vs, h, r⟩ := S.cell n _ h
        exact .base (.lst h)
      | _ => simp [kindOf, h] at e
  | _ => cases e
def kinds5 : List String := ["bool", "int", "str", "tuple", "list"]
def kinds7 : List String := ["NoneType", "bool", "int", "str", "tuple", "list", "dict"]
theorem kit57 : (kinds7.all fun a => kinds5.all fun b => decide (kitB a b = some (subKind a b))) = true := by decide +kernel
theorem kit_sub {a b : String} (ha : a ∈ kinds7) (hb : b ∈ kinds5) : PySem.W.kitOne k.K (.type a) (.type b) = some (subKind a b) :=
  kit_ty (of_decide_eq_true (List.all_eq_true.mp (List.all_eq_true.mp kit57 a ha) b hb))
theorem kind_mem {st : Store} {x : T} {s : String} (e : kindOf st x = some s) : s ∈ kinds7 := by
  cases x with
  | obj n =>
    have e : (match st[n]? with | some (.lst _) => some "list" | _ => none) = some s := e
    split at e
    · cases e; decide
    · cases e
  | _ => first | (cases e; done) | (cases e; decide)
theorem kit_any {a : String} (ha : a ∈ kinds7) : ∀ {ns : List String}, (∀ b ∈ ns, b ∈ kinds5) → PySem.W.kitAny k.K (.type a) (ns.map Value.type) = some (ns.any (subKind a))
  | [], _ => kitAny_nil
  | b :: ns, h => by
    rw [List.map_cons, List.any_cons]
    refine kitAny_cons (kit_sub ha (h b List.mem_cons_self)) (fun e => ?_) (fun e => ?_)
    · rw [e, Bool.false_or]
      exact kit_any ha fun b hb => h b (List.mem_cons_of_mem _ hb)
    · rw [e, Bool.true_or]
end
end Mp


set_option Elab.async false
set_option linter.all false
set_option maxRecDepth 100000
set_option maxHeartbeats 1000000
/-! Sx2: slices, what is walked, comprehensions, calls. -/
namespace Mp
open PySem PySem.Spec PyProof.Rows L2
def rP : Rdg T (Option Int) := fun _ _ _ _ _ _ t o => PartO t o
theorem m0P : Mono0 rP := fun _ _ _ _ _ _ _ _ _ _ q => q
section
variable {k : Gk} {W : L2.WX} {X : Cx} {α β : Type} {g g1 : Gh} {env : En} {st st1 : Store} {σ : L2.St} {H H1 : Hp}
/-! ### slices -/
theorem PO.imp {X : Cx} {e : Option Expr} {t t' : TO} (h : PO X e t) (i : ∀ σ H Q, t' σ H Q → t σ H Q) : PO X e t' := ⟨fun pins s σ H Q I q => h.run pins s σ H Q I (i σ H Q q)⟩
theorem sx_none {e : Option Expr} (h : PO X e tNoPart) : PO X e (tR k W rP (con .non)) :=
  Mp.PO.imp h fun σ H Q ⟨g, env, st, S, q⟩ => q none H g Ext.refl S (.inl ⟨rfl, rfl⟩)
theorem sx_part {e : Option Expr} {f : EvT} (h : PO X e (tPart (tV k W f))) : PO X e (tR k W rP (f.bind asPart)) := by
  refine Mp.PO.imp h fun σ H Q ⟨g, env, st, S, q⟩ => ⟨g, env, st, S, (q.bind (R1 := rV k) m0P).imp fun v H1 ⟨x, st1, g1, x1, S1, r1, q1⟩ => ?_⟩
  cases x with
  | int i => exact ⟨i, Rep.int r1, After.pure (a := T.int i) (R := rP) S1 q1 (.inr ⟨i, rfl, rfl⟩)⟩
  | _ => exact q1.elim
theorem sx_cut {fa fl fh : EvT} {e : Expr} (h : PE X e (tSl (rCutM k.K) (tS k W fa) (tR k W rP fl) (tR k W rP fh))) : PE X e (tF k W (ev3S opCut fa fl fh)) := by
  refine Mp.PE.imp h fun σ H Q ⟨g, env, st, S, q⟩ => ⟨g, env, st, S, (q.bind (R1 := rS k) m0F).imp fun v H1 ⟨x, st1, g1, x1, S1, r1, q1⟩ => ⟨g1, env, st1, S1, (q1.bind (R1 := rP) m0F).imp fun ol H2 ⟨tl, st2, g2, x2, S2, r2, q2⟩ => ⟨g2, env, st2, S2, (q2.bind (R1 := rP) m0F).imp fun oh H3 ⟨th, st3, g3, x3, S3, r3, q3⟩ => ?_⟩⟩⟩
  obtain ⟨z, eo, q4⟩ := After.opt (o := opCut st3 x tl th) q3
  have rx : RepB k g3 H3 x v := rS.b S3 (rS.mono (st1 := st3) (H0' := H) (H1 := H3) (x2.le.trans x3.le) r1)
  refine ok_cut S3 rx r2 r3 eo fun u H' pz => ?_
  obtain ⟨g', x4, S4, r4⟩ := post_F g3 env st3 σ H3 H3 z u H' S3 (fun _ h => h) pz
  exact q4 u H' g' x4 S4 r4

/-! ### what is walked -/
/-- the walk J goes over the values of xs -/
def ItOk (k : Gk) (g : Gh) (xs : List T) (J : It) : Prop := ∀ (i : Nat) (g1 : Gh) (env1 : En) (st1 : Store) (σ1 : L2.St) (H1 : Hp), GLe g g1 → SR k g1 env1 st1 σ1 H1 →
  (∀ t, xs[i]? = some t → J.go i H1 ∧ ∀ v H2, J.yld i H1 v H2 → ∃ g2, Grow g1 H1 g2 H2 ∧ Rep k g2 t v) ∧ (xs.length ≤ i → J.stop i H1)
def rI (k : Gk) : Rdg (List T) It := fun _ _ _ _ g _ xs J => ItOk k g xs J
theorem m0I : Mono0 (rI k) := fun _ _ _ _ _ _ _ _ _ _ q => q
abbrev tI (k : Gk) (W : L2.WX) (f : EvI) : TI := tR k W (rI k) f
theorem ItOk.list {xs : List T} {a : Addr} {vs : List V} (h : g.F a = some (.lst vs)) (r : RepL k g xs vs) : ItOk k g xs (Itl k.K a) := by
  intro i g1 env1 st1 σ1 H1 le S
  have hH : SqL k.K H1 a vs := SqL.of (S.sub _ _ (le.f _ _ h))
  refine ⟨fun t e => ?_, fun hi => ⟨vs, hH, by rw [← r.length]; exact hi⟩⟩
  obtain ⟨w, e1, r1⟩ := r.get e
  refine ⟨⟨vs, w, hH, e1⟩, fun v H2 ⟨e2, y⟩ => ?_⟩
  have := y vs hH
  rw [e1] at this
  cases this
  rw [e2]
  exact ⟨g1, Grow.refl S, Rep.mono le _ _ r1⟩
theorem ItOk.tup {xs : List T} {a : Addr} {vs : List V} (h : SqT k.K g.F a vs) (r : RepL k g xs vs) : ItOk k g xs (Itt k.K a) := by
  intro i g1 env1 st1 σ1 H1 le S
  have hH : SqT k.K H1 a vs := S.tup (Mp.SqT.fmono le.f h)
  refine ⟨fun t e => ?_, fun hi => ⟨vs, hH, by rw [← r.length]; exact hi⟩⟩
  obtain ⟨w, e1, r1⟩ := r.get e
  refine ⟨⟨vs, w, hH, e1⟩, fun v H2 ⟨e2, y⟩ => ?_⟩
  have := y vs hH
  rw [e1] at this
  cases this
  rw [e2]
  exact ⟨g1, Grow.refl S, Rep.mono le _ _ r1⟩
theorem rangeL_get : ∀ {n : Nat} {lo : Int} {i : Nat} {t : T}, (rangeL lo n)[i]? = some t → i < n ∧ t = .int (lo + i)
  | 0, lo, i, t, e => by simp [rangeL] at e
  | n + 1, lo, 0, t, e => by
    simp [rangeL] at e
    subst e
    exact ⟨Nat.succ_pos n, by simp⟩
  | n + 1, lo, i + 1, t, e => by
    simp [rangeL] at e
    obtain ⟨h1, h2⟩ := rangeL_get e
    exact ⟨by omega, by rw [h2]; congr 1; omega⟩
theorem rangeL_length : ∀ (n : Nat) (lo : Int), (rangeL lo n).length = n
  | 0, lo => rfl
  | n + 1, lo => by simp [rangeL, rangeL_length n]
theorem ItOk.range {lo : Int} {n : Nat} : ItOk k g (rangeL lo n) (Itr lo n) := by
  intro i g1 env1 st1 σ1 H1 le S
  refine ⟨fun t e => ?_, fun hi => by rw [rangeL_length] at hi; exact hi⟩
  obtain ⟨h1, rfl⟩ := rangeL_get e
  refine ⟨h1, fun v H2 ⟨e2, y⟩ => ?_⟩
  rw [e2, y]
  exact ⟨g1, Grow.refl S, rep_int⟩
/-- a list or a tuple, by its value -/
def iSeq (K : PySem.W.Frag) (tl : TE) : TI := fun σ H R => tl σ H fun x H1 => (∃ a, x = .ref a ∧ (∃ xs, SqL K H1 a xs) ∧ R (Itl K a) H1) ∨ ∃ a, x = .ref a ∧ (∃ xs, SqT K H1 a xs) ∧ R (Itt K a) H1
theorem pi_seq {tg l : Expr} {tl : TE} (hl : PE X l tl) : PI X tg l (iSeq X.K tl) := by
  refine ⟨fun pins s σ H R I h => ?_⟩
  refine thn (hl.run pins s σ H _ I h) fun v s1 ⟨x, H1, I1, r1, q1⟩ => ?_
  rcases q1 with q1 | q1
  · obtain ⟨a, e, ⟨xs, hq⟩, q⟩ := q1
    subst e
    cases r1
    obtain ⟨its, rv, p, hz⟩ := I1.list hq
    refine wpAny_pyIter_list p.isList ?_
    refine ⟨s1.heap.objs.size, [s1.heap.objs.size], _, _, H1, rfl, I1.kept (t' := s1.toks) fun b o e => Heap.get?_push_of_some _ e, turn_list a _, ⟨_, Heap.get?_push_size _ rfl, rfl, rfl⟩, fun b hb => ?_, q⟩
    have e : b = s1.heap.objs.size := by simpa using hb
    subst e
    exact I1.fpOk (Nat.le_refl _) (I1.hok.fresh (Nat.le_refl _))
  · obtain ⟨a, e, ⟨xs, hq⟩, q⟩ := q1
    subst e
    cases r1
    obtain ⟨its, rv, p, hz⟩ := I1.tuple hq
    refine wpAny_pyIter_tuple (show s1.heap.IsTuple a its.toArray from p) ?_
    refine ⟨s1.heap.objs.size, [s1.heap.objs.size], _, _, H1, rfl, I1.kept (t' := s1.toks) fun b o e => Heap.get?_push_of_some _ e, turn_tuple a _, ⟨_, Heap.get?_push_size _ rfl, rfl, rfl⟩, fun b hb => ?_, q⟩
    have e : b = s1.heap.objs.size := by simpa using hb
    subst e
    exact I1.fpOk (Nat.le_refl _) (I1.hok.fresh (Nat.le_refl _))
theorem sx_itSeq {tg e : Expr} {f : EvT} (h : PI X tg e (iSeq k.K (tV k W f))) : PI X tg e (tI k W (itSeq f)) := by
  refine Mp.PI.imp h fun σ H Q ⟨g, env, st, S, q⟩ => ⟨g, env, st, S, (q.bind (R1 := rV k) m0I).imp fun v H1 ⟨x, st1, g1, x1, S1, r1, q1⟩ => ?_⟩
  cases x with
  | lst xs =>
    obtain ⟨a, vs, rfl, h, r⟩ := Rep.lst r1
    exact .inl ⟨a, rfl, ⟨vs, SqL.of (S1.sub _ _ h)⟩, After.pure (a := xs) (R := rI k) S1 q1 (ItOk.list h r)⟩
  | tup xs =>
    obtain ⟨a, vs, rfl, h, r⟩ := Rep.tup r1
    exact .inr ⟨a, rfl, ⟨vs, S1.tup h⟩, After.pure (a := xs) (R := rI k) S1 q1 (ItOk.tup h r)⟩
  | _ => exact q1.elim
theorem sx_itRng1 {tg e : Expr} {f : EvT} (h : PI X tg e (iRng1 (tCons (tV k W f) tNil))) : PI X tg e (tI k W (itRng1 f)) := by
  refine Mp.PI.imp h fun σ H Q ⟨g, env, st, S, q⟩ => ⟨g, env, st, S, (q.bind (R1 := rV k) m0I).imp fun v H1 ⟨x, st1, g1, x1, S1, r1, q1⟩ => ?_⟩
  cases x with
  | int j =>
    have q1 : After k W (rI k) σ env g1 st1 H1 Q ((if j < 2 ^ 60 ∧ -(2 ^ 60) < j then Ev.pure (rangeL 0 j.toNat) else Ev.bad) env st1) := q1
    split at q1
    · rename_i hj
      obtain rfl := Rep.int r1
      exact ⟨j, rfl, by omega, by omega, After.pure (a := rangeL 0 j.toNat) (R := rI k) S1 q1 ItOk.range⟩
    · exact q1.elim
  | _ => exact q1.elim
theorem sx_itRng2 {tg e : Expr} {f f2 : EvT} (h : PI X tg e (iRng2 (tCons (tV k W f) (tCons (tV k W f2) tNil)))) : PI X tg e (tI k W (itRng2 f f2)) := by
  refine Mp.PI.imp h fun σ H Q ⟨g, env, st, S, q⟩ => ⟨g, env, st, S, (q.bind (R1 := rV k) m0I).imp fun v H1 ⟨x, st1, g1, x1, S1, r1, q1⟩ => ⟨g1, env, st1, S1, (q1.bind (R1 := rV k) m0I).imp fun w H2 ⟨y, st2, g2, x2, S2, r2, q2⟩ => ?_⟩⟩
  cases x with
  | int i =>
    cases y with
    | int j =>
      have q2 : After k W (rI k) σ env g2 st2 H2 Q ((if (j < 2 ^ 60 ∧ -(2 ^ 60) < j) ∧ i < 2 ^ 60 ∧ -(2 ^ 60) < i then Ev.pure (rangeL i (j - i).toNat) else Ev.bad) env st2) := q2
      split at q2
      · rename_i hj
        obtain rfl := Rep.int r1
        obtain rfl := Rep.int r2
        exact ⟨i, j, rfl, ⟨by omega, by omega, by omega, by omega⟩, After.pure (a := rangeL i (j - i).toNat) (R := rI k) S2 q2 ItOk.range⟩
      · exact q2.elim
    | _ => exact q2.elim
  | _ => exact q2.elim

/-! ### targets -/
/-- what a target's store does; P: the slots that it may set -/
def GOk (k : Gk) (P : Nat → Prop) (g : Tg) (t : TG) : Prop := ∀ (x : T) (env env' : En), Tg.put g x env = some env' → ∀ (g0 : Gh) (st : Store) (σ : L2.St) (H : Hp) (v : V) (Q : L2.St → Hp → Prop), SR k g0 env st σ H → Rep k g0 x v →
  (∀ σ', SR k g0 env' st σ' H → Ext g0 env st σ H g0 env' st σ' H → (∀ j, ¬ P j → σ'[j]? = σ[j]? ∧ env'[j]? = env[j]?) → σ'.length = σ.length → Q σ' H) → t v σ H Q
def GsOk (k : Gk) (P : Nat → Prop) (gs : List Tg) (t : TGs) : Prop := ∀ (xs : List T) (env env' : En), Tg.putL gs xs env = some env' → ∀ (g0 : Gh) (st : Store) (σ : L2.St) (H : Hp) (vs : List V) (Q : L2.St → Hp → Prop), SR k g0 env st σ H → RepL k g0 xs vs →
  (∀ σ', SR k g0 env' st σ' H → Ext g0 env st σ H g0 env' st σ' H → (∀ j, ¬ P j → σ'[j]? = σ[j]? ∧ env'[j]? = env[j]?) → σ'.length = σ.length → Q σ' H) → t vs σ H Q
section
variable {P : Nat → Prop}
theorem gok_name {i : Nat} (hi : P i) : GOk k P (.name i) (gName i) := by
  intro x env env' e g0 st σ H v Q S r q
  cases e
  obtain ⟨S', x'⟩ := S.setFr i r
  refine q _ S' x' (fun j hj => ?_) (by simp)
  have : i ≠ j := fun z => hj (z ▸ hi)
  rw [List.getElem?_set_ne this, List.getElem?_set_ne this]
  exact ⟨rfl, rfl⟩
theorem gsok_nil : GsOk k P [] gNil := by
  intro xs env env' e g0 st σ H vs Q S r q
  cases xs with
  | nil =>
    cases e
    exact ⟨RepL.nil.mp r, q σ S Ext.refl (fun _ _ => ⟨rfl, rfl⟩) rfl⟩
  | cons a b => cases e
theorem gsok_cons {g : Tg} {gs : List Tg} {t : TG} {u : TGs} (h1 : GOk k P g t) (h2 : GsOk k P gs u) : GsOk k P (g :: gs) (gCons t u) := by
  intro xs env env' e g0 st σ H vs Q S r q
  cases xs with
  | nil => cases e
  | cons a b =>
    have e : (Tg.put g a env).bind (fun env' => Tg.putL gs b env') = some env' := e
    cases h : Tg.put g a env with
    | none => rw [h] at e; cases e
    | some env1 =>
      rw [h] at e
      obtain ⟨w, ws, rfl, r1, r2⟩ := RepL.cons.mp r
      exact ⟨w, ws, rfl, h1 a env env1 h g0 st σ H w _ S r1 fun σ1 S1 x1 k1 l1 => h2 b env1 env' e g0 st σ1 H ws Q S1 r2 fun σ2 S2 x2 k2 l2 => q σ2 S2 (x1.trans x2) (fun j hj => ⟨(k2 j hj).1.trans (k1 j hj).1, (k2 j hj).2.trans (k1 j hj).2⟩) (l2.trans l1)⟩
theorem putL_len : ∀ (gs : List Tg) (ts : List T) (env env' : En), Tg.putL gs ts env = some env' → ts.length = gs.length
  | [], [], _, _, _ => rfl
  | [], _ :: _, _, _, e => by cases e
  | _ :: _, [], _, _, e => by cases e
  | g :: gs, t :: ts, env, env', e => by
    have e : (Tg.put g t env).bind (fun env' => Tg.putL gs ts env') = some env' := e
    cases h : Tg.put g t env with
    | none => rw [h] at e; cases e
    | some env1 =>
      rw [h] at e
      simp [putL_len gs ts env1 env' e]
theorem gok_tup {gs : List Tg} {u : TGs} {n : Nat} (h : GsOk k P gs u) (hn : n = gs.length) : GOk k P (.tup gs) (gTup k.K n u) := by
  intro x env env' e g0 st σ H v Q S r q
  cases x with
  | tup ts =>
    obtain ⟨a, vs, rfl, hs, r⟩ := r.tup
    have e : Tg.putL gs ts env = some env' := e
    exact ⟨a, vs, rfl, S.tup hs, by rw [hn, ← r.length, putL_len _ _ _ _ e], h ts env env' e g0 st σ H vs Q S r q⟩
  | _ => cases e
end

/-! ### comprehensions -/
theorem wipe_in {σ : L2.St} {i : Nat} : ∀ {vs : List Nat}, i ∈ vs → (L2.wipe σ vs)[i]? = none ∨ (L2.wipe σ vs)[i]? = some none
  | v :: vs, h => by
    unfold L2.wipe
    by_cases e : v = i
    · subst e
      rw [List.getElem?_set_self']
      cases (L2.wipe σ vs)[v]? with
      | none => exact .inl rfl
      | some w => exact .inr rfl
    · rw [List.getElem?_set_ne e]
      rcases List.mem_cons.mp h with z | z
      · exact absurd z.symm e
      · exact wipe_in z
theorem wipeE_in {env : En} {i : Nat} : ∀ {vs : List Nat}, i ∈ vs → (wipeE vs env)[i]? = none ∨ (wipeE vs env)[i]? = some .no
  | v :: vs, h => by
    unfold wipeE
    by_cases e : v = i
    · subst e
      rw [List.getElem?_set_self']
      cases (wipeE vs env)[v]? with
      | none => exact .inl rfl
      | some w => exact .inr rfl
    · rw [List.getElem?_set_ne e]
      rcases List.mem_cons.mp h with z | z
      · exact absurd z.symm e
      · exact wipeE_in z
theorem wipe_eq {σ σ2 : L2.St} {vs : List Nat} (hl : σ2.length = σ.length) (h : ∀ j, ¬ j ∈ vs → σ2[j]? = (L2.wipe σ vs)[j]?) : L2.wipe σ2 vs = L2.wipe σ vs := by
  apply List.ext_getElem?
  intro j
  by_cases hj : j ∈ vs
  · have l1 := L2.wipe_length σ vs
    have l2 := L2.wipe_length σ2 vs
    by_cases hlt : j < σ.length
    · rcases wipe_in (σ := σ2) hj with e | e
      · rw [List.getElem?_eq_none_iff] at e; omega
      · rcases wipe_in (σ := σ) hj with e' | e'
        · rw [List.getElem?_eq_none_iff] at e'; omega
        · rw [e, e']
    · rw [List.getElem?_eq_none (by omega), List.getElem?_eq_none (by omega)]
  · rw [L2.wipe_out hj]
    exact h j hj
abbrev WF : L2.WX := fun _ _ _ _ => False
theorem comp_loop {gT : TG} {gt : Tg} {fc : EvB} {fe : EvT} {vs : List Nat} {J : It} {xs : List T} {D : Addr} {R0 : Hp → Prop} (hg : GOk k (· ∈ vs) gt gT) (S : SR k g env st σ H) (hJ : ItOk k g xs J) (hD : H D = none) (hz : xs.length ≤ 100000) {ys : List T} {st' : Store}
    (e : compL gt fc fe (wipeE vs env) xs st = .ok ys st') (hQ : ∀ ws g' H', Ext g env st σ H g' env st' σ H' → SR k g' env st' σ H' → H' D = some (.lst ws) → ¬ Trk g' env st' σ H' D → RepL k g' ys ws → R0 H') :
    ∃ Wi : Nat → Nat → Hp → Prop, (∃ m, Wi 0 m (upd H D (.lst []))) ∧ ∀ i m H, Wi i m H → (J.stop i H ∧ R0 H) ∨ (J.go i H ∧ ∃ Nx : Hp → Prop, (∀ H', Nx H' → ∃ m', m' < m ∧ Wi (i + 1) m' H') ∧ ∀ x H', J.yld i H x H' → gT x (L2.wipe σ vs) H' fun σ2 H2 => L2.wipe σ2 vs = L2.wipe σ vs ∧
      tT k WF fc σ2 H2 fun b H3 => if b = true then tV k WF fe σ2 H3 fun y H4 => ∃ acc, H4 D = some (.lst acc) ∧ acc.length < sizeLine ∧ Nx (upd H4 D (.lst (acc ++ [y]))) else Nx H3) := by
  -- the block's own view
  have b : Sub (wipeE vs env) (L2.wipe σ vs) env σ := Sub.wipe vs
  have Sw0 : SR k g (wipeE vs env) st (L2.wipe σ vs) H := (S.wipe vs).1
  have lw : (wipeE vs env).length = (L2.wipe σ vs).length := Sw0.len
  obtain ⟨Sw, xw, nw⟩ := Sw0.skip (o := .lst []) hD
  refine ⟨fun i m H1 => m = xs.length - i ∧ i ≤ xs.length ∧ ∃ g1 st1 done ws ys2, Ext g (wipeE vs env) st (L2.wipe σ vs) H g1 (wipeE vs env) st1 (L2.wipe σ vs) H1 ∧ SR k g1 (wipeE vs env) st1 (L2.wipe σ vs) H1 ∧
    H1 D = some (.lst ws) ∧ ¬ Trk g1 (wipeE vs env) st1 (L2.wipe σ vs) H1 D ∧ RepL k g1 done ws ∧ ws.length ≤ i ∧ compL gt fc fe (wipeE vs env) (xs.drop i) st1 = .ok ys2 st' ∧ ys = done ++ ys2, ⟨xs.length, by simp, Nat.zero_le _, g, st, [], [], ys, xw, Sw, upd_same, nw, RepL.nil.mpr rfl, Nat.le_refl _, by simpa using e, rfl⟩, ?_⟩
  rintro i m H1 ⟨rfl, hi, g1, st1, done, ws, ys2, x1, S1, hD1, n1, r1, hw, e1, rfl⟩
  have it := hJ i g1 _ _ _ _ x1.le S1
  by_cases hlt : i < xs.length
  · right
    obtain ⟨go, yl⟩ := it.1 xs[i] (by simp [hlt])
    rw [List.drop_eq_getElem_cons hlt] at e1
    refine ⟨go, fun H' => ∃ g2 st2 done2 ws2 ys3, Ext g (wipeE vs env) st (L2.wipe σ vs) H g2 (wipeE vs env) st2 (L2.wipe σ vs) H' ∧ SR k g2 (wipeE vs env) st2 (L2.wipe σ vs) H' ∧
      H' D = some (.lst ws2) ∧ ¬ Trk g2 (wipeE vs env) st2 (L2.wipe σ vs) H' D ∧ RepL k g2 done2 ws2 ∧ ws2.length ≤ i + 1 ∧ compL gt fc fe (wipeE vs env) (xs.drop (i + 1)) st2 = .ok ys3 st' ∧ done ++ ys2 = done2 ++ ys3, fun H' h => ⟨xs.length - (i + 1), by omega, rfl, hlt, h⟩, fun x H' y => ?_⟩
    obtain ⟨g2, gr, rx⟩ := yl x H' y
    unfold compL at e1
    cases hp : Tg.put gt xs[i] (wipeE vs env) with
    | none => rw [hp] at e1; cases e1
    | some env2 =>
      rw [hp] at e1
      simp only at e1
      have S2 := S1.grow gr
      have x2 := x1.trans (Ext.grow S1 gr)
      have nD2 := (Ext.grow S1 gr).keep D _ hD1 n1
      refine hg xs[i] _ env2 hp g2 st1 (L2.wipe σ vs) H' x _ S2 rx fun σ2 S3 x3 same l3 => ?_
      have nD3 := x3.keep D _ nD2.1 nD2.2
      have w2 : L2.wipe σ2 vs = L2.wipe σ vs := wipe_eq (by rw [l3, L2.wipe_length]) fun j hj => (same j hj).1
      refine ⟨w2, g2, env2, st1, S3, ?_⟩
      -- back to the block's view
      have sb : Sub (wipeE vs env) (L2.wipe σ vs) env2 σ2 := ⟨fun j => by
        by_cases hj : j ∈ vs
        · exact .inr (wipeE_in hj)
        · exact .inl ⟨(same j hj).2.symm, (same j hj).1.symm⟩⟩
      cases ec : fc env2 st1 with
      | bad => rw [ec] at e1; cases e1
      | err c vs' st2 => rw [ec] at e1; cases e1
      | ok bb st2 =>
        rw [ec] at e1
        intro bv H3 g3 x4 S4 rb
        obtain rfl : bb = bv := rb
        have nD4 := x4.keep D _ nD3.1 nD3.2
        cases bb with
        | false =>
          rw [if_neg (by decide)]
          have S5 := S4.part sb lw
          have x5 := (((x2.trans x3).trans x4).trans (Ext.part S4 sb))
          exact ⟨g3, st2, done, ws, ys2, x5, S5, nD4.1, fun z => nD4.2 (z.up sb), RepL.mono (gr.le.trans x4.le) _ _ r1, by omega, e1, rfl⟩
        | true =>
          rw [if_pos rfl]
          simp only at e1
          refine ⟨g3, env2, st2, S4, ?_⟩
          cases ee : fe env2 st2 with
          | bad => rw [ee] at e1; cases e1
          | err c vs' st3 => rw [ee] at e1; cases e1
          | ok t st3 =>
            rw [ee] at e1
            simp only at e1
            intro v H4 g4 x5 S5 rv
            have nD5 := x5.keep D _ nD4.1 nD4.2
            cases er : compL gt fc fe (wipeE vs env) (xs.drop (i + 1)) st3 with
            | bad => rw [er] at e1; cases e1
            | err c vs' st4 => rw [er] at e1; cases e1
            | ok zs st4 =>
              rw [er] at e1
              cases e1
              have S6 := S5.part sb lw
              have x6 := ((((x2.trans x3).trans x4).trans x5).trans (Ext.part S5 sb))
              have n6 : ¬ Trk g4 (wipeE vs env) st3 (L2.wipe σ vs) H4 D := fun z => nD5.2 (z.up sb)
              have no : ∀ a, HO.lst ws ≠ .own a := fun a z => by cases z
              have ni : ∀ C dx fs, HO.lst (ws ++ [v]) ≠ .ins C dx fs := fun _ _ _ z => by cases z
              obtain ⟨S7, n7⟩ := S6.updU (u := .lst (ws ++ [v])) nD5.1 no ni n6
              have x7 := x6.updU S6 (u := .lst (ws ++ [v])) nD5.1 no ni n6 (fun z => absurd hD z)
              exact ⟨ws, nD5.1, by rw [sizeLine_eq]; omega, g4, st3, done ++ [t], ws ++ [v], zs, x7, S7, upd_same, n7, (RepL.mono ((gr.le.trans x4.le).trans x5.le) _ _ r1).append (RepL.one rv), by simp; omega, er, by simp⟩
  · have ei : i = xs.length := by omega
    subst ei
    left
    rw [List.drop_length] at e1
    cases e1
    obtain ⟨S2, x2⟩ := S.back b x1 S1
    exact ⟨it.2 (Nat.le_refl _), hQ ws g1 H1 x2 S2 hD1 (Trk.back S b x1 S1 hD n1) (by simpa using r1)⟩
/-- [elt for target in iter if ..]: a new list -/
theorem comp_tLc {fi : EvI} {gt : Tg} {gT : TG} {fc : EvB} {fe : EvT} {vs : List Nat} (hg : GOk k (· ∈ vs) gt gT) {Q : VK} (q : tF k W (comp1 vs fi gt fc fe) σ H Q) : tLc (tI k W fi) gT (tT k WF fc) (tV k WF fe) vs σ H Q := by
  obtain ⟨g, env, st, S, q⟩ := q
  refine ⟨g, env, st, S, (q.bind (R1 := rI k) m0F).imp fun J H1 ⟨xs, st1, g1, x1, S1, r1, q1⟩ D hD => ?_⟩
  have q1 : After k W (rF k) σ env g1 st1 H1 Q (if xs.length ≤ 100000 then (match compL gt fc fe (wipeE vs env) xs st1 with
    | .ok ys st2 => .ok (.lst ys) st2
    | _ => .bad) else .bad) := q1
  split at q1
  · rename_i hz
    split at q1
    · rename_i ys st2 e
      exact comp_loop hg S1 r1 hD hz e fun ws g' H' x2 S2 hD2 n2 r2 => q1 (.ref D) H' g' x2 S2 ⟨D, ws, rfl, hD, hD2, r2, n2⟩
    · exact q1.elim
  · exact q1.elim

/-! ### calls -/
/-- the promise of a def by values: fr: it hands out a new list -/
def AfterF (k : Gk) (fr : Bool) (g : Gh) (st : Store) (H : Hp) (Q : VK) (E : XK) : Out T → Prop
  | .ok t st' => ∀ v H' g', Ext g [] st [] H g' [] st' [] H' → SR k g' [] st' [] H' → (if fr = true then rF k H [] st' [] g' H' t v else Rep k g' t v) → Q v H'
  | .err c vs st' => ∀ cls d H' g', Ext g [] st [] H g' [] st' [] H' → SR k g' [] st' [] H' → ErrOk k g' H' c vs cls d → E cls d H'
  | .bad => False
def spOf (k : Gk) (fr : Bool) (fn : FnD) : Sp := fun vs H Q E => ∃ g st ts, SR k g [] st [] H ∧ RepL k g ts vs ∧ AfterF k fr g st H Q E (fn ts st)
def rFn (k : Gk) (fr : Bool) : Rdg T V := if fr = true then rF k else rV k
theorem m0Fn {fr : Bool} : Mono0 (rFn k fr) := by
  cases fr with
  | true => exact m0F
  | false => exact m0V
theorem After.toF {fr : Bool} {Q : VK} (S : SR k g env st σ H) {r : Out T} (q : After k W (rFn k fr) σ env g st H Q r) : AfterF k fr g st H Q (fun cls d H' => W cls d σ H') r := by
  cases r with
  | ok t st' =>
    intro v H' g' x S' r
    obtain ⟨S2, x2⟩ := S.back .nil x S'
    refine q v H' g' x2 S2 ?_
    cases fr with
    | false => exact r
    | true =>
      have r : rF k H [] st' [] g' H' t v := r
      show rF k H env st' σ g' H' t v
      cases t with
      | lst xs =>
        obtain ⟨a, vs, e, h0, h1, h2, n⟩ := r
        exact ⟨a, vs, e, h0, h1, h2, Trk.back S .nil x S' h0 n⟩
      | dct xs =>
        obtain ⟨a, vs, e, h0, h1, h2, n⟩ := r
        exact ⟨a, vs, e, h0, h1, h2, Trk.back S .nil x S' h0 n⟩
      | _ => exact r
  | err c vs st' =>
    intro cls d H' g' x S' r
    obtain ⟨S2, x2⟩ := S.back .nil x S'
    exact q cls d H' g' x2 S2 r
  | bad => exact q
theorem sx_call {fr : Bool} {fn : FnD} {fs : List EvT} {e : Expr} (h : PE X e (fun σ H Q => tL k W fs σ H fun vs H1 => spOf k fr fn vs H1 Q (fun cls d H' => W cls d σ H'))) : PE X e (tR k W (rFn k fr) (callP fn fs)) := by
  refine Mp.PE.imp h fun σ H Q ⟨g, env, st, S, q⟩ => ⟨g, env, st, S, (q.bind (R1 := rL k) m0Fn).imp fun vs H1 ⟨ts, st1, g1, x1, S1, r1, q1⟩ => ?_⟩
  exact ⟨g1, st1, ts, S1.bare, r1, q1.toF S1⟩
theorem PE.thawFn {fr : Bool} {e : Expr} {f : EvT} (h : PE X e (tR k W (rFn k fr) f)) : PE X e (tV k W f) := by
  cases fr with
  | false => exact h
  | true => exact Mp.PE.thaw h
end
end Mp


set_option Elab.async false
set_option linter.all false
set_option maxRecDepth 100000
set_option maxHeartbeats 1000000
/-! Stm: the soundness of statements. -/
namespace Mp
open PySem PySem.Spec PyProof.Rows L2
/-- own lists were made since H00 -/
def Born (H00 : Hp) (env : En) (σ : L2.St) : Prop := ∀ (i : Nat) (t : T) (a : Addr), env[i]? = some (Slot.own t) → σ[i]? = some (some (.ref a)) → H00 a = none
structure SB (k : Gk) (H00 : Hp) (g : Gh) (env : En) (st : Store) (σ : L2.St) (H : Hp) : Prop where
  s : SR k g env st σ H
  d : Dom H00 H
  b : Born H00 env σ
/-- what is handed out -/
def RetOk (k : Gk) (fr : Bool) (H00 : Hp) (g : Gh) (env : En) (st : Store) (σ : L2.St) (H : Hp) (t : T) (v : V) : Prop :=
  (∃ i : Nat, env[i]? = some (Slot.own t) ∧ σ[i]? = some (some v)) ∨ (if fr = true then rF k H00 env st σ g H t v else Rep k g t v)
section
variable (k : Gk) (W : L2.WX) (fr : Bool) (H00 : Hp)
def AfterS (g : Gh) (env : En) (st : Store) (σ : L2.St) (H : Hp) (D : L2.Ends) : OutS → Prop
  | .ok .nx env' st' => ∀ σ' H' g', Ext g env st σ H g' env' st' σ' H' → SB k H00 g' env' st' σ' H' → D.nx σ' H'
  | .ok .brk env' st' => ∀ σ' H' g', Ext g env st σ H g' env' st' σ' H' → SB k H00 g' env' st' σ' H' → D.bk σ' H'
  | .ok .ct env' st' => ∀ σ' H' g', Ext g env st σ H g' env' st' σ' H' → SB k H00 g' env' st' σ' H' → D.ct σ' H'
  | .ok (.ret t) env' st' => ∀ v σ' H' g', Ext g env st σ H g' env' st' σ' H' → SB k H00 g' env' st' σ' H' → RetOk k fr H00 g' env' st' σ' H' t v → D.rt v H'
  | .err c vs env' st' => ∀ cls d σ' H' g', Ext g env st σ H g' env' st' σ' H' → SB k H00 g' env' st' σ' H' → ErrOk k g' H' c vs cls d → W cls d σ' H'
  | .bad => False
def tSx (f : EvS) : TS := fun D σ H => ∃ g env st, SB k H00 g env st σ H ∧ AfterS k W fr H00 g env st σ H D (f env st)
end
section
variable {k : Gk} {W : L2.WX} {fr : Bool} {H00 : Hp} {X : Cx} {α γ : Type} {R1 : Rdg α γ} {g g1 : Gh} {env env1 : En} {st st1 : Store} {σ σ1 : L2.St} {H H1 : Hp} {D D' : L2.Ends}
theorem AfterS.shift (x : Ext g env st σ H g1 env1 st1 σ1 H1) {r : OutS} (q : AfterS k W fr H00 g env st σ H D r) : AfterS k W fr H00 g1 env1 st1 σ1 H1 D r := by
  cases r with
  | bad => exact q
  | err c vs e s => exact fun cls d σ' H' g' y S h => q cls d σ' H' g' (x.trans y) S h
  | ok f e s =>
    cases f with
    | nx => exact fun σ' H' g' y S => q σ' H' g' (x.trans y) S
    | brk => exact fun σ' H' g' y S => q σ' H' g' (x.trans y) S
    | ct => exact fun σ' H' g' y S => q σ' H' g' (x.trans y) S
    | ret t => exact fun v σ' H' g' y S h => q v σ' H' g' (x.trans y) S h
/-- an expression, then the rest -/
theorem sbind {f : Ev α} {kk : α → EvS} (B : SB k H00 g env st σ H) (q : AfterS k W fr H00 g env st σ H D (sBind f kk env st)) :
    After k W R1 σ env g st H (fun v H1 => ∃ a st1 g1, Ext g env st σ H g1 env st1 σ H1 ∧ SB k H00 g1 env st1 σ H1 ∧ R1 H env st1 σ g1 H1 a v ∧ AfterS k W fr H00 g1 env st1 σ H1 D (kk a env st1)) (f env st) := by
  unfold sBind at q
  cases e : f env st with
  | bad => rw [e] at q; exact q
  | err c vs st' =>
    rw [e] at q
    exact fun cls d H' g' x S h => q cls d σ H' g' x ⟨S, fun a ha => x.there a (B.d a ha), B.b⟩ h
  | ok a st1 =>
    rw [e] at q
    exact fun v H1 g1 x S r => ⟨a, st1, g1, x, ⟨S, fun a ha => x.there a (B.d a ha), B.b⟩, r, AfterS.shift x q⟩
/-- .. what is left told of the start -/
theorem sbind0 {f : Ev α} {kk : α → EvS} (B : SB k H00 g env st σ H) (q : AfterS k W fr H00 g env st σ H D (sBind f kk env st)) :
    After k W R1 σ env g st H (fun v H1 => ∃ a st1 g1, Ext g env st σ H g1 env st1 σ H1 ∧ SB k H00 g1 env st1 σ H1 ∧ R1 H env st1 σ g1 H1 a v ∧ AfterS k W fr H00 g env st σ H D (kk a env st1)) (f env st) := by
  unfold sBind at q
  cases e : f env st with
  | bad => rw [e] at q; exact q
  | err c vs st' =>
    rw [e] at q
    exact fun cls d H' g' x S h => q cls d σ H' g' x ⟨S, fun a ha => x.there a (B.d a ha), B.b⟩ h
  | ok a st1 =>
    rw [e] at q
    exact fun v H1 g1 x S r => ⟨a, st1, g1, x, ⟨S, fun a ha => x.there a (B.d a ha), B.b⟩, r, q⟩
theorem tSx.bind {f : Ev α} {kk : α → EvS} (q : tSx k W fr H00 (sBind f kk) D σ H) :
    tR k W R1 f σ H (fun v H1 => ∃ g0 H0 env st a st1 g1, Ext g0 env st σ H0 g1 env st1 σ H1 ∧ SB k H00 g1 env st1 σ H1 ∧ R1 H0 env st1 σ g1 H1 a v ∧ Dom H00 H0 ∧ AfterS k W fr H00 g1 env st1 σ H1 D (kk a env st1)) := by
  obtain ⟨g, env, st, B, q⟩ := q
  exact ⟨g, env, st, B.s, (sbind B q).imp fun v H1 ⟨a, st1, g1, x, B1, r, q1⟩ => ⟨g, H, env, st, a, st1, g1, x, B1, r, B.d, q1⟩⟩
theorem ps_bad {s : Stmt} : PS X s (tSx k W fr H00 sBad) := ⟨fun _ _ _ _ _ _ q => by obtain ⟨g, env, st, S, q⟩ := q; exact q.elim⟩
theorem st_nx {s : Stmt} (h : PS X s tNext) : PS X s (tSx k W fr H00 sNx) := Mp.PS.imp h fun D σ H ⟨g, env, st, B, q⟩ => q σ H g Ext.refl B
theorem sts_nx {s : List Stmt} (h : PSs X s tNext) : PSs X s (tSx k W fr H00 sNx) := Mp.PSs.imp h fun D σ H ⟨g, env, st, B, q⟩ => q σ H g Ext.refl B
theorem st_brk {s : Stmt} (h : PS X s tBreak) : PS X s (tSx k W fr H00 (sFl .brk)) := Mp.PS.imp h fun D σ H ⟨g, env, st, B, q⟩ => q σ H g Ext.refl B
theorem st_ct {s : Stmt} (h : PS X s tCont) : PS X s (tSx k W fr H00 (sFl .ct)) := Mp.PS.imp h fun D σ H ⟨g, env, st, B, q⟩ => q σ H g Ext.refl B
theorem sts_seq {s : List Stmt} {f h' : EvS} (h : PSs X s (tSeq (tSx k W fr H00 f) (tSx k W fr H00 h'))) : PSs X s (tSx k W fr H00 (sSeq f h')) := by
  refine Mp.PSs.imp h fun D σ H ⟨g, env, st, B, q⟩ => ⟨g, env, st, B, ?_⟩
  unfold sSeq at q
  cases e : f env st with
  | bad => rw [e] at q; exact q
  | err c vs e1 s1 => rw [e] at q; exact q
  | ok fl e1 s1 =>
    rw [e] at q
    cases fl with
    | nx => exact fun σ' H' g' x B' => ⟨g', e1, s1, B', AfterS.shift x q⟩
    | brk => exact q
    | ct => exact q
    | ret t => exact q
theorem st_if {s : Stmt} {c : EvB} {f h' : EvS} (h : PS X s (tIfS (tT k W c) (tSx k W fr H00 f) (tSx k W fr H00 h'))) : PS X s (tSx k W fr H00 (sIf c f h')) := by
  refine Mp.PS.imp h fun D σ H q => ?_
  obtain ⟨g, env, st, S, q⟩ := tSx.bind (R1 := rT) q
  refine ⟨g, env, st, S, q.imp fun b H1 ⟨g0, H0, env1, st0, b', st1, g1, x1, B1, r1, d0, q1⟩ => ?_⟩
  obtain rfl : b' = b := r1
  cases b' with
  | true => rw [if_pos rfl]; exact ⟨g1, env1, st1, B1, q1⟩
  | false => rw [if_neg (by decide)]; exact ⟨g1, env1, st1, B1, q1⟩
theorem st_retN {s : Stmt} (h : PS X s tRetN) : PS X s (tSx k W fr H00 (sRet (con .non))) := by
  refine Mp.PS.imp h fun D σ H ⟨g, env, st, B, q⟩ => q .non σ H g Ext.refl B (.inr ?_)
  split
  · exact (rep_non : Rep k g .non .non)
  · exact (rep_non : Rep k g .non .non)
/-- return of a value, of a new list, of one's own -/
theorem st_retV {s : Stmt} {f : EvT} (hf : fr = false) (h : PS X s (tRet (tV k W f))) : PS X s (tSx k W fr H00 (sRet f)) := by
  refine Mp.PS.imp h fun D σ H q => ?_
  obtain ⟨g, env, st, S, q⟩ := tSx.bind (R1 := rV k) q
  refine ⟨g, env, st, S, q.imp fun v H1 ⟨g0, H0, env1, st0, t, st1, g1, x1, B1, r1, d0, q1⟩ => ?_⟩
  exact q1 v σ H1 g1 Ext.refl B1 (.inr (by rw [hf]; exact r1))
theorem st_retF {s : Stmt} {f : EvT} (hf : fr = true) (h : PS X s (tRet (tF k W f))) : PS X s (tSx k W fr H00 (sRet f)) := by
  refine Mp.PS.imp h fun D σ H q => ?_
  obtain ⟨g, env, st, S, q⟩ := tSx.bind (R1 := rF k) q
  refine ⟨g, env, st, S, q.imp fun v H1 ⟨g0, H0, env1, st0, t, st1, g1, x1, B1, r1, d0, q1⟩ => ?_⟩
  exact q1 v σ H1 g1 Ext.refl B1 (.inr (by rw [hf]; exact m0F _ _ _ _ _ _ _ _ _ d0 r1))
/-- a slot read where it stands, handed out -/
theorem st_retP {s : Stmt} {i : Nat} (hf : fr = false) (h : PS X s (tRet (tVar i))) : PS X s (tSx k W fr H00 (sRet (peek i))) := by
  refine Mp.PS.imp h fun D σ H ⟨g, env, st, B, q⟩ => ?_
  cases e : env[i]? with
  | none => simp only [sRet, sBind, peek, e] at q; exact q.elim
  | some sl =>
    cases sl with
    | fr t =>
      simp only [sRet, sBind, peek, e] at q
      obtain ⟨v, e1, r⟩ := B.s.fr i t e
      exact ⟨v, e1, q v σ H g Ext.refl B (.inr (by rw [hf]; exact r))⟩
    | own t =>
      simp only [sRet, sBind, peek, e] at q
      obtain ⟨a, e1, r⟩ := B.s.own i t e
      exact ⟨_, e1, q _ σ H g Ext.refl B (.inl ⟨i, e, e1⟩)⟩
    | _ => simp only [sRet, sBind, peek, e] at q; exact q.elim
theorem st_retO {s : Stmt} {i : Nat} (h : PS X s (tRet (tVar i))) : PS X s (tSx k W fr H00 (sRet (ownV i))) := by
  refine Mp.PS.imp h fun D σ H ⟨g, env, st, B, q⟩ => ?_
  cases e : env[i]? with
  | none => simp only [sRet, sBind, ownV, e] at q; exact q.elim
  | some sl =>
    cases sl with
    | own t =>
      simp only [sRet, sBind, ownV, e] at q
      obtain ⟨a, e1, r⟩ := B.s.own i t e
      exact ⟨_, e1, q _ σ H g Ext.refl B (.inl ⟨i, e, e1⟩)⟩
    | _ => simp only [sRet, sBind, ownV, e] at q; exact q.elim

/-! ### names set -/
theorem Born.set {i : Nat} {s : Slot} {v : Option V} (b : Born H00 env σ) (h : ∀ t a, s = Slot.own t → v = some (.ref a) → H00 a = none) : Born H00 (env.set i s) (σ.set i v) := fun j t a e1 e2 => by
  by_cases hj : i = j
  · subst hj
    rw [List.getElem?_set_self'] at e1 e2
    cases h1 : env[i]? with
    | none => rw [h1] at e1; cases e1
    | some w =>
      cases h2 : σ[i]? with
      | none => rw [h2] at e2; cases e2
      | some u =>
        rw [h1] at e1
        rw [h2] at e2
        exact h t a (by simpa using e1) (by simpa using e2)
  · rw [List.getElem?_set_ne hj] at e1 e2
    exact b j t a e1 e2
mutual
theorem put_own : ∀ (gt : Tg) (x : T) (env env' : En), Tg.put gt x env = some env' → ∀ (j : Nat) (t : T), env'[j]? = some (Slot.own t) → env[j]? = some (Slot.own t)
  | .name i, x, env, env', e, j, t, h => by
    cases e
    by_cases hj : i = j
    · subst hj
      rw [List.getElem?_set_self'] at h
      cases h1 : env[i]? with
      | none => rw [h1] at h; cases h
      | some w => rw [h1] at h; simp at h
    · rw [List.getElem?_set_ne hj] at h; exact h
  | .tup gs, .tup ts, env, env', e, j, t, h => putL_own gs ts env env' e j t h
  | .tup _, .non, _, _, e, _, _, _ => by cases e
  | .tup _, .bl _, _, _, e, _, _, _ => by cases e
  | .tup _, .int _, _, _, e, _, _, _ => by cases e
  | .tup _, .str _, _, _, e, _, _, _ => by cases e
  | .tup _, .lst _, _, _, e, _, _, _ => by cases e
  | .tup _, .dct _, _, _, e, _, _, _ => by cases e
  | .tup _, .set _, _, _, e, _, _, _ => by cases e
  | .tup _, .ins _ _ _, _, _, e, _, _, _ => by cases e
  | .tup _, .obj _, _, _, e, _, _, _ => by cases e
theorem putL_own : ∀ (gs : List Tg) (xs : List T) (env env' : En), Tg.putL gs xs env = some env' → ∀ (j : Nat) (t : T), env'[j]? = some (Slot.own t) → env[j]? = some (Slot.own t)
  | [], [], env, env', e, j, t, h => by cases e; exact h
  | [], _ :: _, _, _, e, _, _, _ => by cases e
  | _ :: _, [], _, _, e, _, _, _ => by cases e
  | g :: gs, x :: xs, env, env', e, j, t, h => by
    have e : (Tg.put g x env).bind (fun env' => Tg.putL gs xs env') = some env' := e
    cases h1 : Tg.put g x env with
    | none => rw [h1] at e; cases e
    | some env1 =>
      rw [h1] at e
      exact put_own g x env env1 h1 j t (putL_own gs xs env1 env' e j t h)
end
theorem SB.ext (B : SB k H00 g env st σ H) (x : Ext g env st σ H g1 env1 st1 σ1 H1) (S : SR k g1 env1 st1 σ1 H1) (b : Born H00 env1 σ1) : SB k H00 g1 env1 st1 σ1 H1 := ⟨S, fun a ha => x.there a (B.d a ha), b⟩
/-- own slots are old ones -/
theorem Born.old (b : Born H00 env σ) (h : ∀ (i : Nat) (t : T), env1[i]? = some (Slot.own t) → env[i]? = some (Slot.own t) ∧ σ1[i]? = σ[i]?) : Born H00 env1 σ1 := fun i t a e1 e2 => by
  obtain ⟨h1, h2⟩ := h i t e1
  exact b i t a h1 (by rw [← h2]; exact e2)
theorem SR.ownAt (S : SR k g env st σ H) {i : Nat} {t : T} (e : env[i]? = some (Slot.own t)) : ∃ a, σ[i]? = some (some (V.ref a)) ∧ Own k g H a t := S.own i t e
/-- a target's store: the own slots are old ones -/
def GOwn (k : Gk) (gt : Tg) (t : TG) : Prop := ∀ (x : T) (env env' : En), Tg.put gt x env = some env' → ∀ (H00 : Hp) (g0 : Gh) (st : Store) (σ : L2.St) (H : Hp) (v : V) (Q : L2.St → Hp → Prop), SB k H00 g0 env st σ H → Rep k g0 x v →
  (∀ σ', SB k H00 g0 env' st σ' H → Ext g0 env st σ H g0 env' st σ' H → Q σ' H) → t v σ H Q
def GsOwn (k : Gk) (gs : List Tg) (t : TGs) : Prop := ∀ (xs : List T) (env env' : En), Tg.putL gs xs env = some env' → ∀ (H00 : Hp) (g0 : Gh) (st : Store) (σ : L2.St) (H : Hp) (vs : List V) (Q : L2.St → Hp → Prop), SB k H00 g0 env st σ H → RepL k g0 xs vs →
  (∀ σ', SB k H00 g0 env' st σ' H → Ext g0 env st σ H g0 env' st σ' H → Q σ' H) → t vs σ H Q
theorem gown_name {i : Nat} : GOwn k (.name i) (gName i) := by
  intro x env env' e H00 g0 st σ H v Q B r q
  cases e
  obtain ⟨S', x'⟩ := B.s.setFr i r
  exact q _ (B.ext x' S' (B.b.set fun t a h => by cases h)) x'
theorem gsown_nil : GsOwn k [] gNil := by
  intro xs env env' e H00 g0 st σ H vs Q S r q
  cases xs with
  | nil =>
    cases e
    exact ⟨RepL.nil.mp r, q σ S Ext.refl⟩
  | cons a b => cases e
theorem gsown_cons {g : Tg} {gs : List Tg} {t : TG} {u : TGs} (h1 : GOwn k g t) (h2 : GsOwn k gs u) : GsOwn k (g :: gs) (gCons t u) := by
  intro xs env env' e H00 g0 st σ H vs Q S r q
  cases xs with
  | nil => cases e
  | cons a b =>
    have e : (Tg.put g a env).bind (fun env' => Tg.putL gs b env') = some env' := e
    cases h : Tg.put g a env with
    | none => rw [h] at e; cases e
    | some env1 =>
      rw [h] at e
      obtain ⟨w, ws, rfl, r1, r2⟩ := RepL.cons.mp r
      exact ⟨w, ws, rfl, h1 a env env1 h H00 g0 st σ H w _ S r1 fun σ1 S1 x1 => h2 b env1 env' e H00 g0 st σ1 H ws Q S1 r2 fun σ2 S2 x2 => q σ2 S2 (x1.trans x2)⟩
theorem gown_tup {gs : List Tg} {u : TGs} {n : Nat} (h : GsOwn k gs u) (hn : n = gs.length) : GOwn k (.tup gs) (gTup k.K n u) := by
  intro x env env' e H00 g0 st σ H v Q S r q
  cases x with
  | tup ts =>
    obtain ⟨a, vs, rfl, hs, r⟩ := r.tup
    have e : Tg.putL gs ts env = some env' := e
    exact ⟨a, vs, rfl, S.s.tup hs, by rw [hn, ← r.length, putL_len _ _ _ _ e], h ts env env' e H00 g0 st σ H vs Q S r q⟩
  | _ => cases e
theorem AfterS.ofEnv {f : En → Option En} (q : AfterS k W fr H00 g env st σ H D (sEnv f env1 st1)) : ∃ env', f env1 = some env' ∧ AfterS k W fr H00 g env st σ H D (.ok .nx env' st1) := by
  unfold sEnv at q
  cases e : f env1 with
  | none => rw [e] at q; exact q.elim
  | some env' => rw [e] at q; exact ⟨env', rfl, q⟩
theorem st_asg {s : Stmt} {f : EvT} {gt : Tg} {gT : TG} (hg : GOwn k gt gT) (h : PS X s (tAsg (tV k W f) gT)) : PS X s (tSx k W fr H00 (sAsg gt f)) := by
  refine Mp.PS.imp h fun D σ H q => ?_
  obtain ⟨g, env, st, S, q⟩ := tSx.bind (R1 := rV k) q
  refine ⟨g, env, st, S, q.imp fun v H1 ⟨g0, H0, env1, st0, t, st1, g1, x1, B1, r1, d0, q1⟩ => ?_⟩
  obtain ⟨env', e, q2⟩ := AfterS.ofEnv q1
  exact hg t env1 env' e H00 g1 st1 σ H1 v D.nx B1 r1 fun σ' B2 x2 => q2 σ' H1 g1 x2 B2
theorem setSame {i : Nat} {α : Type} {l : List α} {x : α} (h : ¬ i < l.length) : l.set i x = l := by
  apply List.ext_getElem?
  intro j
  by_cases e : i = j
  · subst e
    rw [List.getElem?_eq_none (by simpa using h), List.getElem?_eq_none (by simpa using h)]
  · rw [List.getElem?_set_ne e]
theorem st_own {s : Stmt} {f : EvT} {i : Nat} (h : PS X s (tAsg (tF k W f) (gName i))) : PS X s (tSx k W fr H00 (sOwn i f)) := by
  refine Mp.PS.imp h fun D σ H ⟨g, env, st, B, q⟩ => ⟨g, env, st, B.s, (sbind0 (R1 := rF k) B q).imp fun v H1 ⟨t, st1, g1, x1, B1, r1, q1⟩ => ?_⟩
  obtain ⟨env', e, q2⟩ := AfterS.ofEnv q1
  have fin : ∀ (t : T) (a : Addr), v = .ref a → H a = none → Own k g1 H1 a t → ¬ Trk g1 env st1 σ H1 a → env' = env.set i (.own t) → D.nx (σ.set i (some v)) H1 := by
    intro t a ev h0 ow n ee
    subst ev ee
    by_cases hi : i < env.length
    · have S2 := B1.s.setOwn hi n ow
      have x2 : Ext g env st σ H g1 (env.set i (.own t)) st1 (σ.set i (some (.ref a))) H1 := x1.setOwn B1.s hi (fun z => absurd h0 z)
      exact q2 _ H1 g1 x2 (B.ext x2 S2 (B.b.set fun t' a' h h' => by cases h'; exact B.d.none h0))
    · have hi' : ¬ i < σ.length := by rw [← B.s.len]; exact hi
      rw [setSame hi] at q2
      rw [setSame hi']
      exact q2 _ H1 g1 x1 B1
  cases t with
  | lst xs =>
    obtain ⟨a, vs, rfl, h0, h1, r, n⟩ := r1
    exact fin (.lst xs) a rfl h0 ⟨vs, h1, r⟩ n (by cases e; rfl)
  | dct xs =>
    obtain ⟨a, vs, rfl, h0, h1, r, n⟩ := r1
    exact fin (.dct xs) a rfl h0 ⟨vs, h1, r⟩ n (by cases e; rfl)
  | _ => cases e
/-- x = a new list that stands in the store -/
theorem st_shr {s : Stmt} {f : EvT} {i : Nat} (h : PS X s (tAsg (tF k W f) (gName i))) : PS X s (tSx k W fr H00 (sShr i f)) := by
  refine Mp.PS.imp h fun D σ H ⟨g, env, st, B, q⟩ => ⟨g, env, st, B.s, (sbind0 (R1 := rF k) B q).imp fun v H1 ⟨t, st1, g1, x1, B1, r1, q1⟩ => ?_⟩
  cases t with
  | lst xs =>
    obtain ⟨a, vs, rfl, h0, h1, r, n⟩ := r1
    obtain ⟨S2, le, ea⟩ := B1.s.newCell n h1 r
    have x2 := x1.newCell (xs := xs) B1.s (fun z => absurd h0 z)
    have rp : Rep k (g1.cell a) (.obj st1.length) (.ref a) := by
      unfold Rep
      refine ⟨by rw [ea], ?_⟩
      rw [← B1.s.sz]
      exact Nat.lt_succ_self _
    obtain ⟨S3, x3⟩ := S2.setFr i rp
    have x4 := x2.trans x3
    exact q1 _ H1 _ x4 (B.ext x4 S3 (B.b.set fun t' a' h h' => by cases h))
  | _ => exact q1.elim
/-- a, b = e, f -/
theorem st_par {s : Stmt} {fs : List EvT} {i j : Nat} (h : PS X s (tPar i j (tL k W fs))) : PS X s (tSx k W fr H00 (sPar [i, j] fs)) := by
  refine Mp.PS.imp h fun D σ H ⟨g, env, st, B, q⟩ => ⟨g, env, st, B.s, (sbind0 (R1 := rL k) B q).imp fun vs H1 ⟨ts, st1, g1, x1, B1, r1, q1⟩ => ?_⟩
  obtain ⟨env', e, q2⟩ := AfterS.ofEnv q1
  cases ts with
  | nil => cases e
  | cons t ts =>
    cases ts with
    | nil => cases e
    | cons u ts =>
      cases ts with
      | cons _ _ => cases e
      | nil =>
        cases e
        obtain ⟨w, ws, rfl, ra, r2⟩ := RepL.cons.mp r1
        obtain ⟨w', ws', rfl, rb, r3⟩ := RepL.cons.mp r2
        obtain rfl := RepL.nil.mp r3
        obtain ⟨S2, x2⟩ := B1.s.setFr i ra
        obtain ⟨S3, x3⟩ := S2.setFr j rb
        have x4 := (x1.trans x2).trans x3
        exact ⟨w, w', rfl, q2 _ H1 g1 x4 (B.ext x4 S3 ((B.b.set fun t' a' h h' => by cases h).set fun t' a' h h' => by cases h))⟩

/-! ### changes in place -/
theorem isOwn_of {s : Option Slot} (h : isOwn s = true) : ∃ xs, s = some (Slot.own (.lst xs)) := by
  cases s with
  | none => cases h
  | some s => cases s with
    | own t => cases t with
      | lst xs => exact ⟨xs, rfl⟩
      | _ => cases h
    | _ => cases h
theorem AfterS.upd {i : Nat} {f : Ev (List T)} {op : T → List T → Option T} (q : AfterS k W fr H00 g env st σ H D (sUpd i f op env st)) : (∃ xs, env[i]? = some (Slot.own (.lst xs))) ∧ AfterS k W fr H00 g env st σ H D (sBind f (fun ts => sEnv (updOwn i op ts)) env st) := by
  unfold sUpd at q
  cases h : isOwn env[i]? with
  | false => rw [h] at q; exact q.elim
  | true => rw [h] at q; exact ⟨isOwn_of h, q⟩
/-- x.append(e), x one's own -/
theorem st_app {s : Stmt} {f : EvT} {i : Nat} (h : PS X s (tDrop (tBM k.K "list" rAppend (tVar i) (tL k W [f])))) : PS X s (tSx k W fr H00 (sUpd i (evL [f]) opApp)) := by
  refine Mp.PS.imp h fun D σ H ⟨g, env, st, B, q⟩ => ?_
  obtain ⟨⟨xs, e⟩, q⟩ := q.upd
  obtain ⟨a, ea, vs, hv, rv⟩ := B.s.own i _ e
  refine ⟨.ref a, ea, .inl ⟨rfl, vs, SqL.of hv⟩, g, env, st, B.s, (sbind (R1 := rL k) B q).imp fun ws H1 ⟨ts, st1, g1, x1, B1, r1, q1⟩ => ?_⟩
  obtain ⟨env', e1, q2⟩ := AfterS.ofEnv q1
  unfold updOwn at e1
  rw [e] at e1
  cases h1 : opApp (.lst xs) ts with
  | none => simp [h1] at e1
  | some t' =>
    simp [h1] at e1
    subst e1
    cases ts with
    | nil => cases h1
    | cons x ts => cases ts with
      | cons _ _ => cases h1
      | nil =>
        have h1 : (if xs.length < 100000 then some (T.lst (xs ++ [x])) else none) = some t' := h1
        split at h1
        · rename_i hz
          cases h1
          obtain ⟨w, ws, rfl, ra, r2⟩ := RepL.cons.mp r1
          obtain rfl := RepL.nil.mp r2
          obtain ⟨a', ea', us, hu, ru⟩ := B1.s.own i _ e
          rw [ea] at ea'
          cases ea'
          have S2 := B1.s.updOwn (t' := .lst (xs ++ [x])) e ea hu (fun _ z => by cases z) (u := .lst (us ++ [w])) (fun _ _ _ z => by cases z) ⟨_, upd_same, ru.append (RepL.one ra)⟩
          refine ⟨a, us, w, rfl, rfl, hu, by rw [← ru.length, sizeLine_eq]; omega, ?_⟩
          refine q2 σ _ g1 S2.2 (B1.ext S2.2 S2.1 ?_)
          have := B.b.set (i := i) (s := .own (.lst (xs ++ [x]))) (v := some (.ref a)) fun t' a' _ h' => by cases h'; exact B.b i _ a e ea
          rw [set_same ea] at this
          exact this
        · cases h1
theorem ixOf_ixN {i : Int} {n j : Nat} (h : ixOf i n = some j) : ixN n i = some j := (ixN_of h).1
/-- x[i] = e, x one's own -/
theorem st_put {s : Stmt} {f fi : EvT} {i : Nat} (h : PS X s (tAsg (tV k W f) (gSub (tVar i) (tV k W fi) rSetL))) : PS X s (tSx k W fr H00 (sUpd i (evL [f, fi]) opPut)) := by
  refine Mp.PS.imp h fun D σ H ⟨g, env, st, B, q⟩ => ?_
  obtain ⟨⟨xs, e⟩, q⟩ := q.upd
  have q' : AfterS k W fr H00 g env st σ H D (sBind f (fun x => sBind fi fun y => sEnv (updOwn i opPut [x, y])) env st) := by
    unfold sBind at q ⊢
    unfold evL Ev.bind evL Ev.bind at q
    cases e1 : f env st with
    | bad => rw [e1] at q; exact q
    | err c vs st1 => rw [e1] at q; exact q
    | ok x st1 =>
      rw [e1] at q
      simp only at q ⊢
      cases e2 : fi env st1 with
      | bad => simp only [e2] at q ⊢; exact q
      | err c vs st2 => simp only [e2] at q ⊢; exact q
      | ok y st2 => simp only [e2] at q ⊢; exact q
  refine ⟨g, env, st, B.s, (sbind (R1 := rV k) B q').imp fun v H1 ⟨x, st1, g1, x1, B1, r1, q1⟩ => ?_⟩
  obtain ⟨a, ea, vs, hv, rv⟩ := B1.s.own i _ e
  refine ⟨.ref a, ea, g1, env, st1, B1.s, (sbind (R1 := rV k) B1 q1).imp fun w H2 ⟨y, st2, g2, x2, B2, r2, q2⟩ => ?_⟩
  obtain ⟨env', e1, q3⟩ := AfterS.ofEnv q2
  unfold updOwn at e1
  rw [e] at e1
  cases h1 : opPut (.lst xs) [x, y] with
  | none => simp [h1] at e1
  | some t' =>
    simp [h1] at e1
    subst e1
    cases y with
    | int j =>
      have h1 : (match ixOf j xs.length with | some k => some (T.lst (xs.set k x)) | none => none) = some t' := h1
      cases hj : ixOf j xs.length with
      | none => rw [hj] at h1; cases h1
      | some p =>
        rw [hj] at h1
        cases h1
        obtain ⟨a', ea', us, hu, ru⟩ := B2.s.own i _ e
        rw [ea] at ea'
        cases ea'
        have S2 := B2.s.updOwn (t' := .lst (xs.set p x)) e ea hu (fun _ z => by cases z) (u := .lst (us.set p v)) (fun _ _ _ z => by cases z) ⟨_, upd_same, ru.set p (Rep.mono x2.le _ _ r1)⟩
        refine ⟨a, us, j, p, rfl, Rep.int r2, hu, by rw [← ru.length]; exact ixOf_ixN hj, ?_⟩
        refine q3 σ _ g2 S2.2 (B2.ext S2.2 S2.1 ?_)
        have := B.b.set (i := i) (s := .own (.lst (xs.set p x))) (v := some (.ref a)) fun t' a' _ h' => by cases h'; exact B.b i _ a e ea
        rw [set_same ea] at this
        exact this
    | _ => cases h1
/-- o[i] = e, o a list of the store -/
theorem st_ix {s : Stmt} {f fo fi : EvT} (h : PS X s (tAsg (tV k W f) (gSub (tV k W fo) (tV k W fi) rSetL))) : PS X s (tSx k W fr H00 (sIx f fo fi)) := by
  refine Mp.PS.imp h fun D σ H ⟨g, env, st, B, q⟩ => ⟨g, env, st, B.s, (sbind (R1 := rV k) B q).imp fun v H1 ⟨x, st1, g1, x1, B1, r1, q1⟩ => ⟨g1, env, st1, B1.s, (sbind (R1 := rV k) B1 q1).imp fun o H2 ⟨y, st2, g2, x2, B2, r2, q2⟩ => ⟨g2, env, st2, B2.s, (sbind (R1 := rV k) B2 q2).imp fun w H3 ⟨z, st3, g3, x3, B3, r3, q3⟩ => ?_⟩⟩⟩
  unfold sSto at q3
  cases h1 : setIx st3 x y z with
  | none => simp only [h1] at q3; exact q3.elim
  | some st4 =>
    simp only [h1] at q3
    cases y with
    | obj n =>
      cases z with
      | int j =>
        have h1 : (match st3[n]? with
          | some (.lst xs) => (match ixOf j xs.length with
            | some k => some (st3.set n (.lst (xs.set k x)))
            | none => none)
          | _ => none) = some st4 := h1
        cases hc : st3[n]? with
        | none => rw [hc] at h1; cases h1
        | some c =>
          rw [hc] at h1
          cases c with
          | lst xs =>
            simp only at h1
            cases hj : ixOf j xs.length with
            | none => rw [hj] at h1; cases h1
            | some p =>
              rw [hj] at h1
              cases h1
              obtain ⟨us, hu, ru⟩ := B3.s.cell n _ hc
              have S2 := B3.s.updCell (xs' := xs.set p x) hc (ru.set p (Rep.mono (x2.le.trans x3.le) _ _ r1))
              obtain ⟨eo, hn⟩ := Rep.obj r2
              have ea : g3.α n = g2.α n := x3.le.a n hn
              refine ⟨g3.α n, us, j, p, by rw [ea]; exact eo, Rep.int r3, hu, by rw [← ru.length]; exact ixOf_ixN hj, ?_⟩
              exact q3 σ _ g3 S2.2 (B3.ext S2.2 S2.1 B3.b)
          | _ => cases h1
      | _ => cases h1
    | _ => cases h1
/-- x op= e -/
theorem st_aug {s : Stmt} {f : EvT} {i : Nat} {op : T → T → Option T} {r : R2} (ho : OpOk k (pV k) r fun _ => op) (h : PS X s (tAug i (tV k W f) r)) : PS X s (tSx k W fr H00 (sAug i op f)) := by
  refine Mp.PS.imp h fun D σ H ⟨g, env, st, B, q⟩ => ?_
  unfold sAug at q
  cases e : env[i]? with
  | none => rw [e] at q; exact q.elim
  | some sl =>
    cases sl with
    | fr x =>
      rw [e] at q
      obtain ⟨v, ev, rv⟩ := B.s.fr i x e
      refine ⟨v, ev, g, env, st, B.s, (sbind (R1 := rV k) B q).imp fun w H1 ⟨y, st1, g1, x1, B1, r1, q1⟩ => ?_⟩
      obtain ⟨env', e1, q2⟩ := AfterS.ofEnv q1
      cases hz : op x y with
      | none => rw [hz] at e1; cases e1
      | some z =>
        rw [hz] at e1
        cases e1
        refine ho st1 x y z hz g1 env σ H1 v w _ B1.s (.inl (Rep.mono x1.le _ _ rv)) (.inl r1) fun u H' pz => ?_
        obtain ⟨g', x2, S2, r2⟩ := post_V g1 env st1 σ H1 H1 z u H' B1.s (fun _ h => h) pz
        obtain ⟨S3, x3⟩ := S2.setFr i r2
        exact q2 _ H' g' (x2.trans x3) (B1.ext (x2.trans x3) S3 (B1.b.set fun t' a' h h' => by cases h))
    | _ => rw [e] at q; exact q.elim
/-- own ones that become values -/
theorem SB.frzE : ∀ (is : List Nat) {g : Gh} {env : En}, SB k H00 g env st σ H → ∃ g', SB k H00 g' (Mp.frzE is env) st σ H ∧ Ext g env st σ H g' (Mp.frzE is env) st σ H
  | [], g, env, B => ⟨g, B, Ext.refl⟩
  | i :: is, g, env, B => by
    unfold Mp.frzE
    split
    · rename_i t e
      obtain ⟨g1, S1, x1⟩ := B.s.frzOwn e
      have b1 : Born H00 (env.set i (.fr t)) σ := B.b.old fun j u h => by
        by_cases hj : i = j
        · subst hj
          rw [List.getElem?_set_self (List.getElem?_eq_some_iff.mp e).1] at h
          cases h
        · rw [List.getElem?_set_ne hj] at h
          exact ⟨h, rfl⟩
      obtain ⟨g2, B2, x2⟩ := SB.frzE is (B.ext x1 S1 b1)
      exact ⟨g2, B2, x1.trans x2⟩
    · exact SB.frzE is B
theorem st_frz {s : Stmt} {f : EvS} (is : List Nat) (h : PS X s (tSx k W fr H00 f)) : PS X s (tSx k W fr H00 (frz is f)) := by
  refine Mp.PS.imp h fun D σ H ⟨g, env, st, B, q⟩ => ?_
  obtain ⟨g', B', x⟩ := B.frzE is
  exact ⟨g', frzE is env, st, B', AfterS.shift x q⟩
theorem st_sFrz {s : Stmt} {f : EvS} (is : List Nat) (h : PS X s (tSx k W fr H00 f)) : PS X s (tSx k W fr H00 (sFrz is f)) := by
  cases is with
  | nil => exact h
  | cons i is => exact st_frz (i :: is) h

/-! ### loops -/
theorem st_while {s : Stmt} {c : EvB} {body : EvS} (h : PS X s (tWhile (tT k W c) (tSx k W fr H00 body))) (n : Nat) : PS X s (tSx k W fr H00 (whileL c body n)) := by
  refine Mp.PS.imp h fun D σ H ⟨g, env, st, B, q⟩ => ?_
  refine ⟨fun m σ' H' => ∃ g' env' st', SB k H00 g' env' st' σ' H' ∧ AfterS k W fr H00 g' env' st' σ' H' D (whileL c body m env' st'), ⟨n, g, env, st, B, q⟩, ?_⟩
  rintro m σ1 H1 ⟨g1, env1, st1, B1, q1⟩
  cases m with
  | zero => exact q1.elim
  | succ m =>
    unfold whileL at q1
    refine ⟨g1, env1, st1, B1.s, ?_⟩
    cases ec : c env1 st1 with
    | bad => rw [ec] at q1; exact q1
    | err cc vs st2 =>
      rw [ec] at q1
      exact fun cls d H' g' x S h => q1 cls d σ1 H' g' x (B1.ext x S B1.b) h
    | ok b st2 =>
      rw [ec] at q1
      intro bv H2 g2 x2 S2 rb
      obtain rfl : b = bv := rb
      have B2 := B1.ext x2 S2 B1.b
      cases b with
      | false => rw [if_neg (by decide)]; exact q1 σ1 H2 g2 x2 B2
      | true =>
        rw [if_pos rfl]
        refine ⟨fun σ' H' => ∃ g' env' st', SB k H00 g' env' st' σ' H' ∧ AfterS k W fr H00 g' env' st' σ' H' D (whileL c body m env' st'), fun σ' H' h => ⟨m, Nat.lt_succ_self m, h⟩, g2, env1, st2, B2, ?_⟩
        simp only at q1
        cases eb : body env1 st2 with
        | bad => rw [eb] at q1; exact q1
        | err cc vs e3 st3 => rw [eb] at q1; exact AfterS.shift (r := .err cc vs e3 st3) x2 q1
        | ok fl e3 st3 =>
          rw [eb] at q1
          cases fl with
          | nx => exact fun σ' H' g' x3 B3 => ⟨g', e3, st3, B3, AfterS.shift (x2.trans x3) q1⟩
          | ct => exact fun σ' H' g' x3 B3 => ⟨g', e3, st3, B3, AfterS.shift (x2.trans x3) q1⟩
          | brk => exact fun σ' H' g' x3 B3 => q1 σ' H' g' (x2.trans x3) B3
          | ret t => exact fun v σ' H' g' x3 B3 r => q1 v σ' H' g' (x2.trans x3) B3 r
theorem st_for {s : Stmt} {fi : EvI} {gt : Tg} {gT : TG} {body : EvS} (hg : GOwn k gt gT) (h : PS X s (tFor (tI k W fi) gT (tSx k W fr H00 body))) : PS X s (tSx k W fr H00 (sFor fi gt body)) := by
  refine Mp.PS.imp h fun D σ H ⟨g, env, st, B, q⟩ => ⟨g, env, st, B.s, (sbind (R1 := rI k) B q).imp fun J H1 ⟨xs, st1, g1, x1, B1, r1, q1⟩ => ?_⟩
  refine ⟨fun i m σ' H' => m = xs.length - i ∧ i ≤ xs.length ∧ ∃ g' env' st', GLe g1 g' ∧ SB k H00 g' env' st' σ' H' ∧ AfterS k W fr H00 g' env' st' σ' H' D (forL gt body (xs.drop i) env' st'), ⟨xs.length, by simp, Nat.zero_le _, g1, env, st1, GLe.refl _, B1, by simpa using q1⟩, ?_⟩
  rintro i m σ2 H2 ⟨rfl, hi, g2, env2, st2, le, B2, q2⟩
  have it := r1 i g2 env2 st2 σ2 H2 le B2.s
  by_cases hlt : i < xs.length
  · right
    obtain ⟨go, yl⟩ := it.1 xs[i] (by simp [hlt])
    rw [List.drop_eq_getElem_cons hlt] at q2
    refine ⟨go, fun σ' H' => ∃ g' env' st', GLe g1 g' ∧ SB k H00 g' env' st' σ' H' ∧ AfterS k W fr H00 g' env' st' σ' H' D (forL gt body (xs.drop (i + 1)) env' st'), fun σ' H' h => ⟨xs.length - (i + 1), by omega, rfl, hlt, h⟩, fun x H' y => ?_⟩
    obtain ⟨g3, gr, rx⟩ := yl x H' y
    unfold forL at q2
    cases hp : Tg.put gt xs[i] env2 with
    | none => rw [hp] at q2; exact q2.elim
    | some env3 =>
      rw [hp] at q2
      simp only at q2
      have S3 := B2.s.grow gr
      have x3 := Ext.grow B2.s gr
      refine hg xs[i] env2 env3 hp H00 g3 st2 σ2 H' x _ (B2.ext x3 S3 B2.b) rx fun σ4 B4 x4 => ⟨g3, env3, st2, B4, ?_⟩
      cases eb : body env3 st2 with
      | bad => rw [eb] at q2; exact q2
      | err cc vs e5 st5 => rw [eb] at q2; exact AfterS.shift (r := .err cc vs e5 st5) (x3.trans x4) q2
      | ok fl e5 st5 =>
        rw [eb] at q2
        have le3 : GLe g1 g3 := le.trans gr.le
        cases fl with
        | nx => exact fun σ' H' g' x5 B5 => ⟨g', e5, st5, le3.trans x5.le, B5, AfterS.shift ((x3.trans x4).trans x5) q2⟩
        | ct => exact fun σ' H' g' x5 B5 => ⟨g', e5, st5, le3.trans x5.le, B5, AfterS.shift ((x3.trans x4).trans x5) q2⟩
        | brk => exact fun σ' H' g' x5 B5 => q2 σ' H' g' ((x3.trans x4).trans x5) B5
        | ret t => exact fun v σ' H' g' x5 B5 r => q2 v σ' H' g' ((x3.trans x4).trans x5) B5 r
  · have ei : i = xs.length := by omega
    subst ei
    left
    rw [List.drop_length] at q2
    exact ⟨it.2 (Nat.le_refl _), q2 σ2 H2 g2 Ext.refl B2⟩
end
end Mp


set_option Elab.async false
set_option linter.all false
set_option maxRecDepth 100000
set_option maxHeartbeats 1000000
/-! Snd: what the interpreter tells of a text the model does. -/
namespace Mp
open PySem PySem.Spec PyProof.Rows L2
/-- the module's facts -/
structure GenOk (k : Gk) (G : Genv) (P : Program) (w : World) (K : PySem.W.Frag) (mg : Str → Option Value) (base : Heap) : Prop where
  consts : ∀ x t, G.consts.lookup x = some t → ∃ u v, mg x = some u ∧ RelV v u ∧ ∀ g, Rep k g t v
  fns : ∀ x e, G.fns.lookup x = some e → ∃ f fd, mg x = some (.ref f) ∧ PySem.W.keepIn K (.ref f) = true ∧ Binds K fd e.ps [] ∧ FnOk P w K mg base (L2.CX P w) e.lvl f fd e.ps (spOf k e.fresh e.fn)
  blt : ∀ x, G.known x = false → bltNames.contains x = true → mg x = none
structure COk (k : Gk) (c : Cfg) (X : Cx) (W : L2.WX) : Prop where
  hK : X.K = k.K
  hN : X.N = c.N
  nd : c.N.Nodup
  nm : (c.N.all fun x => !(x == ("__debug__" : Str)) && !(x == ("__classdict__" : Str))) = true
  kd : X.env.scope.kind = .function
  sc : X.env.scope.names = c.sc
  calm : X.calm = true
  tk : Takes X W
  po : PassesOwn (model X.prog X.w) X.A X.env X.xe
  room : ∀ j, j < c.lvl → Room j X.A
  un : X.A.units + 64 < cLine
  set : ∀ x, c.set.contains x = true → c.sc.lookup x = some .cell → X.fn x = true
  G : GenOk k c.G X.prog X.w X.K X.mg X.base
section
variable {k : Gk} {c : Cfg} {X : Cx} {W : L2.WX}
theorem ixS_get {x : Str} : ∀ {N : List Str} {i : Nat}, ixS x N = some i → N[i]? = some x
  | [], i, h => by cases h
  | y :: ys, i, h => by
    unfold ixS at h
    split at h
    · rename_i e
      cases h
      have : y = x := by simpa using e
      subst this
      rfl
    · cases h2 : ixS x ys with
      | none => rw [h2] at h; cases h
      | some j =>
        rw [h2] at h
        cases h
        simpa using ixS_get h2
theorem slot_of (C : COk k c X W) {x : Str} {i : Nat} (h : c.slot x = some i) : X.N[i]? = some x ∧ Vis X.env.scope x := by
  unfold Cfg.slot at h
  unfold Vis
  rw [C.sc, C.hN]
  split at h
  · cases h; exact ⟨ixS_get (by assumption), .inl (by assumption)⟩
  · cases h; exact ⟨ixS_get (by assumption), .inr (.inl (by assumption))⟩
  · cases h; exact ⟨ixS_get (by assumption), .inr (.inr (by assumption))⟩
  · cases h
theorem setSlot_of (C : COk k c X W) {x : Str} {i : Nat} (h : c.setSlot x = some i) : X.N[i]? = some x ∧ L2.Loc X.env.scope x ∧ (X.fn x = true ∨ X.env.scope.names.lookup x = some .local) ∧ c.set.contains x = true := by
  unfold Cfg.setSlot at h
  unfold L2.Loc
  rw [C.sc, C.hN]
  split at h
  · split at h
    · cases h; exact ⟨ixS_get (by assumption), .inl (by assumption), .inr (by assumption), by assumption⟩
    · cases h
  · split at h
    · cases h; exact ⟨ixS_get (by assumption), .inr (by assumption), .inl (C.set x (by assumption) (by assumption)), by assumption⟩
    · cases h
  · cases h
theorem glob_of (C : COk k c X W) {x : Str} (h : c.glob x = true) : Gl X x ∧ (x == ("__debug__" : Str)) = false := by
  unfold Cfg.glob at h
  show X.env.scope.names.lookup x = some .globalImplicit ∧ _
  rw [C.sc]
  split at h
  · exact ⟨by assumption, by simpa using h⟩
  · cases h
theorem name_of (C : COk k c X W) {x : Str} {i : Nat} (h : X.N[i]? = some x) : (x == ("__debug__" : Str)) = false ∧ (x == ("__classdict__" : Str)) = false := by
  have h2 := List.all_eq_true.mp C.nm x (List.mem_of_getElem? (by rw [← C.hN]; exact h))
  simpa using h2
theorem blt_of (C : COk k c X W) {x : Str} (h : c.blt x = true) : Gl X x ∧ X.mg x = none ∧ bltNames.contains x = true := by
  unfold Cfg.blt at h
  rw [Bool.and_eq_true, Bool.and_eq_true] at h
  obtain ⟨⟨h1, h2⟩, h3⟩ := h
  exact ⟨(glob_of C h1).1, C.G.blt x (by simpa using h2) h3, h3⟩

/-! ### the operators' table -/
theorem bin_table (hK : X.K = k.K) {op : Operator} {f : T → T → Option T} (h : binOp op = some f) : ∃ r, OpR X (binaryOp op) r ∧ OpOk k (pF k) r fun _ => f := by
  cases op with
  | Add => cases h; exact ⟨_, op_addM hK, ok_add⟩
  | Sub => cases h; exact ⟨_, op_sub, ok_sub⟩
  | Mult => cases h; exact ⟨_, op_mulM hK, ok_mul⟩
  | FloorDiv => cases h; exact ⟨_, op_fdivW, ok_div⟩
  | Mod => cases h; exact ⟨_, op_mod, ok_mod⟩
  | Pow => cases h; exact ⟨_, op_pow, ok_pow⟩
  | _ => cases h
theorem cmp_table (hK : X.K = k.K) (hu : X.A.units + 64 < cLine) {op : CmpOp} {f : T → T → Option T} (h : cmpOp op = some f) : ∃ r, OpR X (compareOp op) r ∧ OpOk k (pF k) r fun _ => f := by
  cases op with
  | Lt => cases h; exact ⟨_, op_lt, ok_lt⟩
  | LtE => cases h; exact ⟨_, op_le, ok_le⟩
  | Gt => cases h; exact ⟨_, op_gt, ok_gt⟩
  | GtE => cases h; exact ⟨_, op_ge, ok_ge⟩
  | Eq => cases h; exact ⟨_, op_eqD hu, by rw [hK]; exact ok_eq⟩
  | NotEq => cases h; exact ⟨_, op_neD hu, by rw [hK]; exact ok_ne⟩
  | Is => cases h; exact ⟨_, op_isN, ok_isN⟩
  | IsNot => cases h; exact ⟨_, op_notN, ok_notN⟩
  | _ => cases h

/-! ### targets -/
mutual
def gOf (K : PySem.W.Frag) : Tg → TG
  | .name i => gName i
  | .tup gs => gTup K gs.length (gsOf K gs)
def gsOf (K : PySem.W.Frag) : List Tg → TGs
  | [] => gNil
  | g :: gs => gCons (gOf K g) (gsOf K gs)
end
mutual
theorem gown_of : ∀ (g : Tg), GOwn k g (gOf k.K g)
  | .name i => by unfold gOf; exact gown_name
  | .tup gs => by unfold gOf; exact gown_tup (gsown_of gs) rfl
theorem gsown_of : ∀ (gs : List Tg), GsOwn k gs (gsOf k.K gs)
  | [] => by unfold gsOf; exact gsown_nil
  | g :: gs => by unfold gsOf; exact gsown_cons (gown_of g) (gsown_of gs)
end
mutual
/-- a target's slots are among P -/
def TgIn (P : Nat → Prop) : Tg → Prop
  | .name i => P i
  | .tup gs => TgsIn P gs
def TgsIn (P : Nat → Prop) : List Tg → Prop
  | [] => True
  | g :: gs => TgIn P g ∧ TgsIn P gs
end
mutual
theorem gok_of {P : Nat → Prop} : ∀ (g : Tg), TgIn P g → GOk k P g (gOf k.K g)
  | .name i, h => by unfold gOf; unfold TgIn at h; exact gok_name h
  | .tup gs, h => by unfold gOf; unfold TgIn at h; exact gok_tup (gsok_of gs h) rfl
theorem gsok_of {P : Nat → Prop} : ∀ (gs : List Tg), TgsIn P gs → GsOk k P gs (gsOf k.K gs)
  | [], _ => by unfold gsOf; exact gsok_nil
  | g :: gs, h => by unfold gsOf; unfold TgsIn at h; exact gsok_cons (gok_of g h.1) (gsok_of gs h.2)
end
theorem each_cons {e : Expr} {es : List Expr} {env : Env} (h : isStar e = false) : assignEach (e :: es) env = (false, assign e env) :: assignEach es env := by
  cases e <;> first | rfl | (cases h; done)
theorem dG_ok (C : COk k c X W) : ∀ (n : Nat), (∀ (e : Expr) (g : Tg), dG c n e = some g → isStar e = false ∧ PG X e (gOf k.K g) ∧ ∀ P : Nat → Prop, (∀ x i, c.setSlot x = some i → P i) → TgIn P g)
  | 0 => fun e g h => by cases h
  | n + 1 => fun e g h => by
    unfold dG at h
    split at h
    · rename_i x p
      cases h1 : c.setSlot x with
      | none => rw [h1] at h; cases h
      | some i =>
        rw [h1] at h
        cases h
        obtain ⟨a, b, d, _⟩ := setSlot_of C h1
        refine ⟨rfl, ?_, fun P hP => by unfold TgIn; exact hP x i h1⟩
        unfold gOf
        exact pg_name (by rw [C.hN]; exact C.nd) a b d
    · rename_i es k' p
      cases h1 : es.mapM (dG c n) with
      | none => rw [h1] at h; cases h
      | some gs =>
        rw [h1] at h
        cases h
        have all : ∀ (es : List Expr) (gs : List Tg), es.mapM (dG c n) = some gs → PGs X es (gsOf k.K gs) ∧ (assignEach es X.env).length = gs.length ∧ (assignEach es X.env).findIdx? (·.1) = none ∧ ∀ P : Nat → Prop, (∀ x i, c.setSlot x = some i → P i) → TgsIn P gs := by
          intro es
          induction es with
          | nil =>
            intro gs h
            cases h
            refine ⟨by unfold gsOf; exact pgs_nil, rfl, rfl, fun P hP => by unfold TgsIn; trivial⟩
          | cons e es ih =>
            intro gs h
            rw [List.mapM_cons] at h
            cases h2 : dG c n e with
            | none => rw [h2] at h; cases h
            | some g =>
              rw [h2] at h
              cases h3 : es.mapM (dG c n) with
              | none => rw [h3] at h; cases h
              | some gs2 =>
                rw [h3] at h
                cases h
                obtain ⟨a, b, d⟩ := dG_ok C n e g h2
                obtain ⟨a2, b2, c2, d2⟩ := ih gs2 h3
                refine ⟨?_, ?_, ?_, fun P hP => ?_⟩
                · unfold gsOf
                  exact pgs_cons b a2 (by rw [each_cons a]; rfl)
                · rw [each_cons a]; simp [b2]
                · rw [each_cons a, List.findIdx?_cons, c2]; rfl
                · unfold TgsIn
                  exact ⟨d P hP, d2 P hP⟩
        obtain ⟨a, b, d, f⟩ := all es gs h1
        refine ⟨rfl, ?_, fun P hP => by unfold TgIn; exact f P hP⟩
        unfold gOf
        rw [← C.hK] at a ⊢
        exact pg_tup C.calm a b d
    · cases h
/-- where a target stores -/
theorem dG_in (c : Cfg) : ∀ (n : Nat) (e : Expr) (g : Tg), dG c n e = some g → ∀ P : Nat → Prop, (∀ x i, c.setSlot x = some i → P i) → TgIn P g
  | 0 => fun e g h => by cases h
  | n + 1 => fun e g h P hP => by
    unfold dG at h
    split at h
    · rename_i x p
      cases h1 : c.setSlot x with
      | none => rw [h1] at h; cases h
      | some i =>
        rw [h1] at h
        cases h
        unfold TgIn
        exact hP x i h1
    · rename_i es k' p
      cases h1 : es.mapM (dG c n) with
      | none => rw [h1] at h; cases h
      | some gs =>
        rw [h1] at h
        cases h
        have all : ∀ (es : List Expr) (gs : List Tg), es.mapM (dG c n) = some gs → TgsIn P gs := by
          intro es
          induction es with
          | nil =>
            intro gs h
            cases h
            unfold TgsIn; trivial
          | cons e es ih =>
            intro gs h
            rw [List.mapM_cons] at h
            cases h2 : dG c n e with
            | none => rw [h2] at h; cases h
            | some g =>
              rw [h2] at h
              cases h3 : es.mapM (dG c n) with
              | none => rw [h3] at h; cases h
              | some gs2 =>
                rw [h3] at h
                cases h
                unfold TgsIn
                exact ⟨dG_in c n e g h2 P hP, ih gs2 h3⟩
        unfold TgIn
        exact all es gs h1
    · cases h
end
end Mp


set_option Elab.async false
set_option linter.all false
set_option maxRecDepth 100000
set_option maxHeartbeats 2000000
/-! Snd2: the soundness of expressions, by induction. -/
namespace Mp
open PySem PySem.Spec PyProof.Rows L2
section
variable {k : Gk} {c : Cfg} {X : Cx} {W : L2.WX}
/-! ### a comprehension's block -/
theorem blkOk_of (C : COk k c X W) {scope : Scope} (h : blkB c.N c.sc scope = true) : BlkOk X.N X.env.scope scope (ownOf c.N scope.names) := by
  have q := blkOk_by (N := c.N) (sc := { scope with names := c.sc }) (scope := scope) (own := ownOf c.N scope.names) h
  rw [C.hN]
  exact ⟨q.kind, q.uniq, q.ix, fun y hy e => by rw [C.sc]; exact q.free y hy e, q.own⟩
theorem own_mem {N : List Str} : ∀ {names : List (Str × NameKind)} {x : Str}, x ∈ (ownOf N names).map (·.1) → (x, .local) ∈ names ∨ (x, .cell) ∈ names
  | [], x, h => by simp [ownOf] at h
  | (n, kd) :: r, x, h => by
    unfold ownOf at h
    split at h
    · rw [List.map_cons, List.mem_cons] at h
      rcases h with h | h
      · left; rw [h]; exact List.mem_cons_self
      · rcases own_mem h with h | h
        · exact .inl (List.mem_cons_of_mem _ h)
        · exact .inr (List.mem_cons_of_mem _ h)
    · rw [List.map_cons, List.mem_cons] at h
      rcases h with h | h
      · right; rw [h]; exact List.mem_cons_self
      · rcases own_mem h with h | h
        · exact .inl (List.mem_cons_of_mem _ h)
        · exact .inr (List.mem_cons_of_mem _ h)
    · rcases own_mem h with h | h
      · exact .inl (List.mem_cons_of_mem _ h)
      · exact .inr (List.mem_cons_of_mem _ h)
theorem own_slot {N : List Str} : ∀ {names : List (Str × NameKind)} {x : Str} {i : Nat}, x ∈ (ownOf N names).map (·.1) → ixS x N = some i → i ∈ (ownOf N names).map (·.2)
  | [], x, i, h, _ => by simp [ownOf] at h
  | (n, kd) :: r, x, i, h, e => by
    unfold ownOf at h ⊢
    split at h
    · rename_i j h1
      rw [List.map_cons, List.mem_cons] at h
      rw [List.map_cons, List.mem_cons]
      rcases h with h | h
      · left; have h : x = n := h; subst h; rw [h1] at e; cases e; rfl
      · exact .inr (own_slot h e)
    · rename_i j h1
      rw [List.map_cons, List.mem_cons] at h
      rw [List.map_cons, List.mem_cons]
      rcases h with h | h
      · left; have h : x = n := h; subst h; rw [h1] at e; cases e; rfl
      · exact .inr (own_slot h e)
    · exact own_slot h e
theorem contains_mem {x : Str} {l : List Str} (h : l.contains x = true) : x ∈ l := by simpa using h
theorem blk_COk (C : COk k c X W) {scope : Scope} (h : blkB c.N c.sc scope = true) (s : Shared) (H : Hp) (A : Addr) (cl : List (Str × Addr)) (fp : List Addr) : COk k (c.blk scope) (X.blk s H scope (compEnvC scope cl A X.env) fp) WF := by
  have q := blkOk_of C h
  have hn : (compEnvC scope cl A X.env).scope.names = relN scope c.sc := by
    show (scope.names.map fun (n, kd) => if (kd == NameKind.free && X.env.scope.kind == ScopeKind.function && X.env.scope.names.lookup n == some NameKind.cell) then (n, NameKind.cell) else (n, kd)) = _
    unfold relN
    congr 1
    funext p
    rw [C.kd, C.sc]
    simp
  refine ⟨C.hK, C.hN, C.nd, C.nm, q.kind, hn, C.calm, takes0, PassesOwn.never, C.room, C.un, fun x h1 h2 => ?_, C.G⟩
  have hm : x ∈ (ownOf c.N scope.names).map (·.1) := contains_mem h1
  show (scope.names.lookup x == some .cell) = true
  rcases own_mem hm with h3 | h3
  · have e := q.uniq _ h3
    have e2 : (relN scope c.sc).lookup x = some .local := by
      rw [← hn]
      exact lookup_relS_keep (sc := X.env.scope) (fun z => by cases z) e
    have h2 : (relN scope c.sc).lookup x = some .cell := h2
    rw [e2] at h2
    cases h2
  · have e := q.uniq _ h3
    simp at e
    rw [e]
    rfl
theorem blk_in (C : COk k c X W) {scope : Scope} : ∀ x i, (c.blk scope).setSlot x = some i → i ∈ (ownOf c.N scope.names).map (·.2) := fun x i h => by
  unfold Cfg.setSlot at h
  have hset : ∀ {x : Str}, (c.blk scope).set.contains x = true → x ∈ (ownOf c.N scope.names).map (·.1) := fun h => contains_mem h
  split at h
  · split at h
    · cases h
      exact own_slot (hset (by assumption)) (by assumption)
    · cases h
  · split at h
    · cases h
      exact own_slot (hset (by assumption)) (by assumption)
    · cases h
  · cases h

/-! ### what the induction tells -/
/-- a test that the model makes by the value -/
def byVal : Expr → Bool
  | .BoolOp _ _ _ => false
  | .UnaryOp .Not _ _ => false
  | .IfExp _ _ _ _ => false
  | _ => true
structure Snd (k : Gk) (n : Nat) : Prop where
  E : ∀ {c : Cfg} {X : Cx} {W : L2.WX}, COk k c X W → ∀ e, PE X e (tV k W (dE c n e))
  F : ∀ {c : Cfg} {X : Cx} {W : L2.WX}, COk k c X W → ∀ e, freshX c e = true → PE X e (tF k W (dE c n e))
  L : ∀ {c : Cfg} {X : Cx} {W : L2.WX}, COk k c X W → ∀ elt gs scope pos, PE X (.ListComp elt gs scope pos) (tF k W (dLc c n elt gs scope)) ∧
    ∀ (x : Str) (px spos : Pos) (i : Nat), c.setSlot x = some i → PS X (.Assign [.Name x px] (.ListComp elt gs scope pos) spos) (tAsg (tF k W (dLc c n elt gs scope)) (gName i))
  P : ∀ {c : Cfg} {X : Cx} {W : L2.WX}, COk k c X W → ∀ e, byVal e = true → PT X e (tTest (tV k W (dE c n e)))
  B : ∀ {c : Cfg} {X : Cx} {W : L2.WX}, COk k c X W → ∀ e, PE X e (tS k W (dB c n e))
  Es : ∀ {c : Cfg} {X : Cx} {W : L2.WX}, COk k c X W → ∀ es, PA X es (tL k W (dEs c n es))
  O : ∀ {c : Cfg} {X : Cx} {W : L2.WX}, COk k c X W → ∀ o, PO X o (tR k W rP (dO c n o))
  Bl : ∀ {c : Cfg} {X : Cx} {W : L2.WX}, COk k c X W → ∀ op es pos, PE X (.BoolOp op es pos) (tV k W (dBool c n op es))
  Te : ∀ {c : Cfg} {X : Cx} {W : L2.WX}, COk k c X W → ∀ e, PT X e (tT k W (dT c n e))
  Ts : ∀ {c : Cfg} {X : Cx} {W : L2.WX}, COk k c X W → ∀ op es pos, PW X (.BoolOp op es pos) (tT k W (dTs c n op es))
  I : ∀ {c : Cfg} {X : Cx} {W : L2.WX}, COk k c X W → ∀ tg e, PI X tg e (tI k W (dI c n e))
  Ca : ∀ {c : Cfg} {X : Cx} {W : L2.WX}, COk k c X W → ∀ f args pos, PE X (.Call f args [] pos) (tV k W (dC c n f args)) ∧ (freshX c (.Call f args [] pos) = true → PE X (.Call f args [] pos) (tF k W (dC c n f args)))
  B1 : ∀ {c : Cfg} {X : Cx} {W : L2.WX}, COk k c X W → ∀ f p a pos, c.blt f = true → isStar a = false → PE X (.Call (.Name f p) [a] [] pos) (tV k W (dBlt1 c n f a)) ∧ (f = ("list" : Str) → PE X (.Call (.Name f p) [a] [] pos) (tF k W (dBlt1 c n f a)))
/-! ### nothing told -/
theorem tR_bad {α β : Type} {R : Rdg α β} {σ : L2.St} {H : Hp} {Q : β → Hp → Prop} (q : tR k W R Ev.bad σ H Q) : False := by
  obtain ⟨g, env, st, S, q⟩ := q
  exact q
theorem peb {e : Expr} {R : Rdg T V} : PE X e (tR k W R Ev.bad) := ⟨fun _ _ _ _ _ _ q => (tR_bad q).elim⟩
theorem ptb {e : Expr} : PT X e (tT k W Ev.bad) := ⟨fun _ _ _ _ _ _ q => (tR_bad q).elim⟩
theorem pwb {e : Expr} : PW X e (tT k W Ev.bad) := ⟨fun _ _ _ _ _ _ _ q => (tR_bad q).elim⟩
theorem pib {tg e : Expr} : PI X tg e (tI k W Ev.bad) := ⟨fun _ _ _ _ _ _ q => (tR_bad q).elim⟩
theorem pob {e : Option Expr} : PO X e (tR k W rP Ev.bad) := ⟨fun _ _ _ _ _ _ q => (tR_bad q).elim⟩
theorem pab {es : List Expr} {fs : List EvT} : PA X es (tL k W (Ev.bad :: fs)) := ⟨fun _ _ _ _ _ _ _ q => by obtain ⟨g, env, st, S, q⟩ := q; exact q.elim⟩
theorem ptt {e : Expr} : PT X e (tTest (tV k W Ev.bad)) := ⟨fun _ _ _ _ _ _ q => (tR_bad q).elim⟩
theorem psb {s : Stmt} {g : TG} {R : Rdg T V} : PS X s (tAsg (tR k W R Ev.bad) g) := ⟨fun _ _ _ _ _ _ q => (tR_bad q).elim⟩
theorem star_eq {e : Expr} {es : List Expr} {env : Env} (h : isStar e = false) : starEach (e :: es) env = (false, eval e env) :: starEach es env := by
  cases e <;> first | rfl | (cases h; done)
theorem snd0 : Snd k 0 where
  E := fun C e => peb
  F := fun C e h => peb
  L := fun C elt gs scope pos => ⟨peb, fun _ _ _ _ _ => psb⟩
  P := fun C e h => ptt
  B := fun C e => Mp.PE.toS peb
  Es := fun C es => pab
  O := fun C o => pob
  Bl := fun C op es pos => peb
  Te := fun C e => ptb
  Ts := fun C op es pos => pwb
  I := fun C tg e => pib
  Ca := fun C f args pos => ⟨peb, fun _ => peb⟩
  B1 := fun C f p a pos h1 h2 => ⟨peb, fun _ => peb⟩
variable {n : Nat}
theorem s_Es (S : Snd k n) (C : COk k c X W) (es : List Expr) : PA X es (tL k W (dEs c (n + 1) es)) := by
  cases es with
  | nil => unfold dEs; exact sx_nil pa_nil
  | cons e es =>
    unfold dEs
    by_cases hs : isStar e = true
    · cases e <;> first | (cases hs; done) | skip
      cases n with
      | zero => exact pab
      | succ n => unfold dE; exact pab
    · have hs : isStar e = false := by simpa using hs
      exact sx_cons (pa_cons (S.E C e) (S.Es C es) (star_eq hs))
theorem p_var (C : COk k c X W) {x : Str} {i : Nat} {p : Pos} (h : c.slot x = some i) : PE X (.Name x p) (tVar i) := by
  obtain ⟨h1, h2⟩ := slot_of C h
  obtain ⟨h3, h4⟩ := name_of C h1
  exact pe_var h1 h2 h3 h4
theorem s_B (S : Snd k n) (C : COk k c X W) (e : Expr) : PE X e (tS k W (dB c (n + 1) e)) := by
  unfold dB
  split
  · rename_i x p
    cases h : c.slot x with
    | none => exact Mp.PE.toS (S.E C _)
    | some i =>
      simp only
      split
      · exact sx_peek (p_var C h)
      · exact Mp.PE.toS (sx_var (p_var C h))
  · exact Mp.PE.toS (S.E C _)
theorem s_O (S : Snd k n) (C : COk k c X W) (o : Option Expr) : PO X o (tR k W rP (dO c (n + 1) o)) := by
  cases o with
  | none => unfold dO; exact sx_none po_none
  | some e => unfold dO; exact sx_part (po_some (S.E C e))
theorem s_Bl (S : Snd k n) (C : COk k c X W) (op : BoolOp) (es : List Expr) (pos : Pos) : PE X (.BoolOp op es pos) (tV k W (dBool c (n + 1) op es)) := by
  cases es with
  | nil => cases op <;> (unfold dBool; exact peb)
  | cons e es =>
    cases es with
    | nil => cases op <;> (unfold dBool; exact pe_one (S.E C e))
    | cons e2 es =>
      cases op with
      | And => unfold dBool; exact sx_andV (pe_and (S.E C e) (S.Bl C .And (e2 :: es) pos))
      | Or => unfold dBool; exact sx_orV (pe_or (S.E C e) (S.Bl C .Or (e2 :: es) pos))
theorem s_Ts (S : Snd k n) (C : COk k c X W) (op : BoolOp) (es : List Expr) (pos : Pos) : PW X (.BoolOp op es pos) (tT k W (dTs c (n + 1) op es)) := by
  cases es with
  | nil => cases op <;> (unfold dTs; exact pwb)
  | cons e es =>
    cases es with
    | nil => cases op with
      | And => unfold dTs; exact pw_and1 (S.Te C e)
      | Or => unfold dTs; exact pw_or1 (S.Te C e)
    | cons e2 es =>
      cases op with
      | And => unfold dTs; exact sx_andB (pw_and (S.Te C e) (S.Ts C .And (e2 :: es) pos))
      | Or => unfold dTs; exact sx_orB (pw_or (S.Te C e) (S.Ts C .Or (e2 :: es) pos))
theorem s_Te (S : Snd k n) (C : COk k c X W) (e : Expr) : PT X e (tT k W (dT c (n + 1) e)) := by
  unfold dT
  split
  · exact (S.Ts C _ _ _).pt
  · exact sx_notT (pt_not (S.Te C _))
  · exact ptb
  · rename_i h1 h2 h3
    refine sx_testV (S.P C e ?_)
    cases e with
    | BoolOp a b c => exact absurd rfl (h1 a b c)
    | UnaryOp op a p => cases op with
      | Not => exact absurd rfl (h2 a p)
      | _ => rfl
    | IfExp a b c d => exact absurd rfl (h3 a b c d)
    | _ => rfl
/-- the iterables' and the calls' fuel -/
theorem s_I (S : Snd k n) (C : COk k c X W) (tg e : Expr) : PI X tg e (tI k W (dI c (n + 1) e)) := by
  have seq : ∀ e, PI X tg e (tI k W (itSeq (dE c n e))) := fun e => sx_itSeq (by rw [← C.hK]; exact pi_seq (S.E C e))
  unfold dI
  split
  · rename_i f p args q
    split
    · rename_i h
      rw [Bool.and_eq_true] at h
      obtain ⟨h1, h2⟩ := h
      have ef : f = ("range" : Str) := by simpa using h2
      subst ef
      obtain ⟨g1, g2, _⟩ := blt_of C h1
      split
      · rename_i a
        by_cases hs : isStar a = true
        · cases a <;> first | (cases hs; done) | skip
          cases n with
          | zero => exact ⟨fun _ _ _ _ _ _ q => by obtain ⟨g, env, st, S, q⟩ := q; exact q.elim⟩
          | succ n => unfold dE; exact ⟨fun _ _ _ _ _ _ q => by obtain ⟨g, env, st, S, q⟩ := q; exact q.elim⟩
        · have hs : isStar a = false := by simpa using hs
          exact sx_itRng1 (pi_range1 g1 g2 (pa_cons (S.E C a) pa_nil (star_eq hs)) (star_eq hs))
      · rename_i a b
        split
        · exact pib
        · rename_i h
          have hs : isStar a = false := by cases e : isStar a <;> simp_all
          have hs2 : isStar b = false := by cases e : isStar b <;> simp_all
          exact sx_itRng2 (pi_range2 g1 g2 (pa_cons (S.E C a) (pa_cons (S.E C b) pa_nil (star_eq hs2)) (star_eq hs)) (by rw [star_eq hs, star_eq hs2]; rfl) (star_eq hs2))
      · exact pib
    · split
      · exact pib
      · exact seq _
  · split
    · exact seq _
    · exact pib
/-! ### built-ins of one argument -/
theorem hpl0 {pos : Pos} {env : Env} : (backTo pos (starEach [] env)).any (·.1) = false := rfl
theorem s_B1 (S : Snd k n) (C : COk k c X W) (f : Str) (p : Pos) (a : Expr) (pos : Pos) (hb : c.blt f = true) (hs : isStar a = false) :
    PE X (.Call (.Name f p) [a] [] pos) (tV k W (dBlt1 c (n + 1) f a)) ∧ (f = ("list" : Str) → PE X (.Call (.Name f p) [a] [] pos) (tF k W (dBlt1 c (n + 1) f a))) := by
  obtain ⟨g1, g2, _⟩ := blt_of C hb
  have ha : PA X [a] (tCons (tB k W (dB c n a)) tNil) := pa_cons (Mp.PE.toB (S.B C a)) pa_nil (star_eq hs)
  unfold dBlt1
  split
  · rename_i h
    have ef : f = ("len" : Str) := by simpa using h
    subst ef
    refine ⟨sx_ev1S m0V post_V (OpOk1.v ok_len) (Mp.PE.imp (pe_callB (call_len_seq.or call_len_str) g1 g2 boot_len ha (by decide) (by decide) (star_eq hs) hpl0) fun σ H Q q => ?_), fun e => by cases e⟩
    obtain ⟨g, env, st, S', q⟩ := q
    refine ⟨g, env, st, S', q.imp fun v H1 q1 => ?_⟩
    rcases q1 with ⟨p, ys, rfl, h1, q1⟩ | ⟨z, rfl, h1, q1⟩
    · exact .inl ⟨p, ys, rfl, by rw [C.hK]; exact h1, q1⟩
    · exact .inr ⟨z, rfl, h1, q1⟩
  · split
    · rename_i h
      have ef : f = ("tuple" : Str) := by simpa using h
      subst ef
      refine ⟨sx_ev1S m0V post_V (OpOk1.v ok_tuple) (Mp.PE.imp (pe_callTy call_tuple_of g1 g2 boot_tuple ha (by decide) (by decide) (star_eq hs) hpl0) fun σ H Q q => ?_), fun e => by cases e⟩
      obtain ⟨g, env, st, S', q⟩ := q
      refine ⟨g, env, st, S', q.imp fun v H1 q1 => ?_⟩
      obtain ⟨p, ys, rfl, h1⟩ := q1
      exact ⟨p, ys, rfl, by rw [C.hK]; exact h1⟩
    · split
      · rename_i h
        have ef : f = ("list" : Str) := by simpa using h
        subst ef
        have base : PE X (.Call (.Name "list" p) [a] [] pos) (fun σ H Q => tB k W (dB c n a) σ H fun x H1 => ∃ p ys, x = .ref p ∧ (SqL k.K H1 p ys ∨ SqT k.K H1 p ys) ∧ ∀ l, H1 l = none → Q (.ref l) (upd H1 l (.lst ys))) := by
          refine Mp.PE.imp (pe_callTy call_list_of g1 g2 boot_list ha (by decide) (by decide) (star_eq hs) hpl0) fun σ H Q q => ?_
          obtain ⟨g, env, st, S', q⟩ := q
          refine ⟨g, env, st, S', q.imp fun v H1 q1 => ?_⟩
          obtain ⟨p, ys, rfl, h1⟩ := q1
          exact ⟨p, ys, rfl, by rw [C.hK]; exact h1⟩
        exact ⟨sx_ev1S m0V post_V (OpOk1.v ok_list) base, fun _ => sx_ev1S m0F post_F ok_list base⟩
      · split
        · rename_i h
          have ef : f = ("all" : Str) := by simpa using h
          subst ef
          refine ⟨sx_ev1S (op := fun _ => allT) m0V post_V (OpOk1.v ok_all) (Mp.PE.imp (pe_callB (cr_all C.calm) g1 g2 boot_all ha (by decide) (by decide) (star_eq hs) hpl0) fun σ H Q q => ?_), fun e => by cases e⟩
          rw [C.hK]
          exact q
        · split
          · rename_i h
            have ef : f = ("any" : Str) := by simpa using h
            subst ef
            refine ⟨sx_ev1S (op := fun _ => anyT) m0V post_V (OpOk1.v ok_any) (Mp.PE.imp (pe_callB (cr_any C.calm) g1 g2 boot_any ha (by decide) (by decide) (star_eq hs) hpl0) fun σ H Q q => ?_), fun e => by cases e⟩
            rw [C.hK]
            exact q
          · rename_i hl _ _
            exact ⟨peb, fun _ => peb⟩

/-! ### calls -/
theorem kind_in {c : Cfg} {e : Expr} {b : String} (h : tyName1 c e = some b) : b ∈ kinds5 ∧ ∃ x p, e = .Name x p ∧ c.blt x = true ∧ kindName x = some b := by
  unfold tyName1 at h
  split at h
  · rename_i x p
    split at h
    · rename_i hb
      refine ⟨?_, x, p, rfl, hb, h⟩
      unfold kindName at h
      repeat' split at h
      all_goals first | (cases h; decide) | (cases h; done)
    · cases h
  · cases h
theorem p_ty (C : COk k c X W) {e : Expr} {b : String} (h : tyName1 c e = some b) : PE X e (tC (.ty b)) ∧ isStar e = false := by
  obtain ⟨_, x, p, rfl, hb, hk⟩ := kind_in h
  obtain ⟨g1, g2, _⟩ := blt_of C hb
  refine ⟨?_, rfl⟩
  unfold kindName at hk
  split at hk
  · rename_i h; have ef : x = ("bool" : Str) := by simpa using h
    subst ef; cases hk; exact pe_bltn g1 g2 boot_bool rfl (by decide) (by decide)
  · split at hk
    · rename_i h; have ef : x = ("int" : Str) := by simpa using h
      subst ef; cases hk; exact pe_bltn g1 g2 boot_int rfl (by decide) (by decide)
    · split at hk
      · rename_i h; have ef : x = ("str" : Str) := by simpa using h
        subst ef; cases hk; exact pe_bltn g1 g2 boot_str rfl (by decide) (by decide)
      · split at hk
        · rename_i h; have ef : x = ("tuple" : Str) := by simpa using h
          subst ef; cases hk; exact pe_bltn g1 g2 boot_tuple rfl (by decide) (by decide)
        · split at hk
          · rename_i h; have ef : x = ("list" : Str) := by simpa using h
            subst ef; cases hk; exact pe_bltn g1 g2 boot_list rfl (by decide) (by decide)
          · cases hk
/-- some constants as arguments -/
def tTys : List String → TA
  | [] => tNil
  | b :: bs => tCons (tC (.ty b)) (tTys bs)
theorem p_tys (C : COk k c X W) : ∀ {es : List Expr} {bs : List String}, tyNames1 c es = some bs → PA X es (tTys bs) ∧ ∀ b ∈ bs, b ∈ kinds5
  | [], bs, h => by cases h; exact ⟨pa_nil, fun _ h => by cases h⟩
  | e :: es, bs, h => by
    unfold tyNames1 at h
    cases h1 : tyName1 c e with
    | none => rw [h1] at h; cases h
    | some b =>
      rw [h1] at h
      cases h2 : tyNames1 c es with
      | none => rw [h2] at h; cases h
      | some r =>
        rw [h2] at h
        cases h
        obtain ⟨a1, a2⟩ := p_tys C h2
        obtain ⟨b1, b2⟩ := p_ty C h1
        refine ⟨pa_cons b1 a1 (star_eq b2), fun x hx => ?_⟩
        rcases List.mem_cons.mp hx with rfl | hx
        · exact (kind_in h1).1
        · exact a2 x hx
theorem tTys_of : ∀ (bs : List String) (σ : L2.St) (H : Hp) (Q : List V → Hp → Prop), Q (bs.map V.ty) H → tTys bs σ H Q
  | [], _, _, _, q => q
  | b :: bs, σ, H, Q, q => tTys_of bs σ H (fun vs H2 => Q (.ty b :: vs) H2) q
theorem cls_pair : ∀ bs : List String, Paired ClsV (bs.map V.ty) (bs.map Value.type)
  | [] => .nil
  | b :: bs => .cons (.ty b) (cls_pair bs)
theorem RepB.skip {g : Gh} {H : Hp} {p : Addr} {o : HO} {x : T} {v : V} (hp : H p = none) (r : RepB k g H x v) : RepB k g (upd H p o) x v := by
  rcases r with r | ⟨a, e, ow⟩
  · exact .inl r
  · refine .inr ⟨a, e, Own.mono (GLe.refl g) ?_ _ ow⟩
    obtain ⟨u, hu⟩ := ow.there
    exact upd_ne (ne_of_none hu hp)
theorem s_isi (S : Snd k n) (C : COk k c X W) {p pos : Pos} {a b : Expr} {ns : List String} (hb : c.blt "isinstance" = true) (hs : isStar a = false) (h : tyNames c b = some ns) : PE X (.Call (.Name "isinstance" p) [a, b] [] pos) (tV k W (ev1S (isKind ns) (dB c n a))) := by
  obtain ⟨g1, g2, _⟩ := blt_of C hb
  have fin : ∀ {g : Gh} {env : En} {st : Store} {σ : L2.St} {H : Hp} {x z : T} {v : V}, SR k g env st σ H → RepB k g H x v → isKind ns st x = some z → (∀ b ∈ ns, b ∈ kinds5) → ∃ s : String, TyX k.K H v (.type s) ∧ s ∈ kinds7 ∧ z = .bl (ns.any (subKind s)) ∧ ∀ (p : Addr) (o : HO), H p = none → TyX k.K (upd H p o) v (.type s) := fun {g env st σ H x z v} S' r e hk => by
    unfold isKind at e
    cases h1 : kindOf st x with
    | none => rw [h1] at e; cases e
    | some s =>
      rw [h1] at e
      cases e
      exact ⟨s, kind_ty S' r h1, kind_mem h1, rfl, fun p o hp => kind_ty (S'.skip (o := o) hp).1 (RepB.skip hp r) h1⟩
  unfold tyNames at h
  split at h
  · rename_i es _ _
    cases h0 : tyNames1 c es with
    | none => rw [h0] at h; cases h
    | some bs =>
    rw [h0] at h
    have h : (if bs.length ≤ 10 then some bs else none) = some ns := h
    split at h
    rotate_left
    · cases h
    rename_i h10
    cases h
    obtain ⟨a1, a2⟩ := p_tys C h0
    refine Mp.PE.imp (pe_callB call_isiT g1 g2 PyProof.Rows.boot_isinstance (pa_cons (Mp.PE.toB (S.B C a)) (pa_cons (pe_tup a1) pa_nil (star_eq rfl)) (star_eq hs)) (by decide) (by decide) (star_eq hs) (by rw [star_eq rfl]; rfl)) fun σ H Q ⟨g, env, st, S', q⟩ => ?_
    refine ⟨g, env, st, S', (q.bind (R1 := rB k) m0V).imp fun v H1 ⟨x, st1, g1', x1, S1, r1, q1⟩ => ?_⟩
    obtain ⟨z, ez, q2⟩ := After.opt (o := isKind ns st1 x) q1
    obtain ⟨s, t1, t2, rfl, t3⟩ := fin S1 r1 ez a2
    refine tTys_of ns σ H1 _ ⟨?_, fun tp htp => ⟨v, tp, ns.map V.ty, .type s, ns.map Value.type, ns.any (subKind s), rfl, upd_same, cls_pair ns, ?_, ?_, ?_⟩⟩
    · rw [List.length_map, sizeLine_eq]; omega
    · rw [C.hK]; exact t3 tp _ htp
    · rw [C.hK]; exact kit_any t2 a2
    · obtain ⟨S2, x2, _⟩ := S1.skip (o := .tup (ns.map V.ty)) htp
      exact q2 _ _ g1' x2 S2 rep_bl
  · rename_i x px
    cases h1 : tyName1 c (.Name x px) with
    | none => rw [h1] at h; cases h
    | some b =>
      rw [h1] at h
      cases h
      obtain ⟨b1, b2⟩ := p_ty C h1
      refine Mp.PE.imp (pe_callB call_isi g1 g2 PyProof.Rows.boot_isinstance (pa_cons (Mp.PE.toB (S.B C a)) (pa_cons b1 pa_nil (star_eq b2)) (star_eq hs)) (by decide) (by decide) (star_eq hs) (by rw [star_eq b2]; rfl)) fun σ H Q ⟨g, env, st, S', q⟩ => ?_
      refine ⟨g, env, st, S', (q.bind (R1 := rB k) m0V).imp fun v H1 ⟨x', st1, g1', x1, S1, r1, q1⟩ => ?_⟩
      obtain ⟨z, ez, q2⟩ := After.opt (o := isKind [b] st1 x') q1
      have hk : ∀ b' ∈ [b], b' ∈ kinds5 := fun b' hb' => by
        have : b' = b := by simpa using hb'
        subst this
        exact (kind_in h1).1
      obtain ⟨s, t1, t2, rfl, _⟩ := fin S1 r1 ez hk
      refine ⟨v, .ty b, .type s, .type b, subKind s b, rfl, .ty b, by rw [C.hK]; exact t1, by rw [C.hK]; exact kit_sub t2 (hk b (by simp)), ?_⟩
      have := q2 (.bl (subKind s b)) H1 g1' Ext.refl S1 (by simp; exact rep_bl)
      exact this
  · cases h
theorem any_star : ∀ {es : List Expr} {env : Env} {pos : Pos}, es.any isStar = false → (backTo pos (starEach es env)).any (·.1) = false
  | [], _, _, _ => rfl
  | e :: es, env, pos, h => by
    rw [List.any_cons, Bool.or_eq_false_iff] at h
    rw [star_eq h.1]
    show (false || (backTo pos (starEach es env)).any (·.1)) = false
    rw [any_star h.2]
    rfl
theorem dEs_len : ∀ (n : Nat) (es : List Expr), True := fun _ _ => trivial
/-- a call without arguments, the wish at the caller's slots -/
theorem pe_call0S {CX : CXT} {j : Nat} {f : Addr} {fd : FuncData} {ps : List Str} {sp : Sp} {E : L2.St → XK} {x : Str} {p pos : Pos} (F : FnOk X.prog X.w X.K X.mg X.base CX j f fd ps sp) (hr : Room j X.A) (hg : Gl X x) (hm : X.mg x = some (.ref f)) (hk : PySem.W.keepIn X.K (.ref f) = true) (hb : Binds X.K fd ps []) (hx : ∀ σ, PassesAt CX X σ (E σ))
    (hdb : (x == ("__debug__" : Str)) = false) : PE X (.Call (.Name x p) [] [] pos) (fun σ H Q => sp [] H Q (E σ)) := by
  refine ⟨fun pins s σ H Q I h => ?_⟩
  refine wpAny_Call_Name_kw (ld_glob I hg hm ?_ hdb)
  exact PySem.W.callWith_K0 I.kIn hk (run_fnSD (us := []) (vs := []) (dvs := []) F hr hb .nil (hx σ) I .nil h)
theorem s_Ca (S : Snd k n) (C : COk k c X W) (f : Expr) (args : List Expr) (pos : Pos) : PE X (.Call f args [] pos) (tV k W (dC c (n + 1) f args)) ∧ (freshX c (.Call f args [] pos) = true → PE X (.Call f args [] pos) (tF k W (dC c (n + 1) f args))) := by
  cases f with
  | Name f p =>
    unfold dC
    simp only
    split
    · rename_i hg
      obtain ⟨g1, g2⟩ := glob_of C hg
      split
      · rename_i e he
        split
        · rename_i hc
          simp only [Bool.and_eq_true, decide_eq_true_eq, beq_iff_eq, Bool.not_eq_true'] at hc
          obtain ⟨⟨hl, hn⟩, hst⟩ := hc
          obtain ⟨fa, fd, hm, hk, hb, F⟩ := C.G.fns f e he
          have base : PE X (.Call (.Name f p) args [] pos) (tR k W (rFn k e.fresh) (callP e.fn (dEs c n args))) := by
            refine sx_call ?_
            cases args with
            | nil =>
              refine Mp.PE.imp (pe_call0S (E := fun σ cls d H' => W cls d σ H') F (C.room _ hl) g1 hm hk hb (fun σ => passAt C.tk σ) g2) fun σ H Q q => ?_
              cases n with
              | zero => obtain ⟨g, env, st, _, q⟩ := q; exact q.elim
              | succ n =>
                unfold dEs at q
                obtain ⟨g, env, st, S', q⟩ := q
                exact q [] H g Ext.refl S' (RepL.nil.mpr rfl)
            | cons a args =>
              rw [List.any_cons, Bool.or_eq_false_iff] at hst
              refine Mp.PE.imp (pe_callSD (E := fun σ cls d H' => W cls d σ H') F (C.room _ hl) g1 hm hk hb .nil (fun σ => passAt C.tk σ) (S.Es C (a :: args)) g2 (star_eq hst.1) (any_star hst.2)) fun σ H Q q => ?_
              obtain ⟨g, env, st, S', q⟩ := q
              refine ⟨g, env, st, S', q.imp fun vs H1 q1 => ?_⟩
              rw [List.append_nil]
              exact q1
          refine ⟨Mp.PE.thawFn base, fun hf => ?_⟩
          unfold freshX at hf
          simp only [hg, he, if_true] at hf
          rw [hf] at base
          exact base
        · exact ⟨peb, fun _ => peb⟩
      · rename_i he
        split
        · rename_i hb
          split
          · rename_i a
            split
            · exact ⟨peb, fun _ => peb⟩
            · rename_i hs
              have hs : isStar a = false := by simpa using hs
              obtain ⟨b1, b2⟩ := S.B1 C f p a pos hb hs
              refine ⟨b1, fun hf => ?_⟩
              unfold freshX at hf
              simp only [hg, he, if_true] at hf
              rw [Bool.or_eq_true] at hf
              rcases hf with hf | hf
              · exact b2 (by simpa using hf)
              · have ef : f = ("sorted" : Str) := by simpa using hf
                subst ef
                cases n with
                | zero => exact peb
                | succ n => unfold dBlt1; exact peb
          · rename_i a b
            split
            · rename_i hi
              have ef : f = ("isinstance" : Str) := by simpa using hi
              subst ef
              split
              · rename_i ns hns
                by_cases hs : isStar a = true
                · cases a <;> first | (cases hs; done) | skip
                  have hB : ∀ e q, dB c n (.Starred e q) = Ev.bad := fun e q => by
                    cases n with
                    | zero => unfold dB; rfl
                    | succ n =>
                      unfold dB
                      cases n with
                      | zero => rfl
                      | succ n => rfl
                  rw [hB]
                  refine ⟨⟨fun _ _ _ _ _ _ q => ?_⟩, fun hf => ⟨fun _ _ _ _ _ _ q => ?_⟩⟩
                  · obtain ⟨g, env, st, _, q⟩ := q; exact q.elim
                  · obtain ⟨g, env, st, _, q⟩ := q; exact q.elim
                · have hs : isStar a = false := by simpa using hs
                  refine ⟨s_isi S C hb hs hns, fun hf => ?_⟩
                  unfold freshX at hf
                  simp only [hg, he, if_true] at hf
                  cases hf
              · exact ⟨peb, fun _ => peb⟩
            · exact ⟨peb, fun _ => peb⟩
          · exact ⟨peb, fun _ => peb⟩
        · exact ⟨peb, fun _ => peb⟩
    · exact ⟨peb, fun _ => peb⟩
  | _ => unfold dC; exact ⟨peb, fun _ => peb⟩
/-! ### comprehensions -/
theorem PTs.imp {X : Cx} {e : List Expr} {t t' : TT} (h : PTs X e t) (i : ∀ σ H Q, t' σ H Q → t σ H Q) : PTs X e t' := ⟨fun pins s σ H Q I q => h.run pins s σ H Q I (i σ H Q q)⟩
theorem folded {iter : Expr} {env : Env} (h : isPlain iter = true) : ∀ x, foldedSetIterable iter env x = pure x := by
  intro x
  cases iter <;> first | rfl | (cases h; done)
/-- the parts of a comprehension of one clause -/
structure LcOk (k : Gk) (c : Cfg) (n : Nat) (X : Cx) (W : L2.WX) (elt tg it : Expr) (ifs : List Expr) (scope : Scope) (f : EvT) : Prop where
  ex : ∃ (g : Tg) (fc : EvB), f = comp1 ((ownOf c.N scope.names).map (·.2)) (dI c n it) g fc (dE (c.blk scope) n elt) ∧ BlkOk X.N X.env.scope scope (ownOf c.N scope.names) ∧ isPlain it = true ∧ PI X tg it (tI k W (dI c n it)) ∧
    GOk k (· ∈ (ownOf c.N scope.names).map (·.2)) g (gOf k.K g) ∧ (∀ (s : Shared) (H : Hp) (A : Addr) (cl : List (Str × Addr)) (fp : List Addr), PG (X.blk s H scope (compEnvC scope cl A X.env) fp) tg (gOf k.K g)) ∧
    (∀ (s : Shared) (H : Hp) (A : Addr) (cl : List (Str × Addr)) (fp : List Addr), PTs (X.blk s H scope (compEnvC scope cl A X.env) fp) ifs (tT k WF fc)) ∧
    (∀ (s : Shared) (H : Hp) (A : Addr) (cl : List (Str × Addr)) (fp : List Addr), PE (X.blk s H scope (compEnvC scope cl A X.env) fp) elt (tV k WF (dE (c.blk scope) n elt)))
/-- a comprehension tells nothing, or it is of one clause -/
theorem lc_cases (S : Snd k n) (C : COk k c X W) (elt : Expr) (gs : List Comprehension) (scope : Scope) (pos : Pos) : dLc c (n + 1) elt gs scope = Ev.bad ∨ ∃ tg it ifs, gs = [⟨tg, it, ifs, 0⟩] ∧ LcOk k c n X W elt tg it ifs scope (dLc c (n + 1) elt gs scope) := by
  unfold dLc
  split
  · rename_i tg it ifs
    split
    · exact .inl rfl
    · rename_i h
      have h1 : blkB c.N c.sc scope = true := by cases e : blkB c.N c.sc scope <;> simp_all
      have h2 : isPlain it = true := by cases e : isPlain it <;> simp_all
      split
      · rename_i g hg
        have Cb := blk_COk C h1
        have one : ∀ (fc : EvB), (∀ (s : Shared) (H : Hp) (A : Addr) (cl : List (Str × Addr)) (fp : List Addr), PTs (X.blk s H scope (compEnvC scope cl A X.env) fp) ifs (tT k WF fc)) →
            LcOk k c n X W elt tg it ifs scope (comp1 ((ownOf c.N scope.names).map (·.2)) (dI c n it) g fc (dE (c.blk scope) n elt)) := fun fc ht =>
          ⟨g, fc, rfl, blkOk_of C h1, h2, S.I C tg it, gok_of g (by
            -- any state will do to see where the target stores
            exact (dG_in (c.blk scope) n tg g hg) _ (blk_in C)), fun s H A cl fp => (dG_ok (Cb s H A cl fp) n tg g hg).2.1, ht, fun s H A cl fp => S.E (Cb s H A cl fp) elt⟩
        split
        · exact .inr ⟨_, _, _, rfl, one _ fun s H A cl fp => Mp.PTs.imp pts_nil fun σ H Q q => tR_pure (v := true) (fun _ _ _ _ _ _ => rfl) q⟩
        · rename_i t
          exact .inr ⟨_, _, _, rfl, one _ fun s H A cl fp => pts_one (S.Te (Cb s H A cl fp) t)⟩
        · exact .inl rfl
      · exact .inl rfl
  · exact .inl rfl
theorem lc_pe (C : COk k c X W) {elt tg it : Expr} {ifs : List Expr} {scope : Scope} {pos : Pos} {f : EvT} (L : LcOk k c n X W elt tg it ifs scope f) : PE X (.ListComp elt [⟨tg, it, ifs, 0⟩] scope pos) (tF k W f) := by
  obtain ⟨g, fc, rfl, h1, h2, h3, h4, h5, h6, h7⟩ := L.ex
  exact Mp.PE.imp (pe_lc C.calm (by rw [C.hN]; exact C.nd) h3 h1 h5 h6 h7 (folded h2)) fun σ H Q q => comp_tLc h4 q
theorem sw_false {elt : Expr} {gs : List Comprehension} {scope : Scope} {pos py : Pos} {y : Str} {l : Nat} {env : Env} (hk : env.scope.kind = .function) (h : ¬ (env.scope.names.lookup y = some .local ∧ (py.line == pos.line) = true ∧ (scope.names.any fun (n, k) => n == y && (k == .local || k == .cell)) = false)) : swapsWith (.ListComp elt gs scope pos) (some (.Name y py)) l env = pure false := by
  have hb : env.blockKind = .function := by unfold Env.blockKind; rw [hk]; rfl
  unfold swapsWith
  simp only [hb, Expr.pos]
  have : (ScopeKind.function == ScopeKind.function && env.kindOf y == some NameKind.local && py.line == pos.line && !scope.names.any fun x => x.1 == y && (x.2 == .local || x.2 == .cell)) = false := by
    cases e1 : (env.kindOf y == some NameKind.local) with
    | false => simp
    | true =>
      have e1' : env.scope.names.lookup y = some .local := by
        have : env.kindOf y = some NameKind.local := by simpa using e1
        exact this
      cases e2 : (py.line == pos.line) with
      | false => simp
      | true =>
        cases e3 : (scope.names.any fun (n, k) => n == y && (k == .local || k == .cell)) with
        | true => simp_all
        | false => exact absurd ⟨e1', e2, e3⟩ h
  rw [this]
/-- a comprehension by its value, and given to a name -/
theorem s_Lc (S : Snd k n) (C : COk k c X W) (elt : Expr) (gs : List Comprehension) (scope : Scope) (pos : Pos) : PE X (.ListComp elt gs scope pos) (tF k W (dLc c (n + 1) elt gs scope)) ∧
    ∀ (x : Str) (px spos : Pos) (i : Nat), c.setSlot x = some i → PS X (.Assign [.Name x px] (.ListComp elt gs scope pos) spos) (tAsg (tF k W (dLc c (n + 1) elt gs scope)) (gName i)) := by
  rcases lc_cases S C elt gs scope pos with h | ⟨tg, it, ifs, rfl, L⟩
  · rw [h]; exact ⟨peb, fun _ _ _ _ _ => psb⟩
  · refine ⟨lc_pe C L, fun x px spos i hx => ?_⟩
    obtain ⟨h1, h2, h3, _⟩ := setSlot_of C hx
    have nd : X.N.Nodup := by rw [C.hN]; exact C.nd
    by_cases hsw : X.env.scope.names.lookup x = some .local ∧ (px.line == pos.line) = true ∧ (scope.names.any fun (n, k) => n == x && (k == .local || k == .cell)) = false
    · obtain ⟨g, fc, e, q1, q2, q3, q4, q5, q6, q7⟩ := L.ex
      refine Mp.PS.imp (ps_setLc C.calm nd h1 hsw.1 (sw_true C.kd hsw.1 hsw.2.1 hsw.2.2) q3 q1 q5 q6 q7 (folded q2)) fun D σ H q => ?_
      rw [e] at q
      exact comp_tLc q4 q
    · exact ps_set nd h1 h2 (lc_pe C L) (sw_false C.kd hsw) h3

/-! ### the step -/
theorem bB (S : Snd k n) (C : COk k c X W) (e : Expr) : PE X e (tB k W (dB c n e)) := Mp.PE.toB (S.B C e)
theorem isStar_sub {i : Expr} (h : ∀ a b c d, i ≠ .Slice a b c d) : PlainIx i := fun o j => by
  cases i <;> first | rfl | exact absurd rfl (h _ _ _ _)
theorem cut_pe (S : Snd k n) (C : COk k c X W) (o : Expr) (lo hi : Option Expr) (p1 pos : Pos) : PE X (.Subscript o (.Slice lo hi none p1) pos) (tF k W (ev3S opCut (dB c n o) (dO c n lo) (dO c n hi))) :=
  sx_cut (pe_slice (sl_M C.hK) (S.B C o) (S.O C lo) (S.O C hi))
theorem bin_pe (S : Snd k n) (C : COk k c X W) {p : Post} {R : Rdg T V} (m : Mono0 R) (hp : PostOk k p R) (a b : Expr) (op : Operator) (pos : Pos) {f : T → T → Option T} (hw : ∀ r, OpOk k (pF k) r (fun _ => f) → OpOk k p r fun _ => f) (h : binOp op = some f) : PE X (.BinOp a op b pos) (tR k W R (ev2 f (dB c n a) (dB c n b))) := by
  obtain ⟨r, h1, h2⟩ := bin_table (k := k) C.hK h
  exact sx_ev2S m hp (hw r h2) (pe_op h1 (S.B C a) (bB S C b))
theorem s_E (S : Snd k n) (C : COk k c X W) (e : Expr) : PE X e (tV k W (dE c (n + 1) e)) := by
  unfold dE
  split
  · exact sx_con pe_non fun g => rep_non
  · exact sx_con pe_bl fun g => rep_bl
  · exact sx_con pe_int fun g => rep_int
  · exact sx_con pe_str fun g => rep_str
  · rename_i x p
    cases h : c.slot x with
    | some i => exact sx_var (p_var C h)
    | none =>
      simp only
      split
      · rename_i hg
        obtain ⟨g1, g2⟩ := glob_of C hg
        split
        · rename_i t ht
          obtain ⟨u, v, hm, r, hr⟩ := C.G.consts x t ht
          exact sx_con (pe_glob g1 hm r g2) hr
        · exact peb
      · exact peb
  · rename_i a op b p
    cases h : binOp op with
    | none => exact peb
    | some f => exact bin_pe S C m0V post_V a b op p (fun r h => OpOk.v h) h
  · exact sx_ev1S (op := fun _ => opNeg) m0V post_V (OpOk1.v ok_neg) (pe_un un_neg (Mp.PE.vB (S.E C _)))
  · exact sx_notV (pe_not (S.E C _))
  · exact S.Bl C _ _ _
  · rename_i a op b p
    cases h : cmpOp op with
    | none => exact peb
    | some f =>
      obtain ⟨r, h1, h2⟩ := cmp_table (k := k) C.hK C.un h
      simp only
      split
      · exact peb
      · rename_i hm
        exact sx_ev2S (op := fun _ => f) m0V post_V (OpOk.v h2) (pe_cmpR h1 (S.B C a) (bB S C b) (by simpa using hm))
  · rename_i a op op' b b' p
    cases h : cmpOp op with
    | none => exact peb
    | some f =>
      cases h' : cmpOp op' with
      | none => exact peb
      | some f' =>
        obtain ⟨r, h1, h2⟩ := cmp_table (k := k) C.hK C.un h
        obtain ⟨r', h1', h2'⟩ := cmp_table (k := k) C.hK C.un h'
        simp only
        split
        · exact peb
        · rename_i hm
          exact sx_chain (OpOk.v h2) (OpOk.v h2') (pe_chain h1 h1' (S.E C a) (S.E C b) (S.E C b') (by
            show behindInMarks op' b' = false
            simpa using hm))
  · exact sx_ite (pe_ifExp (S.Te C _) (S.E C _) (S.E C _))
  · exact sx_evN m0V post_V (OpOkL.v ok_tup) (pe_tup (S.Es C _))
  · exact sx_evN m0V post_V (OpOkL.v ok_lst) (pe_lst (S.Es C _))
  · rename_i o i p
    split
    · exact Mp.PE.thaw (cut_pe S C o _ _ _ _)
    · exact peb
    · rename_i h1 h2
      refine sx_ev2S m0V post_V ok_ix (pe_ix (by rw [← C.hK]; exact ix_seq) (S.B C o) (Mp.PE.vB (S.E C i)) (isStar_sub fun a b d p e => ?_))
      subst e
      exact h2 a b d p rfl
  · exact Mp.PE.thaw (S.L C _ _ _ _).1
  · exact (S.Ca C _ _ _).1
  · exact peb
theorem s_F (S : Snd k n) (C : COk k c X W) (e : Expr) (h : freshX c e = true) : PE X e (tF k W (dE c (n + 1) e)) := by
  cases e with
  | List es p => unfold dE; exact sx_evN m0F post_F ok_lst (pe_lst (S.Es C _))
  | ListComp elt gs scope p => unfold dE; exact (S.L C _ _ _ _).1
  | BinOp a op b p =>
    unfold dE
    simp only
    cases h : binOp op with
    | none => exact peb
    | some f => exact bin_pe S C m0F post_F a b op p (fun r h => h) h
  | Subscript o i p =>
    cases i with
    | Slice lo hi s p1 =>
      unfold dE
      cases s with
      | none => exact cut_pe S C o lo hi p1 p
      | some s => exact peb
    | _ => cases h
  | Call f args kws p =>
    cases kws with
    | nil => unfold dE; exact (S.Ca C f args p).2 h
    | cons a b => unfold dE; exact peb
  | _ => cases h
theorem s_P (S : Snd k n) (C : COk k c X W) (e : Expr) (h : byVal e = true) : PT X e (tTest (tV k W (dE c (n + 1) e))) := by
  cases e with
  | Compare a ops bs p =>
    unfold dE
    split <;> first | exact ptt | skip
    all_goals first | (rename_i h0; cases h0; done) | skip
    · rename_i a op b p e
      cases e
      cases h : cmpOp op with
      | none => exact ptt
      | some f =>
        obtain ⟨r, h1, h2⟩ := cmp_table (k := k) C.hK C.un h
        simp only
        split
        · exact ptt
        · rename_i hm
          exact Mp.PT.imp (pt_cmpR h1 (S.B C a) (bB S C b) (by simpa using hm)) fun σ H Q q => rd_ev2S (op := fun _ => f) m0V post_V (OpOk.v h2) q
    · rename_i a op op' b b' p e
      cases e
      cases h : cmpOp op with
      | none => exact ptt
      | some f =>
        cases h' : cmpOp op' with
        | none => exact ptt
        | some f' =>
          obtain ⟨r, h1, h2⟩ := cmp_table (k := k) C.hK C.un h
          obtain ⟨r', h1', h2'⟩ := cmp_table (k := k) C.hK C.un h'
          simp only
          split
          · exact ptt
          · rename_i hm
            exact Mp.PT.imp (pt_chain h1 h1' (S.E C a) (S.E C b) (S.E C b') (by
              show behindInMarks op' b' = false
              simpa using hm)) fun σ H Q q => rd_chain (OpOk.v h2) (OpOk.v h2') q
  | BoolOp a b p => cases h
  | IfExp a b d p => cases h
  | UnaryOp op a p =>
    cases op with
    | Not => cases h
    | _ => exact pt_val (s_E S C _) (by intro _; rfl)
  | _ => exact pt_val (s_E S C _) (by intro _; rfl)
theorem snd : ∀ n, Snd k n
  | 0 => snd0
  | n + 1 =>
    have S := snd n
    { E := fun C e => s_E S C e, F := fun C e h => s_F S C e h, L := fun C elt gs scope pos => s_Lc S C elt gs scope pos, P := fun C e h => s_P S C e h, B := fun C e => s_B S C e, Es := fun C es => s_Es S C es, O := fun C o => s_O S C o,
      Bl := fun C op es pos => s_Bl S C op es pos, Te := fun C e => s_Te S C e, Ts := fun C op es pos => s_Ts S C op es pos, I := fun C tg e => s_I S C tg e, Ca := fun C f args pos => s_Ca S C f args pos, B1 := fun C f p a pos h1 h2 => s_B1 S C f p a pos h1 h2 }
end
end Mp


set_option Elab.async false
set_option linter.all false
set_option maxRecDepth 100000
set_option maxHeartbeats 2000000
/-! Snd3: the soundness of statements, by induction; of a def. -/
namespace Mp
open PySem PySem.Spec PyProof.Rows L2
section
variable {k : Gk} {c : Cfg} {X : Cx} {W : L2.WX} {H00 : Hp}
structure SndS (k : Gk) (n : Nat) : Prop where
  S : ∀ {c : Cfg} {X : Cx} {W : L2.WX}, COk k c X W → ∀ (H00 : Hp) s, PS X s (tSx k W c.fresh H00 (dS c n s))
  SS : ∀ {c : Cfg} {X : Cx} {W : L2.WX}, COk k c X W → ∀ (H00 : Hp) s, PSs X s (tSx k W c.fresh H00 (dSs c n s))
theorem bad_sx {D : L2.Ends} {σ : L2.St} {H : Hp} {fr : Bool} (q : tSx k W fr H00 sBad D σ H) : False := by
  obtain ⟨g, env, st, B, q⟩ := q
  exact q
theorem psx {s : Stmt} {fr : Bool} : PS X s (tSx k W fr H00 sBad) := ⟨fun _ _ _ _ _ _ q => (bad_sx q).elim⟩
theorem pssx {s : List Stmt} {fr : Bool} : PSs X s (tSx k W fr H00 sBad) := ⟨fun _ _ _ _ _ _ q => (bad_sx q).elim⟩
theorem sndS0 : SndS k 0 := ⟨fun C H00 s => by unfold dS; exact psx, fun C H00 s => by unfold dSs; exact pssx⟩
variable {n : Nat}
theorem sw_plain {e : Expr} {t : Option Expr} {l : Nat} {env : Env} (h1 : isPlain e = true) (h2 : isComp e = false) : swapsWith e t l env = pure false := by
  cases e <;> first | rfl | (cases h1; done) | (cases h2; done)
/-- name = value -/
theorem asg_V (C : COk k c X W) {x : Str} {px pos : Pos} {i : Nat} {e : Expr} (hx : c.setSlot x = some i) (hp : isPlain e = true) : PS X (.Assign [.Name x px] e pos) (tAsg (tV k W (dE c n e)) (gName i)) := by
  obtain ⟨h1, h2, h3, _⟩ := setSlot_of C hx
  have nd : X.N.Nodup := by rw [C.hN]; exact C.nd
  cases hc : isComp e with
  | false => exact ps_set nd h1 h2 ((snd n).E C e) (sw_plain hp hc) h3
  | true =>
    cases e <;> first | (cases hc; done) | skip
    rename_i elt gs scope p
    cases n with
    | zero => unfold dE; exact psb
    | succ n =>
      unfold dE
      exact Mp.PS.imp (((snd n).L C elt gs scope p).2 x px pos i hx) fun D σ H q => rd_thaw q
theorem asg_F (C : COk k c X W) {x : Str} {px pos : Pos} {i : Nat} {e : Expr} (hx : c.setSlot x = some i) (hp : isPlain e = true) (hf : freshX c e = true) : PS X (.Assign [.Name x px] e pos) (tAsg (tF k W (dE c n e)) (gName i)) := by
  obtain ⟨h1, h2, h3, _⟩ := setSlot_of C hx
  have nd : X.N.Nodup := by rw [C.hN]; exact C.nd
  cases hc : isComp e with
  | false => exact ps_set nd h1 h2 ((snd n).F C e hf) (sw_plain hp hc) h3
  | true =>
    cases e <;> first | (cases hc; done) | skip
    rename_i elt gs scope p
    cases n with
    | zero => unfold dE; exact psb
    | succ n =>
      unfold dE
      exact ((snd n).L C elt gs scope p).2 x px pos i hx
theorem swapped_none {tgs : List Expr} {kk : Nat} {p : Pos} {e : Expr} {env : Env} (h : ∀ es k' p', e ≠ .Tuple es k' p') : swappedStores [.Tuple tgs kk p] e env = pure none := by
  cases e <;> first | rfl | exact absurd rfl (h _ _ _)
theorem swapped_env {x y : Str} {px py p p' : Pos} {kk k' : Nat} {a b : Expr} {env : Env} (k1 : env.kindOf x = some .local) (k2 : env.kindOf y = some .local) (hb' : env.blockKind = .function) (hne : x ≠ y) (hl' : py.line = px.line) (ha : isStar a = false) (hb : isStar b = false)
    (h1 : ([a, b].all (foldedForSure 8)) = false) (h2 : ([a, b].all (constantsAlone 8)) = false) : swappedStores [.Tuple [.Name x px, .Name y py] kk p] (.Tuple [a, b] k' p') env = pure (some [x, y]) := by
  have hp : (Expr.Name x px).pos = px := rfl
  have hd : [x, y].eraseDups.length = 2 := by
    simp [List.eraseDups_cons, Ne.symm hne]
  simp only [List.all_cons, List.all_nil, Bool.and_true] at h1 h2
  unfold swappedStores
  simp [hb', hp, k1, k2, hl', hd, h1, h2]
  intro h
  rcases h with h | h
  · cases a <;> first | (cases ha; done) | (cases h; done)
  · cases b <;> first | (cases hb; done) | (cases h; done)
theorem acc_slot {x : Str} {j : Nat} (hj : accS c x = some j) : c.slot x = some j := by
  unfold accS at hj
  cases h : c.slot x with
  | none => rw [h] at hj; cases hj
  | some i =>
    rw [h] at hj
    simp only at hj
    split at hj
    · exact hj
    · cases hj
theorem assignEach1 {e : Expr} {env : Env} (h : isStar e = false) : (assignEach [e] env).map (·.2) = [assign e env] := by
  rw [each_cons h]
  rfl
theorem ok_addI : OpOk k (pF k) (ipI fun i j => i + j) (fun _ => opAddI) := by
  intro st x y z e g env σ H v w Q S rx ry q
  cases x with
  | int i => cases y with
    | int j => cases e; exact ⟨i, j, rx.int, ry.int, q _ H ⟨g, Grow.refl S, rep_int⟩⟩
    | _ => cases e
  | _ => cases e
theorem ok_subI : OpOk k (pF k) (ipI fun i j => i - j) (fun _ => opSub) := by
  intro st x y z e g env σ H v w Q S rx ry q
  cases x with
  | int i => cases y with
    | int j => cases e; exact ⟨i, j, rx.int, ry.int, q _ H ⟨g, Grow.refl S, rep_int⟩⟩
    | _ => cases e
  | _ => cases e
theorem aug_table (hK : X.K = k.K) {op : Operator} {f : T → T → Option T} (h : augOp op = some f) : ∃ r, PIp X op r ∧ OpOk k (pF k) r fun _ => f := by
  cases op with
  | Add => cases h; exact ⟨_, ip_add, ok_addI⟩
  | Sub => cases h; exact ⟨_, ip_sub, ok_subI⟩
  | _ => cases h
theorem s_S (I : SndS k n) (C : COk k c X W) (s : Stmt) : PS X s (tSx k W c.fresh H00 (dS c (n + 1) s)) := by
  have nd : X.N.Nodup := by rw [C.hN]; exact C.nd
  have bk : X.env.blockKind = .function := by unfold Env.blockKind; rw [C.kd]; rfl
  unfold dS
  split
  · exact st_nx ps_pass
  · exact st_brk ps_break
  · exact st_ct ps_continue
  · exact st_nx ps_doc
  · rename_i x px m ap a p cp
    split
    · rename_i j hj
      split
      · rename_i h
        simp only [Bool.and_eq_true, Bool.not_eq_true', beq_iff_eq] at h
        obtain ⟨⟨h1, h2⟩, h3⟩ := h
        subst h1
        refine st_sFrz _ (st_app (ps_expr ?_ rfl))
        rw [← C.hK]
        refine pe_bm PySem.F.plainAttrs_list PySem.F.slot_list_append PySem.F.type_list_append mt_append (p_var C (acc_slot hj)) (sx_cons (pa_cons ((snd n).E C a) (sx_nil pa_nil) (star_eq h2))) (hbase := rfl) (hfew := ?_) (hline := by simpa using h3) (hs := star_eq h2) (hplain := rfl)
        rw [star_eq h2]
        rfl
      · exact psx
    · exact psx
  · exact st_retN ps_retN
  · rename_i x px p
    split
    · rename_i i hi
      split
      · exact st_retO (ps_ret (p_var C (acc_slot hi)))
      · rename_i hf
        exact st_retP (by simpa using hf) (ps_ret (p_var C (acc_slot hi)))
    · split
      · exact psx
      · rename_i hf
        exact st_retV (by simpa using hf) (ps_ret ((snd n).E C _))
  · rename_i e p h0
    split
    · exact psx
    · rename_i hf
      refine st_sFrz _ ?_
      cases hfr : c.fresh with
      | false => exact st_retV rfl (ps_ret ((snd n).E C e))
      | true =>
        have hx : freshX c e = true := by
          rw [hfr] at hf
          simpa using hf
        exact st_retF rfl (ps_ret ((snd n).F C e hx))
  · rename_i x px e p
    split
    · rename_i i hi
      split
      · rename_i hp
        refine st_sFrz _ ?_
        split
        · rename_i h
          rw [Bool.and_eq_true] at h
          exact st_own (asg_F C hi hp h.2)
        · split
          · rename_i h
            rw [Bool.and_eq_true] at h
            exact st_shr (asg_F C hi hp h.2)
          · refine st_asg (gown_of (.name i)) ?_
            unfold gOf
            exact asg_V C hi hp
      · exact psx
    · exact psx
  · rename_i x px y py kk p a b k' p' q
    split
    · rename_i i j hi hj
      split
      · rename_i h
        simp only [Bool.and_eq_true, Bool.not_eq_true', beq_iff_eq, bne_iff_ne] at h
        obtain ⟨⟨⟨⟨⟨⟨⟨⟨h1, h2⟩, h3⟩, h4⟩, h5⟩, h6⟩, h7⟩, h8⟩, h9⟩ := h
        obtain ⟨a1, a2, a3, _⟩ := setSlot_of C hi
        obtain ⟨b1, b2, b3, _⟩ := setSlot_of C hj
        refine st_sFrz _ ?_
        have l1 : X.env.scope.names.lookup x = some .local := by rw [C.sc]; exact h3
        have l2 : X.env.scope.names.lookup y = some .local := by rw [C.sc]; exact h4
        refine st_par (ps_par C.calm nd a1 b1 h1 l1 l2 ((snd n).Es C [a, b]) (swapped_env l1 l2 bk h2 h5.symm h6 h7 h8 h9) rfl)
      · exact psx
    · exact psx
  · exact psx
  · rename_i tgs kk p e q h00 h0
    split
    · rename_i g hg
      split
      · rename_i h
        rw [Bool.and_eq_true] at h
        obtain ⟨d1, d2, d3⟩ := dG_ok C n _ g hg
        refine st_sFrz _ (st_asg (gown_of g) (ps_asg ((snd n).E C e) d2 ?_ (swapped_none fun es k' p' e' => h0 es k' p' e') (assignEach1 d1)))
        unfold swapsWithSole
        exact sw_plain h.1 (by simpa using h.2)
      · exact psx
    · exact psx
  · rename_i x px i sp e p
    split
    · exact psx
    · rename_i hsl
      have hsl : isSlice i = false := by simpa using hsl
      have sub : ∀ {to ti : TE} {t : TSet}, PE X (.Name x px) to → PE X i ti → PSet X t → PG X (.Subscript (.Name x px) i sp) (gSub to ti t) := fun ho hi hs => pg_sub ho hi hs (by
        intro v
        cases i <;> first | rfl | (cases hsl; done))
      split
      · rename_i j hj
        exact st_sFrz _ (st_put (ps_asg ((snd n).E C e) (sub (p_var C (acc_slot hj)) ((snd n).E C i) set_list) (by cases e <;> rfl) (by cases e <;> rfl) rfl))
      · exact st_ix (ps_asg ((snd n).E C e) (sub ((snd n).E C _) ((snd n).E C i) set_list) (by cases e <;> rfl) (by cases e <;> rfl) rfl)
  · rename_i x px op e p
    split
    · rename_i i f hi hf
      obtain ⟨a1, a2, a3, _⟩ := setSlot_of C hi
      obtain ⟨r, h1, h2⟩ := aug_table (k := k) C.hK hf
      exact st_sFrz _ (st_aug (OpOk.v h2) (ps_aug nd a1 a2 ((snd n).E C e) h1 a3))
    · exact psx
  · exact st_sFrz _ (st_if (ps_if ((snd n).Te C _) (I.SS C H00 _) (I.SS C H00 _)))
  · rename_i tg it body p
    split
    · rename_i g hg
      obtain ⟨d1, d2, d3⟩ := dG_ok C n _ g hg
      split
      · rename_i hp
        exact st_sFrz _ (st_for (gown_of g) (ps_for C.po C.calm ((snd n).I C tg it) d2 (I.SS C H00 _) (folded hp)))
      · exact psx
    · exact psx
  · exact st_while (ps_while C.po ((snd n).Te C _) (I.SS C H00 _)) turns
  · exact psx
theorem s_SS (I : SndS k n) (C : COk k c X W) (s : List Stmt) : PSs X s (tSx k W c.fresh H00 (dSs c (n + 1) s)) := by
  cases s with
  | nil => unfold dSs; exact sts_nx pss_nil
  | cons a s =>
    cases s with
    | nil =>
      unfold dSs
      exact pss_one (I.S C H00 a)
    | cons b s =>
      unfold dSs
      exact sts_seq (pss_cons (I.S C H00 a) (I.SS C H00 _))
theorem sndS : ∀ n, SndS k n
  | 0 => sndS0
  | n + 1 => ⟨fun C H00 s => s_S (sndS n) C s, fun C H00 s => s_SS (sndS n) C s⟩
end
end Mp


set_option Elab.async false
set_option linter.all false
set_option maxRecDepth 100000
set_option maxHeartbeats 2000000
/-! Fn: a def keeps what its body's interpretation tells. -/
namespace Mp
open PySem PySem.Spec PyProof.Rows L2
section
variable {k : Gk} {g g' : Gh} {env env' : En} {st st' : Store} {σ σ' : L2.St} {H H' : Hp}
/-- nothing of one's own but values -/
theorem start_held {ts : List T} {n : Nat} {q : Tk} {a : Addr} (h : Held g (startE n ts) st σ H q a) : Held g [] st [] H q a := by
  have no : ∀ {i : Nat} {s : Slot}, (startE n ts)[i]? = some s → (∃ t, s = .fr t) ∨ s = .no := fun {i s} e => by
    unfold startE at e
    by_cases hi : i < (ts.map Slot.fr).length
    · rw [List.getElem?_append_left hi] at e
      rw [List.getElem?_map] at e
      cases h : ts[i]? with
      | none => rw [h] at e; cases e
      | some t => rw [h] at e; cases e; exact .inl ⟨t, rfl⟩
    · rw [List.getElem?_append_right (by omega), List.getElem?_replicate] at e
      split at e
      · cases e; exact .inr rfl
      · cases e
  cases q with
  | slot i =>
    rcases h with ⟨t, h1, _⟩ | ⟨c, ns, ds, h1, _⟩
    · rcases no h1 with ⟨_, z⟩ | z <;> cases z
    · rcases no h1 with ⟨_, z⟩ | z <;> cases z
  | cell n => exact h
  | fld n j => exact h
  | sfld i j =>
    obtain ⟨c, ns, ds, b, h1, _⟩ := h
    rcases no h1 with ⟨_, z⟩ | z <;> cases z
theorem SR.start (S : SR k g [] st [] H) {N : List Str} {ts : List T} {vs : List V} (r : RepL k g ts vs) (hl : ts.length ≤ N.length) : SR k g (startE N.length ts) st (L2.start N vs) H := by
  have l := r.length
  have no : ∀ {i : Nat} {s : Slot}, (startE N.length ts)[i]? = some s → (∃ t, s = .fr t ∧ ts[i]? = some t) ∨ s = .no := fun {i s} e => by
    unfold startE at e
    by_cases hi : i < (ts.map Slot.fr).length
    · rw [List.getElem?_append_left hi] at e
      rw [List.getElem?_map] at e
      cases h : ts[i]? with
      | none => rw [h] at e; cases e
      | some t => rw [h] at e; cases e; exact .inl ⟨t, rfl, rfl⟩
    · rw [List.getElem?_append_right (by omega), List.getElem?_replicate] at e
      split at e
      · cases e; exact .inr rfl
      · cases e
  refine ⟨S.sub, S.sz, ?_, fun i t e => ?_, fun i t e => ?_, fun i c ns ds e => ?_, S.cell, fun q q' a h1 h2 => S.uniq q q' a (start_held h1) (start_held h2), fun q a h => S.nof q a (start_held h)⟩
  · unfold startE L2.start
    simp [l]
  · rcases no e with ⟨u, z, ht⟩ | z
    · cases z
      obtain ⟨v, h1, h2⟩ := r.get ht
      refine ⟨v, ?_, h2⟩
      unfold L2.start
      have hi : i < vs.length := (List.getElem?_eq_some_iff.mp h1).1
      rw [List.getElem?_append_left (by simpa using hi), List.getElem?_map, h1]
      rfl
    · cases z
  · rcases no e with ⟨_, z, _⟩ | z <;> cases z
  · rcases no e with ⟨_, z, _⟩ | z <;> cases z
theorem Ext.bare {ts : List T} {n : Nat} (x : Ext g (startE n ts) st σ H g' env' st' σ' H') : Ext g [] st [] H g' [] st' [] H' := by
  refine ⟨x.le, fun a o h nt => ?_, x.there⟩
  obtain ⟨h1, n1⟩ := x.keep a o h fun z => nt (by
    rcases z with z | ⟨q, z⟩
    · exact .inl z
    · exact .inr ⟨q, start_held z⟩)
  exact ⟨h1, fun z => n1 (z.up Sub.nil)⟩
theorem Ext.nil (x : Ext g [] st [] H g' env' st' σ' H') : Ext g [] st [] H g' [] st' [] H' := ⟨x.le, fun a o h nt => let ⟨h1, n1⟩ := x.keep a o h nt; ⟨h1, fun z => n1 (z.up Sub.nil)⟩, x.there⟩
/-- what a body tells, the def tells -/
theorem fn_after {fr : Bool} {ts : List T} {n : Nat} {Q : VK} {E : XK} {body : EvS} (q : AfterF k fr g st H Q E (endFn (body (startE n ts) st))) :
    AfterS k (fun cls d _ H' => E cls d H') fr H g (startE n ts) st σ H { nx := fun _ H' => Q .non H', rt := Q } (body (startE n ts) st) := by
  cases e : body (startE n ts) st with
  | bad => rw [e] at q; exact q
  | err c vs env1 st1 =>
    rw [e] at q
    exact fun cls d σ' H' g' x B h => q cls d H' g' x.bare B.s.bare h
  | ok fl env1 st1 =>
    rw [e] at q
    cases fl with
    | nx =>
      intro σ' H' g' x B
      refine q .non H' g' x.bare B.s.bare ?_
      split
      · exact (rep_non : Rep k g' .non .non)
      · exact (rep_non : Rep k g' .non .non)
    | brk => exact q.elim
    | ct => exact q.elim
    | ret t =>
      intro v σ' H' g' x B r
      rcases r with ⟨i, e1, e2⟩ | r
      · -- one's own list is handed out
        obtain ⟨a, e3, ow⟩ := B.s.own i t e1
        rw [e2] at e3
        cases e3
        have held : Held g' env1 st1 σ' H' (.slot i) a := .inl ⟨t, e1, e2⟩
        cases fr with
        | true =>
          refine q _ H' g' x.bare B.s.bare ?_
          rw [if_pos rfl]
          have nt : ¬ Trk g' [] st1 [] H' a := fun z => by
            rcases z with z | ⟨q', z⟩
            · exact z (B.s.nof _ _ held)
            · have := B.s.uniq _ _ _ held (z.up Sub.nil)
              subst this
              rcases z with ⟨t', z, _⟩ | ⟨_, _, _, z, _⟩ <;> cases z
          have h0 : H a = none := B.b i t a e1 e2
          cases t with
          | lst xs => obtain ⟨vs, h1, h2⟩ := ow; exact ⟨a, vs, rfl, h0, h1, h2, nt⟩
          | dct xs => obtain ⟨vs, h1, h2⟩ := ow; exact ⟨a, vs, rfl, h0, h1, h2, nt⟩
          | _ => exact ow.elim
        | false =>
          obtain ⟨g2, S2, x2⟩ := B.s.frzOwn e1
          have hi : i < env1.length := (List.getElem?_eq_some_iff.mp e1).1
          obtain ⟨v', e4, rp⟩ := S2.fr i t (by rw [List.getElem?_set_self hi])
          rw [e2] at e4
          cases e4
          refine q _ H' g2 (x.trans x2).bare S2.bare ?_
          rw [if_neg (by decide)]
          exact rp
      · refine q v H' g' x.bare B.s.bare ?_
        cases fr with
        | true =>
          rw [if_pos rfl] at r ⊢
          cases t with
          | lst xs => obtain ⟨a, vs, h1, h2, h3, h4, n⟩ := r; exact ⟨a, vs, h1, h2, h3, h4, fun z => n (z.up Sub.nil)⟩
          | dct xs => obtain ⟨a, vs, h1, h2, h3, h4, n⟩ := r; exact ⟨a, vs, h1, h2, h3, h4, fun z => n (z.up Sub.nil)⟩
          | _ => exact r
        | false =>
          rw [if_neg (by decide)] at r ⊢
          exact r
end
section
variable {P : Program} {w : World} {K : PySem.W.Frag} {mg : Str → Option Value} {base : Heap} {f : Addr} {fd : FuncData} {x qual : Str} {params : Arguments} {body : List Stmt} {scope : Scope} {dvs : List V} {kws : List (Str × V)}
/-- what a def's configuration must keep -/
def cfgB (N ps : List Str) (scope : Scope) : Bool :=
  (match scope.kind with | .function => true | _ => false) && !scope.isCoroutine && !scope.isGenerator && decide N.Nodup && decide (N.take ps.length = ps) &&
  (ps.all fun x => match scope.names.lookup x with | some .local => true | some .cell => true | _ => false) && (scope.names.all fun y => match y.2 with | .free => false | _ => true) &&
  (N.all fun x => !(x == ("__debug__" : Str)) && !(x == ("__classdict__" : Str)))
theorem fnScope_of {N ps : List Str} (h : cfgB N ps scope = true) : FnScope N ps scope ∧ (N.all fun x => !(x == ("__debug__" : Str)) && !(x == ("__classdict__" : Str))) = true := by
  unfold cfgB at h
  simp only [Bool.and_eq_true, decide_eq_true_eq, Bool.not_eq_true'] at h
  obtain ⟨⟨⟨⟨⟨⟨⟨h1, h2⟩, h3⟩, h4⟩, h5⟩, h6⟩, h7⟩, h8⟩ := h
  refine ⟨⟨?_, h2, h3, h4, h5, fun y hy => ?_, fun y hy => ?_⟩, ?_⟩
  · split at h1
    · assumption
    · cases h1
  · have := List.all_eq_true.mp h6 y hy
    split at this
    · exact .inl (by assumption)
    · exact .inr (by assumption)
    · cases this
  · have := List.all_eq_true.mp h7 y hy
    intro e
    rw [e] at this
    cases this
  · simpa using h8
theorem fn_den {k : Gk} (hK : K = k.K) (F : FunD K x qual params body scope dvs kws f fd) {c : Cfg} {N ps : List Str} {j fuel : Nat} (hN : c.N = N) (hc : cfgB N ps scope = true) (hsc : c.sc = scope.names) (hl : c.lvl = j + 1) (G : GenOk k c.G P w K mg base) :
    FnOk P w K mg base (L2.CX P w) c.lvl f fd ps (spOf k c.fresh (runFn ps.length c.N.length (dSs c fuel body))) := by
  subst hN
  obtain ⟨S, hnm⟩ := fnScope_of hc
  have hpl : ps.length ≤ c.N.length := by have := congrArg List.length S.pre; rw [List.length_take] at this; omega
  rw [hl]
  have len : ∀ vs H Q E, spOf k c.fresh (runFn ps.length c.N.length (dSs c fuel body)) vs H Q E → vs.length = ps.length := by
    rintro vs H Q E ⟨g, st, ts, S0, r, q⟩
    rw [← r.length]
    unfold runFn at q
    split at q
    · assumption
    · exact q.elim
  refine F.ok S len fun cdv A outer s H vs Q E hr hsp => ?_
  obtain ⟨g, st, ts, S0, r, q⟩ := hsp
  have hlen : ts.length = ps.length := by
    unfold runFn at q
    split at q
    · assumption
    · exact q.elim
  have C : COk k c (cxOf (L2.CX P w) P w K mg base c.N qual scope f cdv A outer s H E) (fun cls d _ H' => E cls d H') :=
    ⟨hK, rfl, S.nd, hnm, S.kind, hsc.symm, rfl, takes_of rfl rfl rfl rfl, passes_of rfl, fun i hi => hr.mono (by omega), by have := hr.un; show (A.deeper (envOfC qual scope s.heap.objs.size f cdv)).units + 64 < cLine; omega, fun x h1 h2 => rfl, G⟩
  refine ⟨_, (sndS fuel).SS C H body, g, startE c.N.length ts, st, ⟨S0.start r (by omega), fun _ h => h, ?_⟩, ?_⟩
  · intro i t a e1 e2
    unfold startE at e1
    by_cases hi : i < (ts.map Slot.fr).length
    · rw [List.getElem?_append_left hi, List.getElem?_map] at e1
      cases h : ts[i]? with
      | none => rw [h] at e1; cases e1
      | some t => rw [h] at e1; cases e1
    · rw [List.getElem?_append_right (by omega), List.getElem?_replicate] at e1
      split at e1 <;> cases e1
  · unfold runFn at q
    rw [if_pos hlen] at q
    exact fn_after q
end
end Mp


set_option Elab.async false
set_option linter.all false
set_option maxRecDepth 100000
set_option maxHeartbeats 2000000
/-! End: tables of defs, the law's end. -/
namespace Mp
open PySem PySem.Spec PyProof.Rows L2
section
variable {P : Program} {w : World} {K : PySem.W.Frag} {mg : Str → Option Value} {base : Heap} {k : Gk}
theorem FnOk.cx {CX CX' : CXT} {j : Nat} {f : Addr} {fd : FuncData} {ps : List Str} {sp : Sp} (F : FnOk P w K mg base CX j f fd ps sp) (h : ∀ outer H s E u s', CX outer H s E u s' → CX' outer H s E u s') : FnOk P w K mg base CX' j f fd ps sp :=
  ⟨F.len, fun A outer s H args us vs Q E hr he hb hv hs => codeAny_mono (F.run A outer s H args us vs Q E hr he hb hv hs) fun r s' q => by
    cases r with
    | error e => exact h _ _ _ _ _ _ q
    | ok fl => cases fl with
      | ret u => exact q
      | _ => exact q⟩
def CXE (P : Program) : CXT := fun outer H s E u s' => ∃ w, L2.CX P w outer H s E u s'
theorem cxe_none {P : Program} (H : Hp) (s : Shared) (e : Value) (s' : Shared) (h : CXE P [] H s (fun _ _ _ => False) e s') : False := by
  obtain ⟨w, _, _, _, _, _, _, _, _, _, _, _, _, z⟩ := h
  exact z
theorem fn_bad {CX : CXT} {j : Nat} {f : Addr} {fd : FuncData} {ps : List Str} {fr : Bool} : FnOk P w K mg base CX j f fd ps (spOf k fr fun _ _ => .bad) :=
  ⟨fun vs H Q E h => by obtain ⟨g, st, ts, _, _, q⟩ := h; exact q.elim, fun A outer s H args us vs Q E _ _ _ _ h => by obtain ⟨g, st, ts, _, _, q⟩ := h; exact q.elim⟩
theorem GenOk.cons {G : Genv} (g : GenOk k G P w K mg base) {x : Str} {e : FnE} {f : Addr} {fd : FuncData} (hm : mg x = some (.ref f)) (hk : PySem.W.keepIn K (.ref f) = true) (hb : Binds K fd e.ps []) (F : FnOk P w K mg base (L2.CX P w) e.lvl f fd e.ps (spOf k e.fresh e.fn)) :
    GenOk k ⟨G.consts, (x, e) :: G.fns⟩ P w K mg base := by
  refine ⟨g.consts, fun y e' h => ?_, fun y h1 h2 => g.blt y ?_ h2⟩
  · have h : List.lookup y ((x, e) :: G.fns) = some e' := h
    rw [List.lookup_cons] at h
    cases hy : y == x with
    | true =>
      rw [hy] at h
      cases h
      have : y = x := by simpa using hy
      subst this
      exact ⟨f, fd, hm, hk, hb, F⟩
    | false =>
      rw [hy] at h
      exact g.fns y e' h
  · unfold Genv.known at h1 ⊢
    simp only [Bool.or_eq_false_iff] at h1 ⊢
    refine ⟨h1.1, ?_⟩
    have h2 : (List.lookup y ((x, e) :: G.fns)).isSome = false := h1.2
    rw [List.lookup_cons] at h2
    cases hy : y == x with
    | true => rw [hy] at h2; cases h2
    | false => rw [hy] at h2; exact h2
theorem gen_base {cs : List (Str × T)} (hc : ∀ p ∈ cs, ∃ u v, mg p.1 = some u ∧ RelV v u ∧ ∀ g, Rep k g p.2 v) (hb : ∀ x ∈ bltNames, mg x = none) : GenOk k ⟨cs, []⟩ P w K mg base := by
  refine ⟨fun x t h => ?_, fun x e h => (by cases h), fun x h1 h2 => hb x (by simpa using h2)⟩
  have : ∀ (l : List (Str × T)), l.lookup x = some t → (x, t) ∈ l := by
    intro l
    induction l with
    | nil => intro h; cases h
    | cons p r ih =>
      obtain ⟨a, b⟩ := p
      intro h
      rw [List.lookup_cons] at h
      cases hy : x == a with
      | true =>
        rw [hy] at h
        cases h
        have : x = a := by simpa using hy
        subst this
        exact List.mem_cons_self
      | false =>
        rw [hy] at h
        exact List.mem_cons_of_mem _ (ih h)
  exact hc (x, t) (this cs h)
theorem rep_ints {g : Gh} : ∀ ns : List Int, RepL k g (ns.map T.int) (ns.map V.int)
  | [] => RepL.nil.mpr rfl
  | n :: ns => RepL.cons.mpr ⟨_, _, rfl, rep_int, rep_ints ns⟩
theorem law_sp {fn : FnD} {H : Hp} {a : Addr} {ns : List Int} (hK : K = k.K) (hS : SqL K H a (ns.map V.int)) (h : ∃ st', fn [.obj 0] [.scr (ns.map T.int)] = .ok (.bl true) st') : spOf k false fn [.ref a] H (fun v _ => v = .bl true) (fun _ _ _ => False) := by
  obtain ⟨st', h⟩ := h
  let g : Gh := ⟨fun b => if b = a then H b else none, fun _ => a, 1⟩
  have hsub : FSub g.F H := fun b o e => by
    have e : (if b = a then H b else none) = some o := e
    split at e
    · exact e
    · cases e
  have hF : SqL k.K g.F a (ns.map V.int) := by
    rw [← hK]
    have ha : g.F a = H a := if_pos rfl
    rcases hS with (h | ⟨o, h⟩) | h
    · exact .inl (.inl (ha.trans h))
    · exact .inl (.inr ⟨o, ha.trans h⟩)
    · exact .inr h
  have nohold : ∀ {q : Tk} {b : Addr}, Held g [] [.scr (ns.map T.int)] [] H q b → False := fun {q b} h => by
    cases q with
    | slot i => rcases h with ⟨t, z, _⟩ | ⟨_, _, _, z, _⟩ <;> cases z
    | cell n =>
      obtain ⟨c, h1, h2, _⟩ := h
      cases n with
      | zero => cases h1; exact h2
      | succ n => simp at h1
    | fld n j =>
      obtain ⟨c, ns', ds, h1, _⟩ := h
      cases n with
      | zero => cases h1
      | succ n => simp at h1
    | sfld i j => obtain ⟨_, _, _, _, z, _⟩ := h; cases z
  refine ⟨g, [.scr (ns.map T.int)], [.obj 0], ⟨hsub, rfl, rfl, fun i t e => (by cases e), fun i t e => (by cases e), fun i c ns ds e => (by cases e), fun n c e => ?_, fun q q' b h1 _ => (nohold h1).elim, fun q b h => (nohold h).elim⟩, ?_, ?_⟩
  · cases n with
    | zero => cases e; exact ⟨_, hF, rep_ints ns⟩
    | succ n => simp at e
  · refine RepL.cons.mpr ⟨_, [], rfl, ?_, RepL.nil.mpr rfl⟩
    unfold Rep
    exact ⟨rfl, Nat.zero_lt_one⟩
  · rw [h]
    intro v H' g' x S r
    rw [if_neg (by decide)] at r
    exact r.bl
end
end Mp


set_option Elab.async false
set_option linter.all false
/-! Pl: what a text of Den reaches, stated forwards. -/
namespace Mp
open PySem
def WE {α : Type} (f : Ev α) (env : En) (st : Store) (Q : α → Store → Prop) : Prop := ∃ a st', f env st = .ok a st' ∧ Q a st'
def WS (f : EvS) (env : En) (st : Store) (Q : Fl → En → Store → Prop) : Prop := ∃ fl env' st', f env st = .ok fl env' st' ∧ Q fl env' st'
def WN (fn : FnD) (ts : List T) (st : Store) (Q : T → Store → Prop) : Prop := ∃ t st', fn ts st = .ok t st' ∧ Q t st'
section
variable {α β : Type} {env : En} {st : Store}
theorem WE.imp {f : Ev α} {Q Q' : α → Store → Prop} (h : WE f env st Q) (i : ∀ a s, Q a s → Q' a s) : WE f env st Q' := let ⟨a, s, e, q⟩ := h; ⟨a, s, e, i a s q⟩
theorem WS.imp {f : EvS} {Q Q' : Fl → En → Store → Prop} (h : WS f env st Q) (i : ∀ a e s, Q a e s → Q' a e s) : WS f env st Q' := let ⟨a, e, s, h, q⟩ := h; ⟨a, e, s, h, i a e s q⟩
theorem WN.imp {fn : FnD} {ts : List T} {Q Q' : T → Store → Prop} (h : WN fn ts st Q) (i : ∀ a s, Q a s → Q' a s) : WN fn ts st Q' := let ⟨a, s, e, q⟩ := h; ⟨a, s, e, i a s q⟩
theorem we_bind {f : Ev α} {g : α → Ev β} {Q : β → Store → Prop} : WE (Ev.bind f g) env st Q ↔ WE f env st fun a s => WE (g a) env s Q := by
  unfold WE Ev.bind
  constructor
  · rintro ⟨b, s, h, q⟩
    cases e : f env st with
    | ok a s1 => rw [e] at h; exact ⟨a, s1, rfl, b, s, h, q⟩
    | err c vs s1 => rw [e] at h; cases h
    | bad => rw [e] at h; cases h
  · rintro ⟨a, s1, e, b, s, h, q⟩
    exact ⟨b, s, by rw [e]; exact h, q⟩
theorem we_pure {a : α} {Q : α → Store → Prop} : WE (Ev.pure a) env st Q ↔ Q a st := by
  unfold WE Ev.pure
  constructor
  · rintro ⟨b, s, h, q⟩; cases h; exact q
  · intro q; exact ⟨a, st, rfl, q⟩
theorem we_bad {Q : α → Store → Prop} : WE Ev.bad env st Q ↔ False := by
  unfold WE Ev.bad
  constructor
  · rintro ⟨b, s, h, q⟩; cases h
  · exact False.elim
theorem we_opt {o : Option α} {Q : α → Store → Prop} : WE (Ev.opt o) env st Q ↔ ∃ z, o = some z ∧ Q z st := by
  cases o with
  | none => unfold Ev.opt; rw [we_bad]; simp
  | some z => unfold Ev.opt; rw [we_pure]; simp
theorem we_optS {f : Store → Option α} {Q : α → Store → Prop} : WE (Ev.optS f) env st Q ↔ ∃ z, f st = some z ∧ Q z st := by
  have : WE (Ev.optS f) env st Q ↔ WE (Ev.opt (f st)) env st Q := Iff.rfl
  rw [this, we_opt]
theorem we_con {t : T} {Q : T → Store → Prop} : WE (con t) env st Q ↔ Q t st := we_pure
theorem ex2 {α : Type} {x : α} {st : Store} {Q : α → Store → Prop} : (∃ a st', (x = a ∧ st = st') ∧ Q a st') ↔ Q x st :=
  ⟨fun ⟨a, s, ⟨h1, h2⟩, q⟩ => by subst h1 h2; exact q, fun q => ⟨x, st, ⟨rfl, rfl⟩, q⟩⟩
theorem we_var {i : Nat} {Q : T → Store → Prop} : WE (var i) env st Q ↔ ∃ t, env[i]? = some (.fr t) ∧ Q t st := by
  unfold WE var
  cases h : env[i]? with
  | none => simp
  | some s => cases s <;> simp [ex2]
theorem we_peek {i : Nat} {Q : T → Store → Prop} : WE (peek i) env st Q ↔ ∃ t, (env[i]? = some (.fr t) ∨ env[i]? = some (.own t)) ∧ Q t st := by
  unfold WE peek
  cases h : env[i]? with
  | none => simp
  | some s => cases s <;> simp [ex2]
theorem we_ownV {i : Nat} {Q : T → Store → Prop} : WE (ownV i) env st Q ↔ ∃ t, env[i]? = some (.own t) ∧ Q t st := by
  unfold WE ownV
  cases h : env[i]? with
  | none => simp
  | some s => cases s <;> simp [ex2]
theorem we_ev1 {op : T → Option T} {f : EvT} {Q : T → Store → Prop} : WE (ev1 op f) env st Q ↔ WE f env st fun x s => ∃ z, op x = some z ∧ Q z s := by
  unfold ev1; rw [we_bind]; simp only [we_opt]
theorem we_ev1S {op : Store → T → Option T} {f : EvT} {Q : T → Store → Prop} : WE (ev1S op f) env st Q ↔ WE f env st fun x s => ∃ z, op s x = some z ∧ Q z s := by
  unfold ev1S; rw [we_bind]; simp only [we_optS]
theorem we_ev2 {op : T → T → Option T} {f g : EvT} {Q : T → Store → Prop} : WE (ev2 op f g) env st Q ↔ WE f env st fun x s => WE g env s fun y s => ∃ z, op x y = some z ∧ Q z s := by
  unfold ev2; simp only [we_bind, we_opt]
theorem we_ev2S {op : Store → T → T → Option T} {f g : EvT} {Q : T → Store → Prop} : WE (ev2S op f g) env st Q ↔ WE f env st fun x s => WE g env s fun y s => ∃ z, op s x y = some z ∧ Q z s := by
  unfold ev2S; simp only [we_bind, we_optS]
theorem we_ev3S {op : Store → T → T → T → Option T} {f g h : EvT} {Q : T → Store → Prop} : WE (ev3S op f g h) env st Q ↔ WE f env st fun x s => WE g env s fun y s => WE h env s fun w s => ∃ z, op s x y w = some z ∧ Q z s := by
  unfold ev3S; simp only [we_bind, we_optS]
theorem we_nil {Q : List T → Store → Prop} : WE (evL []) env st Q ↔ Q [] st := we_pure
theorem we_cons {f : EvT} {fs : List EvT} {Q : List T → Store → Prop} : WE (evL (f :: fs)) env st Q ↔ WE f env st fun x s => WE (evL fs) env s fun xs s => Q (x :: xs) s := by
  show WE (f.bind fun x => (evL fs).bind fun xs => Ev.pure (x :: xs)) env st Q ↔ _
  simp only [we_bind, we_pure]
theorem we_evN {mk : List T → Option T} {fs : List EvT} {Q : T → Store → Prop} : WE (evN mk fs) env st Q ↔ WE (evL fs) env st fun xs s => ∃ z, mk xs = some z ∧ Q z s := by
  unfold evN; simp only [we_bind, we_opt]
theorem we_asB {x : T} {Q : Bool → Store → Prop} : WE (asB x) env st Q ↔ ∃ b, x = .bl b ∧ Q b st := by
  cases x <;> simp [asB, we_bad, we_pure]
theorem we_testV {f : EvT} {Q : Bool → Store → Prop} : WE (testV f) env st Q ↔ WE f env st fun x s => ∃ b, x = .bl b ∧ Q b s := by
  unfold testV; simp only [we_bind, we_asB]
theorem we_pickT {f g : Ev α} {Q : α → Store → Prop} : WE (pick f g true) env st Q ↔ WE f env st Q := Iff.rfl
theorem we_pickF {f g : Ev α} {Q : α → Store → Prop} : WE (pick f g false) env st Q ↔ WE g env st Q := Iff.rfl
theorem we_pick {f g : Ev α} {b : Bool} {Q : α → Store → Prop} : WE (pick f g b) env st Q ↔ (b = true → WE f env st Q) ∧ (b = false → WE g env st Q) := by
  cases b <;> simp [we_pickT, we_pickF]
theorem we_andB {f g : EvB} {Q : Bool → Store → Prop} : WE (andB f g) env st Q ↔ WE f env st fun b s => (b = true → WE g env s Q) ∧ (b = false → Q false s) := by
  unfold andB; simp only [we_bind, we_pick, we_pure]
theorem we_orB {f g : EvB} {Q : Bool → Store → Prop} : WE (orB f g) env st Q ↔ WE f env st fun b s => (b = true → Q true s) ∧ (b = false → WE g env s Q) := by
  unfold orB; simp only [we_bind, we_pick, we_pure]
theorem we_notT {f : EvB} {Q : Bool → Store → Prop} : WE (Mp.notT f) env st Q ↔ WE f env st fun b s => Q (!b) s := by
  unfold Mp.notT; simp only [we_bind, we_pure]
theorem we_andV {f g : EvT} {Q : T → Store → Prop} : WE (andV f g) env st Q ↔ WE f env st fun x s => ∃ b, x = .bl b ∧ (b = true → WE g env s Q) ∧ (b = false → Q (.bl false) s) := by
  unfold andV; simp only [we_bind, we_testV, we_pick, we_pure]
theorem we_orV {f g : EvT} {Q : T → Store → Prop} : WE (orV f g) env st Q ↔ WE f env st fun x s => ∃ b, x = .bl b ∧ (b = true → Q (.bl true) s) ∧ (b = false → WE g env s Q) := by
  unfold orV; simp only [we_bind, we_testV, we_pick, we_pure]
theorem we_notV {f : EvT} {Q : T → Store → Prop} : WE (notV f) env st Q ↔ WE f env st fun x s => ∃ b, x = .bl b ∧ Q (.bl (!b)) s := by
  unfold notV; simp only [we_bind, we_testV, we_pure]
theorem we_ite {c : EvB} {f g : EvT} {Q : T → Store → Prop} : WE (iteE c f g) env st Q ↔ WE c env st fun b s => (b = true → WE f env s Q) ∧ (b = false → WE g env s Q) := by
  unfold iteE; simp only [we_bind, we_pick]
theorem we_chain {op op' : T → T → Option T} {f g h : EvT} {Q : T → Store → Prop} : WE (chain op op' f g h) env st Q ↔ WE f env st fun x s => WE g env s fun y s => ∃ z, op x y = some z ∧ ∃ b, z = .bl b ∧ (b = true → WE h env s fun w s => ∃ z, op' y w = some z ∧ Q z s) ∧ (b = false → Q (.bl false) s) := by
  unfold chain; simp only [we_bind, we_opt, we_asB, we_pick, we_pure]
theorem we_callP {fn : FnD} {fs : List EvT} {Q : T → Store → Prop} : WE (callP fn fs) env st Q ↔ WE (evL fs) env st fun ts s => WN fn ts s Q := by
  unfold callP; rw [we_bind]; rfl
theorem we_part {x : T} {Q : T → Store → Prop} : WE (asPart x) env st Q ↔ ∃ i, x = .int i ∧ Q x st := by
  cases x <;> simp [asPart, we_bad, we_pure]
theorem we_itSeq {f : EvT} {Q : List T → Store → Prop} : WE (itSeq f) env st Q ↔ WE f env st fun x s => ∃ xs, (x = .lst xs ∨ x = .tup xs) ∧ Q xs s := by
  unfold itSeq; rw [we_bind]
  constructor <;> refine fun h => h.imp fun x s h => ?_
  · cases x <;> simp [asSeq, we_bad, we_pure] at h ⊢ <;> assumption
  · cases x <;> simp [asSeq, we_bad, we_pure] at h ⊢ <;> assumption
theorem we_itRng1 {f : EvT} {Q : List T → Store → Prop} : WE (itRng1 f) env st Q ↔ WE f env st fun x s => ∃ j : Int, x = .int j ∧ (j < 2 ^ 60 ∧ -(2 ^ 60) < j) ∧ Q (rangeL 0 j.toNat) s := by
  unfold itRng1; rw [we_bind]
  constructor <;> refine fun h => h.imp fun x s h => ?_
  · cases x with
    | int j =>
      have h : WE (if j < 2 ^ 60 ∧ -(2 ^ 60) < j then Ev.pure (rangeL 0 j.toNat) else Ev.bad) env s Q := h
      split at h
      · rw [we_pure] at h; exact ⟨j, rfl, by assumption, h⟩
      · rw [we_bad] at h; exact h.elim
    | _ => simp [asRng, we_bad] at h
  · obtain ⟨j, rfl, hj, q⟩ := h
    show WE (if j < 2 ^ 60 ∧ -(2 ^ 60) < j then Ev.pure (rangeL 0 j.toNat) else Ev.bad) env s Q
    rw [if_pos hj, we_pure]; exact q
theorem we_itRng2 {f g : EvT} {Q : List T → Store → Prop} : WE (itRng2 f g) env st Q ↔ WE f env st fun x s => WE g env s fun y s => ∃ i j : Int, x = .int i ∧ y = .int j ∧ ((j < 2 ^ 60 ∧ -(2 ^ 60) < j) ∧ i < 2 ^ 60 ∧ -(2 ^ 60) < i) ∧ Q (rangeL i (j - i).toNat) s := by
  unfold itRng2; simp only [we_bind]
  constructor <;> refine fun h => h.imp fun x s h => h.imp fun y s h => ?_
  · cases x with
    | int i => cases y with
      | int j =>
        have h : WE (if (j < 2 ^ 60 ∧ -(2 ^ 60) < j) ∧ i < 2 ^ 60 ∧ -(2 ^ 60) < i then Ev.pure (rangeL i (j - i).toNat) else Ev.bad) env s Q := h
        split at h
        · rw [we_pure] at h; exact ⟨i, j, rfl, rfl, by assumption, h⟩
        · rw [we_bad] at h; exact h.elim
      | _ => simp [asRng2, we_bad] at h
    | _ => simp [asRng2, we_bad] at h
  · obtain ⟨i, j, rfl, rfl, hj, q⟩ := h
    show WE (if (j < 2 ^ 60 ∧ -(2 ^ 60) < j) ∧ i < 2 ^ 60 ∧ -(2 ^ 60) < i then Ev.pure (rangeL i (j - i).toNat) else Ev.bad) env s Q
    rw [if_pos hj, we_pure]; exact q
/-- a comprehension's items -/
def WC (g : Tg) (c : EvB) (e : EvT) (env : En) (xs : List T) (st : Store) (Q : List T → Store → Prop) : Prop := ∃ ys st', compL g c e env xs st = .ok ys st' ∧ Q ys st'
theorem wc_nil {g : Tg} {c : EvB} {e : EvT} {Q : List T → Store → Prop} : WC g c e env [] st Q ↔ Q [] st := by
  unfold WC compL
  constructor
  · rintro ⟨b, s, h, q⟩; cases h; exact q
  · intro q; exact ⟨_, st, rfl, q⟩
theorem wc_cons {g : Tg} {c : EvB} {e : EvT} {x : T} {xs : List T} {Q : List T → Store → Prop} : WC g c e env (x :: xs) st Q ↔ ∃ env', Tg.put g x env = some env' ∧ WE c env' st fun b s => (b = true → WE e env' s fun y s => WC g c e env xs s fun ys s => Q (y :: ys) s) ∧ (b = false → WC g c e env xs s Q) := by
  unfold WC
  constructor
  · rintro ⟨ys, s, h, q⟩
    unfold compL at h
    cases hp : Tg.put g x env with
    | none => rw [hp] at h; cases h
    | some env' =>
      rw [hp] at h
      simp only at h
      refine ⟨env', rfl, ?_⟩
      cases hc : c env' st with
      | bad => rw [hc] at h; cases h
      | err _ _ _ => rw [hc] at h; cases h
      | ok b s1 =>
        rw [hc] at h
        refine ⟨b, s1, hc, fun hb => ?_, fun hb => ?_⟩
        · subst hb
          simp only at h
          cases he : e env' s1 with
          | bad => rw [he] at h; cases h
          | err _ _ _ => rw [he] at h; cases h
          | ok y s2 =>
            rw [he] at h
            simp only at h
            cases hr : compL g c e env xs s2 with
            | bad => rw [hr] at h; cases h
            | err _ _ _ => rw [hr] at h; cases h
            | ok zs s3 =>
              rw [hr] at h
              cases h
              exact ⟨y, s2, he, zs, s, hr, q⟩
        · subst hb
          exact ⟨ys, s, h, q⟩
  · rintro ⟨env', hp, b, s1, hc, h1, h2⟩
    cases b with
    | true =>
      obtain ⟨y, s2, he, zs, s3, hr, q⟩ := h1 rfl
      refine ⟨y :: zs, s3, ?_, q⟩
      unfold compL
      simp only [hp, hc, he, hr]
    | false =>
      obtain ⟨zs, s3, hr, q⟩ := h2 rfl
      refine ⟨zs, s3, ?_, q⟩
      unfold compL
      simp only [hp, hc, hr]
theorem we_comp1 {vs : List Nat} {it : EvI} {g : Tg} {c : EvB} {e : EvT} {Q : T → Store → Prop} : WE (comp1 vs it g c e) env st Q ↔ WE it env st fun xs s => xs.length ≤ 100000 ∧ WC g c e (wipeE vs env) xs s fun ys s => Q (.lst ys) s := by
  unfold comp1; rw [we_bind]
  constructor <;> refine fun h => h.imp fun xs s h => ?_
  · obtain ⟨a, s', h, q⟩ := h
    simp only at h
    split at h
    · rename_i hz
      refine ⟨hz, ?_⟩
      split at h
      · rename_i ys s2 e; cases h; exact ⟨ys, s', e, q⟩
      · cases h
    · cases h
  · obtain ⟨hz, ys, s', e, q⟩ := h
    refine ⟨.lst ys, s', ?_, q⟩
    simp only [if_pos hz, e]
/-- an invariant by what is left; the items made are tied to what was walked -/
theorem wc_inv {g : Tg} {c : EvB} {e : EvT} {env : En} (I : List T → List T → Store → Prop) : ∀ (xs done made : List T) (st : Store), I done made st →
    (∀ (x : T) (done made : List T) (st : Store), x ∈ xs → I done made st → ∃ env', Tg.put g x env = some env' ∧ WE c env' st fun b s => (b = true → WE e env' s fun y s => I (done ++ [x]) (made ++ [y]) s) ∧ (b = false → I (done ++ [x]) made s)) →
    WC g c e env xs st fun ys s => I (done ++ xs) (made ++ ys) s
  | [], done, made, st, h, _ => by rw [wc_nil]; simpa using h
  | x :: xs, done, made, st, h, step => by
    rw [wc_cons]
    obtain ⟨env', hp, h1⟩ := step x done made st List.mem_cons_self h
    refine ⟨env', hp, h1.imp fun b s h2 => ⟨fun hb => (h2.1 hb).imp fun y s h3 => ?_, fun hb => ?_⟩⟩
    · have := wc_inv I xs (done ++ [x]) (made ++ [y]) s h3 fun x' d m st' hx => step x' d m st' (List.mem_cons_of_mem _ hx)
      obtain ⟨ys, s', e, q⟩ := this
      exact ⟨ys, s', e, by simpa using q⟩
    · have := wc_inv I xs (done ++ [x]) made s (h2.2 hb) fun x' d m st' hx => step x' d m st' (List.mem_cons_of_mem _ hx)
      obtain ⟨ys, s', e, q⟩ := this
      exact ⟨ys, s', e, by simpa using q⟩

/-! ### statements -/
variable {Q : Fl → En → Store → Prop}
theorem ws_nx : WS sNx env st Q ↔ Q .nx env st := by
  unfold WS sNx
  constructor
  · rintro ⟨_, _, _, h, q⟩; cases h; exact q
  · intro q; exact ⟨_, _, _, rfl, q⟩
theorem ws_fl {f : Fl} : WS (sFl f) env st Q ↔ Q f env st := by
  unfold WS sFl
  constructor
  · rintro ⟨_, _, _, h, q⟩; cases h; exact q
  · intro q; exact ⟨_, _, _, rfl, q⟩
theorem ws_bind {f : Ev α} {k : α → EvS} : WS (sBind f k) env st Q ↔ WE f env st fun a s => WS (k a) env s Q := by
  unfold WS WE sBind
  constructor
  · rintro ⟨fl, e, s, h, q⟩
    cases hf : f env st with
    | ok a s1 => rw [hf] at h; exact ⟨a, s1, rfl, fl, e, s, h, q⟩
    | err _ _ _ => rw [hf] at h; cases h
    | bad => rw [hf] at h; cases h
  · rintro ⟨a, s1, hf, fl, e, s, h, q⟩
    exact ⟨fl, e, s, by rw [hf]; exact h, q⟩
def isNx : Fl → Bool
  | .nx => true
  | _ => false
theorem ws_seq {f g : EvS} : WS (sSeq f g) env st Q ↔ WS f env st fun fl e s => (fl = .nx → WS g e s Q) ∧ (fl ≠ .nx → Q fl e s) := by
  unfold WS sSeq
  constructor
  · rintro ⟨fl, e, s, h, q⟩
    cases hf : f env st with
    | bad => rw [hf] at h; cases h
    | err _ _ _ _ => rw [hf] at h; cases h
    | ok fl1 e1 s1 =>
      rw [hf] at h
      refine ⟨fl1, e1, s1, rfl, ?_⟩
      cases fl1 with
      | nx => exact ⟨fun _ => ⟨fl, e, s, h, q⟩, fun z => absurd rfl z⟩
      | ret t => cases h; exact ⟨fun z => (by cases z), fun _ => q⟩
      | brk => cases h; exact ⟨fun z => (by cases z), fun _ => q⟩
      | ct => cases h; exact ⟨fun z => (by cases z), fun _ => q⟩
  · rintro ⟨fl1, e1, s1, hf, h1, h2⟩
    cases fl1 with
    | nx =>
      obtain ⟨fl, e, s, h, q⟩ := h1 rfl
      exact ⟨fl, e, s, by rw [hf]; exact h, q⟩
    | ret t => exact ⟨_, _, _, by rw [hf], h2 fun z => by cases z⟩
    | brk => exact ⟨_, _, _, by rw [hf], h2 fun z => by cases z⟩
    | ct => exact ⟨_, _, _, by rw [hf], h2 fun z => by cases z⟩
theorem ws_pick {f g : EvS} {b : Bool} : WS (sPick f g b) env st Q ↔ (b = true → WS f env st Q) ∧ (b = false → WS g env st Q) := by
  cases b
  · exact ⟨fun h => ⟨fun z => (by cases z), fun _ => h⟩, fun h => h.2 rfl⟩
  · exact ⟨fun h => ⟨fun _ => h, fun z => (by cases z)⟩, fun h => h.1 rfl⟩
theorem ws_if {c : EvB} {f g : EvS} : WS (sIf c f g) env st Q ↔ WE c env st fun b s => (b = true → WS f env s Q) ∧ (b = false → WS g env s Q) := by
  unfold sIf; simp only [ws_bind, ws_pick]
theorem ws_ret {f : EvT} : WS (sRet f) env st Q ↔ WE f env st fun t s => Q (.ret t) env s := by
  unfold sRet; simp only [ws_bind, ws_fl]
theorem ws_env {f : En → Option En} : WS (sEnv f) env st Q ↔ ∃ e, f env = some e ∧ Q .nx e st := by
  unfold WS sEnv
  constructor
  · rintro ⟨fl, e, s, h, q⟩
    cases hf : f env with
    | none => rw [hf] at h; cases h
    | some e1 => rw [hf] at h; cases h; exact ⟨e, rfl, q⟩
  · rintro ⟨e, hf, q⟩
    exact ⟨_, e, st, by rw [hf], q⟩
theorem ws_asg {g : Tg} {f : EvT} : WS (sAsg g f) env st Q ↔ WE f env st fun t s => ∃ e, Tg.put g t env = some e ∧ Q .nx e s := by
  unfold sAsg; simp only [ws_bind, ws_env]
theorem ws_asgN {i : Nat} {f : EvT} : WS (sAsg (.name i) f) env st Q ↔ WE f env st fun t s => Q .nx (env.set i (.fr t)) s := by
  rw [ws_asg]; simp [Tg.put]
theorem ws_own {i : Nat} {f : EvT} : WS (sOwn i f) env st Q ↔ WE f env st fun t s => ∃ e, ownTo i t env = some e ∧ Q .nx e s := by
  unfold sOwn; simp only [ws_bind, ws_env]
theorem ws_cell {i : Nat} {t : T} : WS (toCell i t) env st Q ↔ ∃ xs, t = .lst xs ∧ Q .nx (env.set i (.fr (.obj st.length))) (st ++ [.lst xs]) := by
  unfold WS toCell
  constructor
  · rintro ⟨fl, e, s, h, q⟩
    cases t <;> first | (cases h; done) | (cases h; exact ⟨_, rfl, q⟩)
  · rintro ⟨xs, rfl, q⟩
    exact ⟨_, _, _, rfl, q⟩
theorem ws_shr {i : Nat} {f : EvT} : WS (sShr i f) env st Q ↔ WE f env st fun t s => ∃ xs, t = .lst xs ∧ Q .nx (env.set i (.fr (.obj s.length))) (s ++ [.lst xs]) := by
  unfold sShr; simp only [ws_bind, ws_cell]
theorem ws_par {is : List Nat} {fs : List EvT} : WS (sPar is fs) env st Q ↔ WE (evL fs) env st fun ts s => ∃ e, putN is ts env = some e ∧ Q .nx e s := by
  unfold sPar; simp only [ws_bind, ws_env]
theorem ws_sto {f : Store → Option Store} : WS (sSto f) env st Q ↔ ∃ s, f st = some s ∧ Q .nx env s := by
  unfold WS sSto
  constructor
  · rintro ⟨fl, e, s, h, q⟩
    cases hf : f st with
    | none => rw [hf] at h; cases h
    | some s1 => rw [hf] at h; cases h; exact ⟨s, rfl, q⟩
  · rintro ⟨s, hf, q⟩
    exact ⟨_, env, s, by rw [hf], q⟩
theorem ws_ix {e o i : EvT} : WS (sIx e o i) env st Q ↔ WE e env st fun v s => WE o env s fun x s => WE i env s fun k s => ∃ s', setIx s v x k = some s' ∧ Q .nx env s' := by
  unfold sIx; simp only [ws_bind, ws_sto]
theorem ws_upd {i : Nat} {f : Ev (List T)} {op : T → List T → Option T} : WS (sUpd i f op) env st Q ↔ isOwn env[i]? = true ∧ WE f env st fun ts s => ∃ e, updOwn i op ts env = some e ∧ Q .nx e s := by
  cases h : isOwn env[i]? with
  | false =>
    constructor
    · rintro ⟨_, _, _, e, _⟩; simp only [sUpd, h] at e; cases e
    · rintro ⟨z, _⟩; cases z
  | true =>
    have : WS (sUpd i f op) env st Q ↔ WS (sBind f (fun ts => sEnv (updOwn i op ts))) env st Q := by
      unfold WS; simp only [sUpd, h]
    rw [this]
    simp only [ws_bind, ws_env, true_and]
theorem ws_frz {is : List Nat} {f : EvS} : WS (frz is f) env st Q ↔ WS f (frzE is env) st Q := Iff.rfl
theorem ws_aug {i : Nat} {op : T → T → Option T} {f : EvT} : WS (sAug i op f) env st Q ↔ ∃ x, env[i]? = some (.fr x) ∧ WE f env st fun y s => ∃ z, op x y = some z ∧ Q .nx (env.set i (.fr z)) s := by
  cases h : env[i]? with
  | none => simp [WS, sAug, h]
  | some sl =>
    cases sl with
    | fr x =>
      have : WS (sAug i op f) env st Q ↔ WS (sBind f (fun y => sEnv fun env => (op x y).map fun z => env.set i (.fr z))) env st Q := by
        unfold WS; simp only [sAug, h]
      rw [this]
      simp [ws_bind, ws_env]
      constructor <;> refine fun h => h.imp fun a s h => ?_
      · obtain ⟨e, ⟨z, hz, rfl⟩, q⟩ := h; exact ⟨z, hz, q⟩
      · obtain ⟨z, hz, q⟩ := h; exact ⟨_, ⟨z, hz, rfl⟩, q⟩
    | _ => simp [WS, sAug, h]
theorem ws_for {it : EvI} {g : Tg} {body : EvS} : WS (sFor it g body) env st Q ↔ WE it env st fun xs s => WS (forL g body xs) env s Q := ws_bind
theorem ws_forNil {g : Tg} {body : EvS} : WS (forL g body []) env st Q ↔ Q .nx env st := by
  unfold WS forL
  constructor
  · rintro ⟨_, _, _, h, q⟩; cases h; exact q
  · intro q; exact ⟨_, _, _, rfl, q⟩
theorem ws_forCons {g : Tg} {body : EvS} {x : T} {xs : List T} (h : ∃ e, Tg.put g x env = some e ∧ WS body e st fun fl e s => match fl with
    | .nx => WS (forL g body xs) e s Q
    | .ct => WS (forL g body xs) e s Q
    | .brk => Q .nx e s
    | .ret t => Q (.ret t) e s) : WS (forL g body (x :: xs)) env st Q := by
  obtain ⟨e, hp, fl, e1, s1, hb, h⟩ := h
  unfold WS forL
  rw [hp]
  simp only
  rw [hb]
  cases fl with
  | nx => exact h
  | ct => exact h
  | brk => exact ⟨_, _, _, rfl, h⟩
  | ret t => exact ⟨_, _, _, rfl, h⟩
/-- a loop that goes to its end -/
theorem ws_forInv {g : Tg} {body : EvS} (I : List T → En → Store → Prop) : ∀ (xs done : List T) (env : En) (st : Store), I done env st →
    (∀ (x : T) (done : List T) (env : En) (st : Store), x ∈ xs → I done env st → ∃ e, Tg.put g x env = some e ∧ WS body e st fun fl e s => fl = .nx ∧ I (done ++ [x]) e s) →
    WS (forL g body xs) env st fun fl e s => fl = .nx ∧ I (done ++ xs) e s
  | [], done, env, st, h, _ => by rw [ws_forNil]; simpa using h
  | x :: xs, done, env, st, h, step => by
    obtain ⟨e, hp, hb⟩ := step x done env st List.mem_cons_self h
    refine ws_forCons ⟨e, hp, hb.imp ?_⟩
    rintro fl e s ⟨rfl, h2⟩
    have := ws_forInv I xs (done ++ [x]) e s h2 fun x' d en st' hx => step x' d en st' (List.mem_cons_of_mem _ hx)
    exact this.imp fun fl e s q => by simpa using q
/-- a while by a measure -/
theorem ws_whileInv {c : EvB} {body : EvS} (I : Nat → En → Store → Prop) (R : En → Store → Prop) (step : ∀ m env st, I m env st → WE c env st fun b s => (b = true → WS body env s fun fl e s => fl = .nx ∧ ∃ m', m' < m ∧ I m' e s) ∧ (b = false → R env s)) :
    ∀ (n m : Nat) (env : En) (st : Store), I m env st → m < n → WS (whileL c body n) env st fun fl e s => fl = .nx ∧ R e s
  | 0, m, _, _, _, hm => by omega
  | n + 1, m, env, st, h, hm => by
    obtain ⟨b, s, hc, h1, h2⟩ := step m env st h
    cases b with
    | false => exact ⟨.nx, env, s, by unfold whileL; rw [hc], rfl, h2 rfl⟩
    | true =>
      obtain ⟨fl, e, s1, hb, rfl, m', hm', h3⟩ := h1 rfl
      obtain ⟨fl2, e2, s2, h4, q⟩ := ws_whileInv I R step n m' e s1 h3 (by omega)
      exact ⟨fl2, e2, s2, by unfold whileL; rw [hc]; simp only; rw [hb]; exact h4, q⟩
def endQ (Q : T → Store → Prop) : Fl → En → Store → Prop
  | .nx, _, s => Q .non s
  | .ret t, _, s => Q t s
  | _, _, _ => False
theorem wn_run {p n : Nat} {body : EvS} {ts : List T} {Q : T → Store → Prop} : WN (runFn p n body) ts st Q ↔ ts.length = p ∧ WS body (startE n ts) st (endQ Q) := by
  unfold WN runFn
  constructor
  · rintro ⟨t, s, h, q⟩
    split at h
    · rename_i hp
      refine ⟨hp, ?_⟩
      unfold WS
      cases hb : body (startE n ts) st with
      | bad => rw [hb] at h; cases h
      | err _ _ _ _ => rw [hb] at h; cases h
      | ok fl e s1 =>
        rw [hb] at h
        cases fl with
        | nx => cases h; exact ⟨_, _, _, rfl, q⟩
        | ret t => cases h; exact ⟨_, _, _, rfl, q⟩
        | brk => cases h
        | ct => cases h
    · cases h
  · rintro ⟨hp, fl, e, s, hb, q⟩
    rw [if_pos hp, hb]
    cases fl with
    | nx => exact ⟨_, _, rfl, q⟩
    | ret t => exact ⟨_, _, rfl, q⟩
    | brk => exact q.elim
    | ct => exact q.elim
end
end Mp


set_option Elab.async false
set_option linter.all false
set_option maxRecDepth 100000
set_option maxHeartbeats 1000000
/-! Bag: the script's bag, a pull from it. -/
namespace Mp
open PySem
structure Bag where
  sc : List Int
  at_ : Int
  rest : Int
  seed : Int
def Bag.cell (b : Bag) : Cell := .lst [.lst (b.sc.map T.int), .int b.at_, .int b.rest, .int b.seed]
structure Bag.ok (b : Bag) : Prop where
  a0 : 0 ≤ b.at_
  l : b.sc.length ≤ 63
  s0 : 0 ≤ b.seed
  s1 : b.seed < 2147483629
/-- pulled so far so often -/
def S_pull : EvS := sSeq (sIf (testV (ev2 opGe (ev2S opIx (var 0) (con (.int 2))) (var 1))) (sSeq (sAsg (.name 2) (ev2 opMod (ev2S opIx (var 0) (con (.int 2))) (var 1))) (sSeq (sIx (ev2 opDiv (ev2S opIx (var 0) (con (.int 2))) (var 1)) (var 0) (con (.int 2))) (sRet (var 2)))) (sNx)) (sSeq (sAsg (.name 3) (con (.int 0))) (sSeq (sIf (testV (ev2 opLt (ev2S opIx (var 0) (con (.int 1))) (ev1S lenT (ev2S opIx (var 0) (con (.int 0)))))) (sAsg (.name 3) (ev2S opIx (ev2S opIx (var 0) (con (.int 0))) (ev2S opIx (var 0) (con (.int 1))))) (sNx)) (sSeq (sIx (ev2 opAdd (ev2S opIx (var 0) (con (.int 1))) (con (.int 1))) (var 0) (con (.int 1))) (sSeq (sIf (testV (ev2 opGe (var 3) (ev2 opPow (con (.int 10)) (con (.int 18))))) (sSeq (sIx (ev2 opDiv (var 3) (var 1)) (var 0) (con (.int 2))) (sRet (ev2 opMod (var 3) (var 1)))) (sNx)) (sSeq (sIx (ev2 opMod (ev2 opAdd (ev2 opAdd (ev2 opAdd (ev2 opPow (ev2S opIx (var 0) (con (.int 3))) (con (.int 5))) (ev2 opMul (con (.int 69069)) (ev2S opIx (var 0) (con (.int 1))))) (ev2 opMod (var 3) (con (.int 1000003)))) (con (.int 7))) (con (.int 2147483629))) (var 0) (con (.int 3))) (sRet (ev2 opMod (ev2 opAdd (ev2 opDiv (ev2S opIx (var 0) (con (.int 3))) (con (.int 9))) (var 3)) (var 1))))))))
theorem bag_ix0 {st : Store} {n : Nat} {b : Bag} (h : st[n]? = some b.cell) : opIx st (.obj n) (.int 0) = some (.lst (b.sc.map T.int)) := by simp [opIx, seqOf, h, Bag.cell, ixOf]
theorem bag_ix1 {st : Store} {n : Nat} {b : Bag} (h : st[n]? = some b.cell) : opIx st (.obj n) (.int 1) = some (.int b.at_) := by simp [opIx, seqOf, h, Bag.cell, ixOf]
theorem bag_ix2 {st : Store} {n : Nat} {b : Bag} (h : st[n]? = some b.cell) : opIx st (.obj n) (.int 2) = some (.int b.rest) := by simp [opIx, seqOf, h, Bag.cell, ixOf]
theorem bag_ix3 {st : Store} {n : Nat} {b : Bag} (h : st[n]? = some b.cell) : opIx st (.obj n) (.int 3) = some (.int b.seed) := by simp [opIx, seqOf, h, Bag.cell, ixOf]
theorem bag_set1 {st : Store} {n : Nat} {b : Bag} {v : Int} (h : st[n]? = some b.cell) : setIx st (.int v) (.obj n) (.int 1) = some (st.set n { b with at_ := v }.cell) := by simp [setIx, h, Bag.cell, ixOf]
theorem bag_set2 {st : Store} {n : Nat} {b : Bag} {v : Int} (h : st[n]? = some b.cell) : setIx st (.int v) (.obj n) (.int 2) = some (st.set n { b with rest := v }.cell) := by simp [setIx, h, Bag.cell, ixOf]
theorem bag_set3 {st : Store} {n : Nat} {b : Bag} {v : Int} (h : st[n]? = some b.cell) : setIx st (.int v) (.obj n) (.int 3) = some (st.set n { b with seed := v }.cell) := by simp [setIx, h, Bag.cell, ixOf]
theorem opDiv_ok {i j : Int} (h0 : 0 < j) (h1 : j < 2 ^ 2000) : opDiv (.int i) (.int j) = some (.int (i / j)) := if_pos ⟨h0, h1⟩
theorem opMod_ok {i j : Int} (h0 : 0 < j) : opMod (.int i) (.int j) = some (.int (i % j)) := if_pos h0
theorem bigI_of {i : Int} (h : i.natAbs < 2 ^ 100) : bigI i = true := decide_eq_true (Nat.lt_of_lt_of_le h (Nat.pow_le_pow_right (by decide) (by decide)))
theorem opMul_ok {i j : Int} (hi : i.natAbs < 2 ^ 100) (hj : j.natAbs < 2 ^ 100) : opMul (.int i) (.int j) = some (.int (i * j)) := by
  show (if (bigI i && bigI j) = true then some (T.int (i * j)) else none) = _
  rw [bigI_of hi, bigI_of hj]; rfl
theorem opPow_ok {i j : Int} (h0 : 0 ≤ j ∧ j ≤ 1000 ∧ i.natAbs < 2 ^ 64) : opPow (.int i) (.int j) = some (.int (i ^ j.toNat)) := if_pos h0
theorem lenL_ok {st : Store} {xs : List T} : lenT st (.lst xs) = some (.int xs.length) := rfl
theorem ixL_ok {st : Store} {xs : List T} {i : Int} {t : T} (h0 : 0 ≤ i) (h : xs[i.toNat]? = some t) : opIx st (.lst xs) (.int i) = some t := by
  have h1 : i.toNat < xs.length := (List.getElem?_eq_some_iff.mp h).1
  have : ixOf i xs.length = some i.toNat := by
    unfold ixOf
    rw [if_pos h0, if_pos (by omega)]
  show (match seqOf st (.lst xs) with | some xs => (match ixOf i xs.length with | some k => xs[k]? | none => none) | none => none) = _
  simp only [seqOf, this, h]
theorem ixT_ok {st : Store} {xs : List T} {i : Int} {t : T} (h0 : 0 ≤ i) (h : xs[i.toNat]? = some t) : opIx st (.tup xs) (.int i) = some t := by
  have h1 : i.toNat < xs.length := (List.getElem?_eq_some_iff.mp h).1
  have : ixOf i xs.length = some i.toNat := by
    unfold ixOf
    rw [if_pos h0, if_pos (by omega)]
  show (match seqOf st (.tup xs) with | some xs => (match ixOf i xs.length with | some k => xs[k]? | none => none) | none => none) = _
  simp only [seqOf, this, h]
/-- one step of a text, forwards -/
local macro_rules | `(tactic| fold_depth) => `(tactic| first
  | refine ws_seq.mpr ?_ | refine ws_if.mpr ?_ | refine ws_ret.mpr ?_ | refine ws_asgN.mpr ?_ | refine ws_ix.mpr ?_ | refine ws_nx.mpr ?_
  | refine we_ev2.mpr ?_ | refine we_ev2S.mpr ?_ | refine we_ev1S.mpr ?_ | refine we_ev1.mpr ?_ | refine we_con.mpr ?_ | refine we_testV.mpr ?_
  | refine we_var.mpr ⟨_, rfl, ?_⟩
  | refine ⟨fun (_ : Fl.nx = Fl.nx) => ?_, fun (z : Fl.nx ≠ Fl.nx) => absurd rfl z⟩ | refine ⟨fun (z : Fl.ret _ = Fl.nx) => Fl.noConfusion z, fun _ => ?_⟩ | refine fun (_ : Fl.ret _ ≠ Fl.nx) => ?_
  | refine ⟨_, bag_ix0 (by assumption), ?_⟩ | refine ⟨_, bag_ix1 (by assumption), ?_⟩ | refine ⟨_, bag_ix2 (by assumption), ?_⟩ | refine ⟨_, bag_ix3 (by assumption), ?_⟩
  | refine ⟨_, opMod_ok (by first | assumption | decide), ?_⟩ | refine ⟨_, opDiv_ok (by first | assumption | decide) (by first | assumption | decide), ?_⟩
  | refine ⟨_, rfl, ?_⟩)
theorem pull_spec {n : Nat} {st : Store} {b : Bag} {size : Int} (hb : st[n]? = some b.cell) (ok : b.ok) (h0 : 0 < size) (h1 : size < 2 ^ 2000) (ha : b.at_ < 2 ^ 60) :
    WN (runFn 2 4 S_pull) [.obj n, .int size] st fun t st' => ∃ (r : Int) (b' : Bag), t = .int r ∧ 0 ≤ r ∧ r < size ∧ st' = st.set n b'.cell ∧ b'.ok ∧ b'.at_ ≤ b.at_ + 1 := by
  rw [wn_run]
  refine ⟨rfl, ?_⟩
  have hn : n < st.length := (List.getElem?_eq_some_iff.mp hb).1
  have e0 : startE 4 [T.obj n, T.int size] = [.fr (.obj n), .fr (.int size), .no, .no] := rfl
  rw [e0]
  have ix : ∀ {st : Store} {c : Cell}, n < st.length → (st.set n c)[n]? = some c := fun h => List.getElem?_set_self h
  unfold S_pull
  repeat fold_depth
  refine ⟨fun hc => ?_, fun hc => ?_⟩
  · have hc : size ≤ b.rest := by simpa using hc
    repeat fold_depth
    refine ⟨_, bag_set2 hb, ?_⟩
    repeat fold_depth
    exact ⟨_, _, rfl, Int.emod_nonneg _ (by omega), Int.emod_lt_of_pos _ h0, rfl, ⟨ok.a0, ok.l, ok.s0, ok.s1⟩, by show b.at_ ≤ b.at_ + 1; omega⟩
  · fold_depth
    fold_depth
    fold_depth
    fold_depth
    fold_depth
    fold_depth
    fold_depth
    refine WS.imp (Q := fun fl e s => fl = .nx ∧ s = st ∧ ∃ c : Int, e = [.fr (.obj n), .fr (.int size), .no, .fr (.int c)]) ?_ ?_
    · repeat fold_depth
      refine ⟨fun hc2 => ?_, fun hc2 => ?_⟩
      · have hc2 : b.at_ < (b.sc.length : Int) := by simpa using hc2
        have a0 := ok.a0
        have hlt : b.at_.toNat < b.sc.length := by omega
        repeat fold_depth
        refine ⟨_, ixL_ok (t := .int b.sc[b.at_.toNat]) a0 (by simp [hlt]), ?_⟩
        exact ⟨rfl, rfl, _, rfl⟩
      · repeat fold_depth
        exact ⟨rfl, rfl, 0, rfl⟩
    · rintro fl e s ⟨rfl, rfl, c, rfl⟩
      repeat fold_depth
      refine ⟨_, bag_set1 hb, ?_⟩
      have hb1 := ix (c := Bag.cell { b with at_ := b.at_ + 1 }) hn
      have hn1 : n < (s.set n (Bag.cell { b with at_ := b.at_ + 1 })).length := by simpa using hn
      repeat fold_depth
      refine ⟨fun hc3 => ?_, fun hc3 => ?_⟩
      · repeat fold_depth
        refine ⟨_, bag_set2 hb1, ?_⟩
        repeat fold_depth
        refine ⟨_, _, rfl, Int.emod_nonneg _ (by omega), Int.emod_lt_of_pos _ h0, List.set_set .., ⟨?_, ok.l, ok.s0, ok.s1⟩, ?_⟩
        · show 0 ≤ b.at_ + 1; have := ok.a0; omega
        · show b.at_ + 1 ≤ b.at_ + 1; omega
      · repeat fold_depth
        refine ⟨_, opPow_ok ⟨by decide, by decide, ?_⟩, ?_⟩
        · show b.seed.natAbs < 2 ^ 64
          have := ok.s0; have := ok.s1; omega
        repeat fold_depth
        refine ⟨_, opMul_ok (by decide) ?_, ?_⟩
        · show (b.at_ + 1).natAbs < 2 ^ 100
          have := ok.a0; omega
        repeat fold_depth
        refine ⟨_, bag_set3 hb1, ?_⟩
        generalize hs : ((b.seed ^ Int.toNat 5 + 69069 * (b.at_ + 1) + c % 1000003 + 7) % 2147483629 : Int) = sd
        have s0 : 0 ≤ sd := by rw [← hs]; exact Int.emod_nonneg _ (by decide)
        have s1 : sd < 2147483629 := by rw [← hs]; exact Int.emod_lt_of_pos _ (by decide)
        have hb2 := ix (c := Bag.cell { b with at_ := b.at_ + 1, seed := sd }) hn1
        repeat fold_depth
        refine ⟨_, _, rfl, Int.emod_nonneg _ (by omega), Int.emod_lt_of_pos _ h0, List.set_set .., ⟨?_, ok.l, s0, s1⟩, ?_⟩
        · show 0 ≤ b.at_ + 1; have := ok.a0; omega
        · show b.at_ + 1 ≤ b.at_ + 1; omega
end Mp


set_option Elab.async false
set_option linter.all false
set_option maxRecDepth 100000
set_option maxHeartbeats 1000000
/-! Kit: what every law's texts call: the bag, one of these, alike. -/
namespace Mp
open PySem
/-- the bag stands in place n; so many pulls at most -/
def Bg (n N : Nat) (st : Store) : Prop := ∃ b : Bag, st[n]? = some b.cell ∧ b.ok ∧ b.at_ ≤ N
theorem Bg.up {n N M : Nat} {st : Store} (h : Bg n N st) (l : N ≤ M) : Bg n M st := by
  obtain ⟨b, h1, h2, h3⟩ := h
  exact ⟨b, h1, h2, by omega⟩
theorem wn_pull {n N : Nat} {size : Int} {st : Store} {Q : T → Store → Prop} (h : Bg n N st) (h0 : 0 < size) (h1 : size < 2 ^ 200) (hN : N < 2 ^ 60) (q : ∀ (r : Int) st', 0 ≤ r → r < size → Bg n (N + 1) st' → Q (.int r) st') :
    WN (runFn 2 4 S_pull) [.obj n, .int size] st Q := by
  obtain ⟨b, hb, ok, ha⟩ := h
  have hn : n < st.length := (List.getElem?_eq_some_iff.mp hb).1
  refine (pull_spec hb ok h0 (Int.lt_of_lt_of_le h1 (by decide +kernel)) (by omega)).imp ?_
  rintro t st' ⟨r, b', rfl, r0, r1, rfl, ok', ha'⟩
  exact q r _ r0 r1 ⟨b', List.getElem?_set_self hn, ok', by omega⟩
theorem eqI {i : Int} : opEq (.int i) (.int i) = some (.bl true) := by
  show some (T.bl (i == i)) = _
  simp
theorem neN {i : Int} : opNe (.int i) (.int i) = some (.bl false) := by
  show some (T.bl (!(i == i))) = _
  simp
theorem eqB : ∀ {b : Bool}, opEq (.bl b) (.bl b) = some (.bl true)
  | true => rfl
  | false => rfl
/-- one step of a text, forwards -/
local macro_rules | `(tactic| fold_depth) => `(tactic| first
  | (with_reducible first
    | refine ws_seq.mpr ?_ | refine ws_if.mpr ?_ | refine ws_ret.mpr ?_ | refine ws_asgN.mpr ?_ | refine ws_asg.mpr ?_ | refine ws_ix.mpr ?_ | refine ws_nx.mpr ?_ | refine ws_par.mpr ?_ | refine ws_for.mpr ?_ | refine ws_shr.mpr ?_ | refine ws_aug.mpr ?_ | refine ws_upd.mpr ?_ | refine ws_own.mpr ?_ | refine ws_frz.mpr ?_ | refine ws_fl.mpr ?_
    | refine we_ev2.mpr ?_ | refine we_ev2S.mpr ?_ | refine we_ev3S.mpr ?_ | refine we_ev1S.mpr ?_ | refine we_ev1.mpr ?_ | refine we_con.mpr ?_ | refine we_testV.mpr ?_
    | refine we_callP.mpr ?_ | refine we_cons.mpr ?_ | refine we_nil.mpr ?_ | refine we_evN.mpr ?_ | refine we_andB.mpr ?_ | refine we_orB.mpr ?_ | refine we_notT.mpr ?_ | refine we_andV.mpr ?_ | refine we_notV.mpr ?_ | refine we_orV.mpr ?_ | refine we_ite.mpr ?_ | refine we_chain.mpr ?_
    | refine we_bind.mpr ?_ | refine we_pure.mpr ?_ | refine we_part.mpr ?_ | refine we_itRng1.mpr ?_ | refine we_itRng2.mpr ?_ | refine we_itSeq.mpr ?_ | refine we_comp1.mpr ?_ | refine we_peek.mpr ?_ | refine we_ownV.mpr ?_ | refine we_var.mpr ?_
    | refine ⟨_, neN, ?_⟩ | refine ⟨_, eqI, ?_⟩ | refine ⟨_, eqB, ?_⟩)
  | refine ⟨fun (_ : Fl.nx = Fl.nx) => ?_, fun (z : Fl.nx ≠ Fl.nx) => absurd rfl z⟩ | refine ⟨fun (z : Fl.ret _ = Fl.nx) => Fl.noConfusion z, fun _ => ?_⟩ | refine fun (_ : Fl.ret _ ≠ Fl.nx) => ?_
  | refine ⟨fun (_ : true = true) => ?_, fun (z : true = false) => Bool.noConfusion z⟩ | refine ⟨fun (z : false = true) => Bool.noConfusion z, fun (_ : false = false) => ?_⟩
  | refine ⟨.bl true, rfl, ?_⟩ | refine ⟨.bl false, rfl, ?_⟩ | refine ⟨true, rfl, ?_⟩ | refine ⟨false, rfl, ?_⟩
  | refine ⟨_, rfl, ?_⟩)
def S_bag : EvS := sRet (evN mkLst [ev1S listT (ev3S opCut (var 0) (con .non) (Ev.bind (con (.int 63)) asPart)), con (.int 0), con (.int 0), ev2 opAdd (con (.int 9463)) (ev1S lenT (ev3S opCut (var 0) (con .non) (Ev.bind (con (.int 63)) asPart)))])
theorem lim_pos {n : Nat} {i : Int} {d : Option Nat} (h : 0 ≤ i) (h1 : i < 2 ^ 60) : lim n (.int i) d = some (min i.toNat n) := by
  have : lim n (.int i) d = (if -(2 ^ 60) < i ∧ i < 2 ^ 60 then some (if i < 0 then (n + i).toNat else min i.toNat n) else none) := rfl
  rw [this, if_pos ⟨by omega, h1⟩, if_neg (by omega)]
theorem lim_neg {n : Nat} {i : Int} {d : Option Nat} (h : i < 0) (h1 : -(2 ^ 60) < i) : lim n (.int i) d = some (n + i).toNat := by
  have : lim n (.int i) d = (if -(2 ^ 60) < i ∧ i < 2 ^ 60 then some (if i < 0 then (n + i).toNat else min i.toNat n) else none) := rfl
  rw [this, if_pos ⟨h1, by omega⟩, if_pos h]
theorem cut63 {st : Store} {n : Nat} {ns : List Int} (h : st[n]? = some (.scr (ns.map T.int))) (l : ns.length ≤ 63) : opCut st (.obj n) .non (.int 63) = some (.lst (ns.map T.int)) := by
  have : min (Int.toNat 63) (ns.map T.int).length = (ns.map T.int).length := by simp; omega
  simp only [opCut, h]
  have e1 : lim (ns.map T.int).length .non (some 0) = some 0 := rfl
  have e2 : lim (ns.map T.int).length (.int 63) (some (ns.map T.int).length) = some (ns.map T.int).length := by
    rw [lim_pos (by decide) (by decide), this]
  rw [e1, e2]
  have : (ns.map T.int).take ns.length = ns.map T.int := List.take_of_length_le (by simp)
  simp [cutT, this]
theorem wn_bag {st : Store} {n : Nat} {ns : List Int} {Q : T → Store → Prop} (h : st[n]? = some (.scr (ns.map T.int))) (l : ns.length ≤ 63)
    (q : ∀ xs, Bg st.length 0 (st ++ [.lst xs]) → Q (.lst xs) st) : WN (runFn 1 1 S_bag) [.obj n] st Q := by
  rw [wn_run]
  refine ⟨rfl, ?_⟩
  have e0 : startE 1 [T.obj n] = [.fr (.obj n)] := rfl
  rw [e0]
  unfold S_bag
  repeat fold_depth
  refine ⟨_, cut63 h l, ?_⟩
  repeat fold_depth
  refine ⟨_, cut63 h l, ?_⟩
  repeat fold_depth
  refine q _ ⟨⟨ns, 0, 0, 9463 + (ns.length : Int)⟩, ?_, ⟨?_, l, ?_, ?_⟩, ?_⟩
  · simp [Bag.cell]
  · show (0 : Int) ≤ 0; omega
  · show (0 : Int) ≤ 9463 + (ns.length : Int); omega
  · show 9463 + (ns.length : Int) < 2147483629; omega
  · show (0 : Int) ≤ ((0 : Nat) : Int); omega
def S_of (pf : FnD) : EvS := sRet (ev2S opIx (var 1) (callP pf [var 0, ev1S lenT (var 1)]))
theorem wn_of {n N : Nat} {ts : List T} {st : Store} {Q : T → Store → Prop} (h : Bg n N st) (h0 : 0 < ts.length) (h1 : ts.length < 2 ^ 60) (hN : N < 2 ^ 60) (q : ∀ t st', t ∈ ts → Bg n (N + 1) st' → Q t st') :
    WN (runFn 2 2 (S_of (runFn 2 4 S_pull))) [.obj n, .lst ts] st Q := by
  rw [wn_run]
  refine ⟨rfl, ?_⟩
  have e0 : startE 2 [T.obj n, .lst ts] = [.fr (.obj n), .fr (.lst ts)] := rfl
  rw [e0]
  unfold S_of
  repeat fold_depth
  refine wn_pull h (by omega) (Int.lt_trans (b := 2 ^ 60) (by omega) (by decide +kernel)) hN fun r st' r0 r1 h' => ?_
  have hr : r.toNat < ts.length := by omega
  refine ⟨_, ixL_ok (t := ts[r.toNat]) r0 (List.getElem?_eq_getElem hr), ?_⟩
  exact q _ _ (List.getElem_mem hr) h'
theorem mem_rangeL {t : T} : ∀ {n : Nat} {lo : Int}, t ∈ rangeL lo n → ∃ i : Int, t = .int i ∧ lo ≤ i ∧ i < lo + n
  | 0, lo, h => by cases h
  | n + 1, lo, h => by
    rcases List.mem_cons.mp h with rfl | h
    · exact ⟨lo, rfl, by omega, by omega⟩
    · obtain ⟨i, e, h1, h2⟩ := mem_rangeL h
      exact ⟨i, e, by omega, by omega⟩
theorem len_rangeL : ∀ {n : Nat} {lo : Int}, (rangeL lo n).length = n
  | 0, _ => rfl
  | n + 1, lo => congrArg (· + 1) len_rangeL
/-! ### alike -/
def S_like (f : FnD) : EvS := sSeq (sIf (testV (ev1S (isKind ["tuple", "list"]) (var 1))) (sSeq (sIf (testV (ev2 opNe (ev1S (isKind ["tuple"]) (var 0)) (ev1S (isKind ["tuple"]) (var 1)))) (sRet (con (.bl false))) (sNx)) (sSeq (sIf (orB (Mp.notT (testV (ev1S (isKind ["tuple", "list"]) (var 0)))) (testV (ev2 opNe (ev1S lenT (var 0)) (ev1S lenT (var 1))))) (sRet (con (.bl false))) (sNx)) (sRet (ev1 allT (comp1 [2] (itRng1 (ev1S lenT (var 1))) (.name 2) tYes (callP f [ev2S opIx (var 0) (var 2), ev2S opIx (var 1) (var 2)])))))) (sNx)) (sSeq (sIf (testV (ev1S (isKind ["bool"]) (var 1))) (sRet (andV (ev1S (isKind ["bool"]) (var 0)) (ev2 opEq (var 0) (var 1)))) (sNx)) (sSeq (sIf (testV (ev1S (isKind ["int"]) (var 1))) (sRet (andV (ev1S (isKind ["int"]) (var 0)) (andV (notV (ev1S (isKind ["bool"]) (var 0))) (ev2 opEq (var 0) (var 1))))) (sNx)) (sSeq (sIf (testV (ev1S (isKind ["str"]) (var 1))) (sRet (andV (ev1S (isKind ["str"]) (var 0)) (ev2 opEq (var 0) (var 1)))) (sNx)) (sRet (andV (ev2 opIsN (var 1) (con .non)) (ev2 opIsN (var 0) (con .non)))))))
mutual
/-- plain data that alike looks through -/
def T.lk : Nat → T → Bool
  | 0, _ => false
  | n + 1, .tup xs => decide (xs.length ≤ 100000) && T.lkL n xs
  | n + 1, .lst xs => decide (xs.length ≤ 100000) && T.lkL n xs
  | _ + 1, .str s => s.cps.all fun c => decide (c < 1114112)
  | _ + 1, .non => true
  | _ + 1, .bl _ => true
  | _ + 1, .int _ => true
  | _ + 1, .dct _ => false
  | _ + 1, .set _ => false
  | _ + 1, .ins _ _ _ => false
  | _ + 1, .obj _ => false
def T.lkL : Nat → List T → Bool
  | _, [] => true
  | n, x :: xs => T.lk n x && T.lkL n xs
end
theorem lkL_mem {n : Nat} {x : T} : ∀ {xs : List T}, T.lkL n xs = true → x ∈ xs → T.lk n x = true
  | [], _, h => by cases h
  | y :: ys, h, m => by
    have h : (T.lk n y && T.lkL n ys) = true := h
    rw [Bool.and_eq_true] at h
    rcases List.mem_cons.mp m with rfl | m
    · exact h.1
    · exact lkL_mem h.2 m
theorem bls_rep : ∀ n : Nat, T.bls? (List.replicate n (.bl true)) = some (List.replicate n true)
  | 0 => rfl
  | n + 1 => by simp only [List.replicate_succ, T.bls?, bls_rep n, Option.map_some]
theorem all_rep {n : Nat} : allT (.lst (List.replicate n (.bl true))) = some (.bl true) := by
  have : allT (.lst (List.replicate n (.bl true))) = (T.bls? (List.replicate n (.bl true))).map fun bs => .bl (bs.all id) := rfl
  rw [this, bls_rep]
  simp
theorem eqRefl (s : Str) : (s == s) = true := by
  show (decide (s = s)) = true
  simp
theorem eqS {s : Str} (h : T.lk 1 (.str s) = true) : opEq (.str s) (.str s) = some (.bl true) := by
  have h : T.okd 12 (.str s) = true := h
  show (T.eq? _ _).map T.bl = _
  unfold T.eq?
  rw [h]
  have : T.eqv (.str s) (.str s) = true := by
    show (s == s) = true
    exact eqRefl s
  rw [this]
  rfl
theorem like_seq {f : FnD} {st : Store} {env : En} {xs : List T} {x : T} (hx : x = .tup xs ∨ x = .lst xs) (hl : xs.length ≤ 100000) (h0 : env[0]? = some (.fr x)) (h1 : env[1]? = some (.fr x)) (h2 : env.length = 3)
    (hf : ∀ y, y ∈ xs → WN f [y, y] st fun t st' => t = .bl true ∧ st' = st) :
    WE (ev1 allT (comp1 [2] (itRng1 (ev1S lenT (var 1))) (.name 2) tYes (callP f [ev2S opIx (var 0) (var 2), ev2S opIx (var 1) (var 2)]))) env st fun t st' => t = .bl true ∧ st' = st := by
  have il : lenT st x = some (.int xs.length) := by rcases hx with rfl | rfl <;> rfl
  have ii : ∀ {i : Int}, 0 ≤ i → i < xs.length → ∃ y, y ∈ xs ∧ ∀ st', opIx st' x (.int i) = some y := by
    intro i i0 i1
    have hi : i.toNat < xs.length := by omega
    refine ⟨xs[i.toNat], List.getElem_mem hi, fun st' => ?_⟩
    rcases hx with rfl | rfl
    · exact ixT_ok i0 (List.getElem?_eq_getElem hi)
    · exact ixL_ok i0 (List.getElem?_eq_getElem hi)
  refine we_ev1.mpr (we_comp1.mpr (we_itRng1.mpr (we_ev1S.mpr (we_var.mpr ⟨_, h1, _, il, _, rfl, ⟨by omega, by omega⟩, ?_⟩))))
  refine ⟨by rw [len_rangeL]; omega, ?_⟩
  have e0 : (wipeE [2] env)[0]? = some (.fr x) := by
    show (env.set 2 .no)[0]? = _
    rw [List.getElem?_set_ne (by decide), h0]
  have e1 : (wipeE [2] env)[1]? = some (.fr x) := by
    show (env.set 2 .no)[1]? = _
    rw [List.getElem?_set_ne (by decide), h1]
  have e2 : (wipeE [2] env).length = 3 := by
    show (env.set 2 .no).length = 3
    simp [h2]
  generalize wipeE [2] env = en at e0 e1 e2
  have := wc_inv (g := .name 2) (c := tYes) (e := callP f [ev2S opIx (var 0) (var 2), ev2S opIx (var 1) (var 2)]) (env := en) (fun d m s => s = st ∧ m = List.replicate m.length (.bl true)) (rangeL 0 (Int.toNat xs.length)) [] [] st ⟨rfl, rfl⟩ ?_
  · obtain ⟨ys, s, e, rfl, h⟩ := this
    refine ⟨ys, _, e, .bl true, ?_, rfl, rfl⟩
    have h : ys = List.replicate ys.length (.bl true) := by simpa using h
    rw [h]
    exact all_rep
  · rintro y d m s hy ⟨rfl, hm⟩
    obtain ⟨i, rfl, i0, i1⟩ := mem_rangeL hy
    obtain ⟨y, my, hy⟩ := ii i0 (by omega)
    refine ⟨_, rfl, we_pure.mpr ⟨fun _ => ?_, fun z => Bool.noConfusion z⟩⟩
    have v0 : (en.set 2 (.fr (.int i)))[0]? = some (.fr x) := by rw [List.getElem?_set_ne (by decide), e0]
    have v1 : (en.set 2 (.fr (.int i)))[1]? = some (.fr x) := by rw [List.getElem?_set_ne (by decide), e1]
    have v2 : (en.set 2 (.fr (.int i)))[2]? = some (.fr (.int i)) := List.getElem?_set_self (by omega)
    refine we_callP.mpr (we_cons.mpr (we_ev2S.mpr (we_var.mpr ⟨_, v0, we_var.mpr ⟨_, v2, _, hy _, we_cons.mpr (we_ev2S.mpr (we_var.mpr ⟨_, v1, we_var.mpr ⟨_, v2, _, hy _, we_nil.mpr ?_⟩⟩))⟩⟩)))
    refine (hf y my).imp ?_
    rintro t s' ⟨rfl, rfl⟩
    refine ⟨rfl, ?_⟩
    have : (m ++ [T.bl true]).length = m.length + 1 := by simp
    rw [this, List.replicate_succ', ← hm]
theorem wn_like0 {f : Nat → FnD} {st : Store} (hf : ∀ n, n < 13 → f (n + 1) = runFn 2 3 (S_like (f n))) : ∀ (n : Nat) (x : T), n ≤ 13 → T.lk n x = true → WN (f n) [x, x] st fun t st' => t = .bl true ∧ st' = st
  | 0, _, _, h => by unfold T.lk at h; cases h
  | n + 1, x, hn, h => by
    rw [hf n hn, wn_run]
    refine ⟨rfl, ?_⟩
    have e0 : startE 3 [x, x] = [.fr x, .fr x, .no] := rfl
    rw [e0]
    unfold S_like
    cases x with
    | tup xs =>
      have h : (decide (xs.length ≤ 100000) && T.lkL n xs) = true := h
      rw [Bool.and_eq_true, decide_eq_true_iff] at h
      have := like_seq (f := f n) (st := st) (env := [.fr (.tup xs), .fr (.tup xs), .no]) (.inl rfl) h.1 rfl rfl rfl fun y hy => wn_like0 hf n y (by omega) (lkL_mem h.2 hy)
      repeat (first | (with_reducible refine WE.imp this ?_) | fold_depth)
      exact fun _ _ h => ⟨fun z => Fl.noConfusion z, fun _ => h⟩
    | lst xs =>
      have h : (decide (xs.length ≤ 100000) && T.lkL n xs) = true := h
      rw [Bool.and_eq_true, decide_eq_true_iff] at h
      have := like_seq (f := f n) (st := st) (env := [.fr (.lst xs), .fr (.lst xs), .no]) (.inr rfl) h.1 rfl rfl rfl fun y hy => wn_like0 hf n y (by omega) (lkL_mem h.2 hy)
      repeat (first | (with_reducible refine WE.imp this ?_) | fold_depth)
      exact fun _ _ h => ⟨fun z => Fl.noConfusion z, fun _ => h⟩
    | str s =>
      repeat fold_depth
      refine ⟨_, eqS h, ?_⟩
      repeat fold_depth
      exact ⟨rfl, rfl⟩
    | non => repeat fold_depth
             exact ⟨rfl, rfl⟩
    | bl b => repeat fold_depth
              exact ⟨rfl, rfl⟩
    | int i => repeat fold_depth
               exact ⟨rfl, rfl⟩
    | _ => cases h
theorem wn_like {f : Nat → FnD} {st : Store} {x : T} {Q : T → Store → Prop} (hf : ∀ n, n < 13 → f (n + 1) = runFn 2 3 (S_like (f n))) (h : T.lk 13 x = true) (q : Q (.bl true) st) : WN (f 13) [x, x] st Q :=
  (wn_like0 hf 13 x (by decide) h).imp fun _ _ ⟨h1, h2⟩ => by subst h1 h2; exact q
end Mp


set_option Elab.async false
set_option linter.all false
set_option maxRecDepth 100000
set_option maxHeartbeats 1000000
/-! Ints: lists of numbers, loops that may return. -/
namespace Mp
open PySem
/-- a list of numbers as a list of data -/
abbrev il (xs : List Int) : List T := xs.map T.int
theorem il_len {xs : List Int} : (il xs).length = xs.length := List.length_map ..
theorem okdL_il (n : Nat) : ∀ xs : List Int, T.okdL (n + 1) (il xs) = true
  | [] => rfl
  | x :: xs => by
    show (T.okd (n + 1) (.int x) && T.okdL (n + 1) (il xs)) = true
    rw [okdL_il n xs]; rfl
theorem eqvL_il : ∀ xs ys : List Int, T.eqvL (il xs) (il ys) = decide (xs = ys)
  | [], [] => rfl
  | [], y :: ys => rfl
  | x :: xs, [] => rfl
  | x :: xs, y :: ys => by
    show (x == y && T.eqvL (il xs) (il ys)) = _
    rw [eqvL_il xs ys]
    by_cases h : x = y <;> by_cases h2 : xs = ys <;> simp [h, h2]
theorem eq_tup {xs ys : List Int} : opEq (.tup (il xs)) (.tup (il ys)) = some (.bl (decide (xs = ys))) := by
  show (if (T.okdL 11 (il xs) && T.okdL 11 (il ys)) = true then some (T.eqvL (il xs) (il ys)) else none).map T.bl = _
  rw [okdL_il, okdL_il, eqvL_il]; rfl
theorem eq_lst {xs ys : List Int} : opEq (.lst (il xs)) (.lst (il ys)) = some (.bl (decide (xs = ys))) := by
  show (if (T.okdL 11 (il xs) && T.okdL 11 (il ys)) = true then some (T.eqvL (il xs) (il ys)) else none).map T.bl = _
  rw [okdL_il, okdL_il, eqvL_il]; rfl
theorem ne_tup {xs ys : List Int} : opNe (.tup (il xs)) (.tup (il ys)) = some (.bl (!decide (xs = ys))) := by
  show (if (T.okdL 11 (il xs) && T.okdL 11 (il ys)) = true then some (T.eqvL (il xs) (il ys)) else none).map (fun b => T.bl (!b)) = _
  rw [okdL_il, okdL_il, eqvL_il]; rfl
theorem ne_lst {xs ys : List Int} : opNe (.lst (il xs)) (.lst (il ys)) = some (.bl (!decide (xs = ys))) := by
  show (if (T.okdL 11 (il xs) && T.okdL 11 (il ys)) = true then some (T.eqvL (il xs) (il ys)) else none).map (fun b => T.bl (!b)) = _
  rw [okdL_il, okdL_il, eqvL_il]; rfl
theorem eq_int {i j : Int} : opEq (.int i) (.int j) = some (.bl (decide (i = j))) := by
  show some (T.bl (i == j)) = _
  by_cases h : i = j <;> simp [h]
theorem ne_int {i j : Int} : opNe (.int i) (.int j) = some (.bl (!decide (i = j))) := by
  show some (T.bl (!(i == j))) = _
  by_cases h : i = j <;> simp [h]
theorem rep_il : ∀ (n : Nat) (xs : List Int), rep (il xs) n = il (List.flatten (List.replicate n xs))
  | 0, _ => rfl
  | n + 1, xs => by
    show il xs ++ rep (il xs) n = _
    rw [rep_il n xs, List.replicate_succ, List.flatten_cons]
    simp [il]
theorem mul_tup {xs : List Int} {n : Int} (h : xs.length * n.toNat ≤ 100000) (h1 : n < 2 ^ 62) (h2 : -(2 ^ 62) < n) : opMul (.tup (il xs)) (.int n) = some (.tup (il (List.flatten (List.replicate n.toNat xs)))) := by
  show (if (il xs).length * n.toNat ≤ 100000 ∧ n < 2 ^ 62 ∧ -(2 ^ 62) < n then some (T.tup (rep (il xs) n.toNat)) else none) = _
  rw [if_pos ⟨by rw [il_len]; exact h, h1, h2⟩, rep_il]
theorem mul_lst {xs : List Int} {n : Int} (h : xs.length * n.toNat ≤ 100000) (h1 : n < 2 ^ 62) (h2 : -(2 ^ 62) < n) : opMul (.lst (il xs)) (.int n) = some (.lst (il (List.flatten (List.replicate n.toNat xs)))) := by
  show (if (il xs).length * n.toNat ≤ 100000 ∧ n < 2 ^ 62 ∧ -(2 ^ 62) < n then some (T.lst (rep (il xs) n.toNat)) else none) = _
  rw [if_pos ⟨by rw [il_len]; exact h, h1, h2⟩, rep_il]
theorem add_tup {xs ys : List Int} (h : xs.length + ys.length ≤ 100000) : opAdd (.tup (il xs)) (.tup (il ys)) = some (.tup (il (xs ++ ys))) := by
  show (if (il xs).length + (il ys).length ≤ 100000 then some (T.tup (il xs ++ il ys)) else none) = _
  rw [if_pos (by rw [il_len, il_len]; exact h)]
  simp [il]
theorem add_lst {xs ys : List Int} (h : xs.length + ys.length ≤ 100000) : opAdd (.lst (il xs)) (.lst (il ys)) = some (.lst (il (xs ++ ys))) := by
  show (if (il xs).length + (il ys).length ≤ 100000 then some (T.lst (il xs ++ il ys)) else none) = _
  rw [if_pos (by rw [il_len, il_len]; exact h)]
  simp [il]
theorem cut_il {a b : Nat} {xs : List Int} : cutT a b (il xs) = il ((xs.drop a).take (b - a)) := by
  simp [cutT, il, List.map_take, List.map_drop]
/-- x[:i] -/
theorem cut_to {st : Store} {xs : List Int} {i : Int} (h : 0 ≤ i) (h1 : i < 2 ^ 60) : opCut st (.tup (il xs)) .non (.int i) = some (.tup (il (xs.take i.toNat))) ∧ opCut st (.lst (il xs)) .non (.int i) = some (.lst (il (xs.take i.toNat))) := by
  have e1 : lim (il xs).length .non (some 0) = some 0 := rfl
  have e2 : lim (il xs).length (.int i) (some (il xs).length) = some (min i.toNat xs.length) := by rw [lim_pos h h1, il_len]
  have e3 : (xs.drop 0).take (min i.toNat xs.length - 0) = xs.take i.toNat := by
    rw [Nat.sub_zero, List.drop_zero, ← List.take_eq_take_min]
  constructor
  · show (match lim (il xs).length .non (some 0), lim (il xs).length (.int i) (some (il xs).length) with | some a, some b => some (T.tup (cutT a b (il xs))) | _, _ => none) = _
    rw [e1, e2]
    simp only [cut_il, e3]
  · show (match lim (il xs).length .non (some 0), lim (il xs).length (.int i) (some (il xs).length) with | some a, some b => some (T.lst (cutT a b (il xs))) | _, _ => none) = _
    rw [e1, e2]
    simp only [cut_il, e3]
/-- x[i:] -/
theorem cut_from {st : Store} {xs : List Int} {i : Int} (h : 0 ≤ i) (h1 : i < 2 ^ 60) : opCut st (.tup (il xs)) (.int i) .non = some (.tup (il (xs.drop i.toNat))) ∧ opCut st (.lst (il xs)) (.int i) .non = some (.lst (il (xs.drop i.toNat))) := by
  have e1 : lim (il xs).length .non (some (il xs).length) = some xs.length := by rw [il_len]; rfl
  have e2 : lim (il xs).length (.int i) (some 0) = some (min i.toNat xs.length) := by rw [lim_pos h h1, il_len]
  have e3 : (xs.drop (min i.toNat xs.length)).take (xs.length - min i.toNat xs.length) = xs.drop i.toNat := by
    rw [List.take_of_length_le (by simp)]
    by_cases hh : i.toNat ≤ xs.length
    · rw [Nat.min_eq_left hh]
    · rw [Nat.min_eq_right (by omega), List.drop_length, List.drop_eq_nil_of_le (by omega)]
  constructor
  · show (match lim (il xs).length (.int i) (some 0), lim (il xs).length .non (some (il xs).length) with | some a, some b => some (T.tup (cutT a b (il xs))) | _, _ => none) = _
    rw [e1, e2]
    simp only [cut_il, e3]
  · show (match lim (il xs).length (.int i) (some 0), lim (il xs).length .non (some (il xs).length) with | some a, some b => some (T.lst (cutT a b (il xs))) | _, _ => none) = _
    rw [e1, e2]
    simp only [cut_il, e3]
/-- x[:-1], x[-1:], x[-1] of what is not empty -/
theorem cut_init {st : Store} {xs : List Int} (h : xs ≠ []) : opCut st (.tup (il xs)) .non (.int (-1)) = some (.tup (il xs.dropLast)) := by
  have hl : 0 < xs.length := List.length_pos_iff.mpr h
  have e1 : lim (il xs).length .non (some 0) = some 0 := rfl
  have e2 : lim (il xs).length (.int (-1)) (some (il xs).length) = some (xs.length - 1) := by rw [lim_neg (by decide) (by decide), il_len]; congr 1; omega
  show (match lim (il xs).length .non (some 0), lim (il xs).length (.int (-1)) (some (il xs).length) with | some a, some b => some (T.tup (cutT a b (il xs))) | _, _ => none) = _
  rw [e1, e2]
  simp only [cut_il, List.drop_zero, Nat.sub_zero, List.dropLast_eq_take]
theorem cut_last {st : Store} {xs : List Int} (h : xs ≠ []) : opCut st (.tup (il xs)) (.int (-1)) .non = some (.tup (il [xs.getLast h])) := by
  have hl : 0 < xs.length := List.length_pos_iff.mpr h
  have e1 : lim (il xs).length .non (some (il xs).length) = some xs.length := by rw [il_len]; rfl
  have e2 : lim (il xs).length (.int (-1)) (some 0) = some (xs.length - 1) := by rw [lim_neg (by decide) (by decide), il_len]; congr 1; omega
  show (match lim (il xs).length (.int (-1)) (some 0), lim (il xs).length .non (some (il xs).length) with | some a, some b => some (T.tup (cutT a b (il xs))) | _, _ => none) = _
  rw [e1, e2]
  have : (xs.drop (xs.length - 1)).take (xs.length - (xs.length - 1)) = [xs.getLast h] := by
    have h2 : xs.length - (xs.length - 1) = 1 := by omega
    rw [h2, List.getLast_eq_getElem, List.drop_eq_getElem_cons (by omega)]
    rfl
  simp only [cut_il, this]
theorem ix_last {st : Store} {xs : List Int} (h : xs ≠ []) : opIx st (.tup (il xs)) (.int (-1)) = some (.int (xs.getLast h)) := by
  have hl : 0 < xs.length := List.length_pos_iff.mpr h
  have : ixOf (-1) (il xs).length = some (xs.length - 1) := by
    unfold ixOf
    rw [if_neg (by decide), if_pos (by rw [il_len]; omega), il_len]
    congr 1
    omega
  show (match seqOf st (.tup (il xs)) with | some xs => (match ixOf (-1) xs.length with | some k => xs[k]? | none => none) | none => none) = _
  simp only [seqOf, this]
  rw [List.getElem?_map, List.getLast_eq_getElem, List.getElem?_eq_getElem (by omega)]
  rfl
theorem ix_tup {st : Store} {xs : List Int} {i : Int} (h0 : 0 ≤ i) (h : i.toNat < xs.length) : opIx st (.tup (il xs)) (.int i) = some (.int xs[i.toNat]) := ixT_ok h0 (by simp [il, h])
theorem ix_lst {st : Store} {xs : List Int} {i : Int} (h0 : 0 ≤ i) (h : i.toNat < xs.length) : opIx st (.lst (il xs)) (.int i) = some (.int xs[i.toNat]) := ixL_ok h0 (by simp [il, h])
theorem rangeL_il : ∀ (n : Nat) (lo : Int), rangeL lo n = il ((List.range n).map fun k : Nat => lo + (k : Int))
  | 0, _ => rfl
  | n + 1, lo => by
    show T.int lo :: rangeL (lo + 1) n = _
    rw [rangeL_il n, List.range_succ_eq_map]
    simp only [il, List.map_cons, List.map_map]
    congr 1
    · simp
    · apply List.map_congr_left
      intro k _
      simp only [Function.comp]
      congr 1
      omega
theorem lkL_il (n : Nat) : ∀ xs : List Int, T.lkL (n + 1) (il xs) = true
  | [] => rfl
  | x :: xs => by
    show (T.lk (n + 1) (.int x) && T.lkL (n + 1) (il xs)) = true
    rw [lkL_il n xs]; rfl
theorem lk_tup {n : Nat} {xs : List Int} (h : xs.length ≤ 100000) : T.lk (n + 2) (.tup (il xs)) = true := by
  show (decide ((il xs).length ≤ 100000) && T.lkL (n + 1) (il xs)) = true
  rw [lkL_il, il_len, decide_eq_true h]; rfl
theorem lk_lst {n : Nat} {xs : List Int} (h : xs.length ≤ 100000) : T.lk (n + 2) (.lst (il xs)) = true := by
  show (decide ((il xs).length ≤ 100000) && T.lkL (n + 1) (il xs)) = true
  rw [lkL_il, il_len, decide_eq_true h]; rfl
/-- a loop that may return -/
theorem ws_forRet {g : Tg} {body : EvS} {all : List T} (I : List T → En → Store → Prop) (R : T → Store → Prop)
    (step : ∀ (x : T) (done rest : List T) (env : En) (st : Store), done ++ x :: rest = all → I done env st → ∃ e, Tg.put g x env = some e ∧ WS body e st fun fl e s => (fl = .nx ∧ I (done ++ [x]) e s) ∨ (∃ t, fl = .ret t ∧ R t s)) :
    ∀ (xs done : List T) (env : En) (st : Store), done ++ xs = all → I done env st →
    WS (forL g body xs) env st fun fl e s => (fl = .nx ∧ I all e s) ∨ (∃ t, fl = .ret t ∧ R t s)
  | [], done, env, st, he, h => by rw [ws_forNil]; left; rw [← he]; simpa using h
  | x :: xs, done, env, st, he, h => by
    obtain ⟨e, hp, hb⟩ := step x done xs env st he h
    refine ws_forCons ⟨e, hp, hb.imp ?_⟩
    rintro fl e s (⟨rfl, h2⟩ | ⟨t, rfl, h2⟩)
    · exact ws_forRet I R step xs (done ++ [x]) e s (by simpa using he) h2
    · exact .inr ⟨t, rfl, h2⟩
theorem rangeL_at : ∀ {n : Nat} {lo : Int} {done rest : List T} {x : T}, done ++ x :: rest = rangeL lo n → x = .int (lo + done.length) ∧ done.length < n
  | 0, lo, done, rest, x, h => by cases done <;> cases h
  | n + 1, lo, [], rest, x, h => by
    cases h
    exact ⟨by simp, by simp⟩
  | n + 1, lo, y :: done, rest, x, h => by
    have h : y :: (done ++ x :: rest) = .int lo :: rangeL (lo + 1) n := h
    injection h with h1 h2
    obtain ⟨h3, h4⟩ := rangeL_at h2
    refine ⟨?_, by simp; omega⟩
    rw [h3]
    congr 1
    simp; omega
/-- .. of a comprehension that sifts -/
theorem wc_filter {j : Nat} {c : EvB} {pr : T → Bool} {env : En} {st : Store} (hj : j < env.length) : ∀ (xs : List T) {Q : List T → Store → Prop},
    (∀ x ∈ xs, WE c (env.set j (.fr x)) st fun b s => b = pr x ∧ s = st) → Q (xs.filter pr) st → WC (.name j) c (var j) env xs st Q
  | [], Q, _, q => wc_nil.mpr q
  | x :: xs, Q, h, q => by
    refine wc_cons.mpr ⟨_, rfl, (h x List.mem_cons_self).imp ?_⟩
    rintro b s ⟨rfl, rfl⟩
    refine ⟨fun hb => we_var.mpr ⟨_, List.getElem?_set_self hj, ?_⟩, fun hb => ?_⟩
    · refine wc_filter hj xs (fun y hy => h y (List.mem_cons_of_mem _ hy)) ?_
      rw [List.filter_cons_of_pos hb] at q
      exact q
    · refine wc_filter hj xs (fun y hy => h y (List.mem_cons_of_mem _ hy)) ?_
      rw [List.filter_cons_of_neg (by simp [hb])] at q
      exact q
/-- .. of one that maps -/
theorem wc_map {j : Nat} {e : EvT} {fm : T → T} {env : En} {st : Store} : ∀ (xs : List T) {Q : List T → Store → Prop},
    (∀ x ∈ xs, WE e (env.set j (.fr x)) st fun t s => t = fm x ∧ s = st) → Q (xs.map fm) st → WC (.name j) tYes e env xs st Q
  | [], Q, _, q => wc_nil.mpr q
  | x :: xs, Q, h, q => by
    refine wc_cons.mpr ⟨_, rfl, we_pure.mpr ⟨fun _ => ?_, fun z => Bool.noConfusion z⟩⟩
    refine (h x List.mem_cons_self).imp ?_
    rintro t s ⟨rfl, rfl⟩
    exact wc_map xs (fun y hy => h y (List.mem_cons_of_mem _ hy)) q
theorem first_range {pr : T → Bool} : ∀ {n : Nat} {lo : Int} {t : T} {r : List T}, (rangeL lo n).filter pr = t :: r → ∃ i : Int, t = .int i ∧ lo ≤ i ∧ i < lo + n ∧ pr (.int i) = true ∧ ∀ j : Int, lo ≤ j → j < i → pr (.int j) = false
  | 0, lo, t, r, h => by cases h
  | n + 1, lo, t, r, h => by
    have e : rangeL lo (n + 1) = .int lo :: rangeL (lo + 1) n := rfl
    rw [e] at h
    by_cases hp : pr (.int lo) = true
    · rw [List.filter_cons_of_pos hp] at h
      injection h with h1 h2
      exact ⟨lo, h1.symm, by omega, by omega, hp, fun j h1 h2 => by omega⟩
    · rw [List.filter_cons_of_neg hp] at h
      obtain ⟨i, h1, h2, h3, h4, h5⟩ := first_range h
      refine ⟨i, h1, by omega, by omega, h4, fun j h6 h7 => ?_⟩
      by_cases hj : j = lo
      · subst hj; simpa using hp
      · exact h5 j (by omega) h7
/-- [pull(size) for _ in range(n)] -/
theorem wc_pulls {n N : Nat} {size : Int} {pf : FnD} {env : En} {st : Store} {i j : Nat} {Q : List T → Store → Prop} (hp : pf = runFn 2 4 S_pull) (h : Bg n N st) (h0 : 0 < size) (h1 : size < 2 ^ 200) (hi : env[i]? = some (.fr (.obj n))) (hij : i ≠ j)
    (xs : List T) (hN : N + xs.length < 2 ^ 60) (q : ∀ (ys : List Int) st', ys.length = xs.length → (∀ y ∈ ys, 0 ≤ y ∧ y < size) → Bg n (N + xs.length) st' → Q (il ys) st') :
    WC (.name j) tYes (callP pf [var i, con (.int size)]) env xs st Q := by
  subst hp
  induction xs generalizing N st Q with
  | nil => exact wc_nil.mpr (q [] st rfl (fun y hy => by cases hy) h)
  | cons x xs ih =>
    refine wc_cons.mpr ⟨_, rfl, we_pure.mpr ⟨fun _ => ?_, fun z => Bool.noConfusion z⟩⟩
    have v : (env.set j (.fr x))[i]? = some (.fr (.obj n)) := by rw [List.getElem?_set_ne (Ne.symm hij), hi]
    have hl : (x :: xs).length = xs.length + 1 := rfl
    refine we_callP.mpr (we_cons.mpr (we_var.mpr ⟨_, v, we_cons.mpr (we_con.mpr (we_nil.mpr ?_))⟩))
    refine wn_pull h h0 h1 (by omega) fun r st' r0 r1 hb' => ih hb' (by omega) fun ys st2 hy hr hb2 => ?_
    refine q (r :: ys) st2 (by rw [List.length_cons, hy, hl]) (fun y hy => ?_) (hb2.up (by omega))
    rcases List.mem_cons.mp hy with rfl | hy
    · exact ⟨r0, r1⟩
    · exact hr y hy
/-- a comprehension that draws numbers -/
theorem wc_bag {n N K : Nat} {P : Int → Prop} {e : EvT} {env : En} {st : Store} {j : Nat} {Q : List T → Store → Prop} (h : Bg n N st)
    (xs : List T) (hN : N + K * xs.length < 2 ^ 60) (he : ∀ x M s, Bg n M s → M + K < 2 ^ 60 → WE e (env.set j (.fr x)) s fun t s' => ∃ r : Int, t = .int r ∧ P r ∧ Bg n (M + K) s')
    (q : ∀ (ys : List Int) st', ys.length = xs.length → (∀ y ∈ ys, P y) → Bg n (N + K * xs.length) st' → Q (il ys) st') :
    WC (.name j) tYes e env xs st Q := by
  induction xs generalizing N st Q with
  | nil => exact wc_nil.mpr (q [] st rfl (fun y hy => by cases hy) h)
  | cons x xs ih =>
    refine wc_cons.mpr ⟨_, rfl, we_pure.mpr ⟨fun _ => ?_, fun z => Bool.noConfusion z⟩⟩
    have hl : (x :: xs).length = xs.length + 1 := rfl
    rw [hl, Nat.mul_add] at hN
    refine (he x N st h (by omega)).imp ?_
    rintro t st' ⟨r, rfl, hr0, hb'⟩
    refine ih hb' (by omega) fun ys st2 hy hr hb2 => ?_
    refine q (r :: ys) st2 (by rw [List.length_cons, hy, hl]) (fun y hy => ?_) (hb2.up (by rw [hl, Nat.mul_add]; omega))
    rcases List.mem_cons.mp hy with rfl | hy
    · exact hr0
    · exact hr y hy
theorem len_tup {st : Store} {xs : List Int} : lenT st (.tup (il xs)) = some (.int xs.length) := by
  show some (T.int (il xs).length) = _
  rw [il_len]
theorem len_lst {st : Store} {xs : List Int} : lenT st (.lst (il xs)) = some (.int xs.length) := by
  show some (T.int (il xs).length) = _
  rw [il_len]
/-- a test that is decided -/
theorem dec_split {p : Prop} [Decidable p] {A B : Prop} (h1 : p → A) (h2 : ¬ p → B) : (decide p = true → A) ∧ (decide p = false → B) := ⟨fun h => h1 (of_decide_eq_true h), fun h => h2 (of_decide_eq_false h)⟩
theorem dec_splitN {p : Prop} [Decidable p] {A B : Prop} (h1 : ¬ p → A) (h2 : p → B) : ((!decide p) = true → A) ∧ ((!decide p) = false → B) := ⟨fun h => h1 (by simpa using h), fun h => h2 (by simpa using h)⟩
theorem isCut {st : Store} {x lo hi : T} {P : T → Prop} (h : ∃ z, opCut st x lo hi = some z ∧ P z) : ∃ z, opCut st x lo hi = some z ∧ P z := h
theorem isMul {x y : T} {P : T → Prop} (h : ∃ z, opMul x y = some z ∧ P z) : ∃ z, opMul x y = some z ∧ P z := h
theorem isDiv {x y : T} {P : T → Prop} (h : ∃ z, opDiv x y = some z ∧ P z) : ∃ z, opDiv x y = some z ∧ P z := h
theorem ws_whileStop {c : EvB} {body : EvS} {env : En} {st : Store} {Q : Fl → En → Store → Prop} (h : WE c env st fun b s => b = false ∧ Q .nx env s) : WS (sWhile c body) env st Q := by
  obtain ⟨b, s, e, rfl, q⟩ := h
  refine ⟨.nx, env, s, ?_, q⟩
  show whileL c body (999999 + 1) env st = _
  unfold whileL
  rw [e]
end Mp


set_option Elab.async false
set_option linter.all false
set_option maxHeartbeats 1000000
/-! rounds: periods, least rows -/
namespace K09
open PySem Mp
theorem flat_get (x : List Int) : ∀ (m k : Nat), ((List.replicate m x).flatten)[k]? = if k < m * x.length then x[k % x.length]? else none
  | 0, k => by simp
  | m + 1, k => by
    rw [List.replicate_succ, List.flatten_cons]
    by_cases h : k < x.length
    · rw [List.getElem?_append_left h, Nat.mod_eq_of_lt h, if_pos (by rw [Nat.add_mul]; omega)]
    · rw [List.getElem?_append_right (by omega), flat_get x m]
      have e : (k - x.length) % x.length = k % x.length := (Nat.mod_eq_sub_mod (by omega)).symm
      have e2 : (m + 1) * x.length = m * x.length + x.length := by rw [Nat.add_mul, Nat.one_mul]
      rw [e, e2]
      by_cases h2 : k < m * x.length + x.length
      · rw [if_pos h2, if_pos (by omega)]
      · rw [if_neg h2, if_neg (by omega)]
def Good (a : List Int) (s : Nat) : Prop := 0 < s ∧ a.length % s = 0 ∧ (List.replicate (a.length / s) (a.take s)).flatten = a
theorem good_iff {a : List Int} {s : Nat} : Good a s ↔ 0 < s ∧ a.length % s = 0 ∧ ∀ k, k < a.length → a[k]? = a[k % s]? := by
  constructor
  · rintro ⟨h0, h1, h2⟩
    refine ⟨h0, h1, fun k hk => ?_⟩
    have hs : s ≤ a.length := Nat.le_of_dvd (by omega) (Nat.dvd_of_mod_eq_zero h1)
    have hl : (a.take s).length = s := by rw [List.length_take]; omega
    have hm : a.length / s * s = a.length := Nat.div_mul_cancel (Nat.dvd_of_mod_eq_zero h1)
    have := flat_get (a.take s) (a.length / s) k
    rw [h2, hl, hm, if_pos hk, List.getElem?_take_of_lt (Nat.mod_lt _ h0)] at this
    exact this
  · rintro ⟨h0, h1, h2⟩
    refine ⟨h0, h1, ?_⟩
    apply List.ext_getElem?
    intro k
    rw [flat_get]
    have hm : a.length / s * s = a.length := Nat.div_mul_cancel (Nat.dvd_of_mod_eq_zero h1)
    by_cases ha : a.length = 0
    · rw [ha]; simp [ha]
    · have hs : s ≤ a.length := Nat.le_of_dvd (by omega) (Nat.dvd_of_mod_eq_zero h1)
      have hl : (a.take s).length = s := by rw [List.length_take]; omega
      rw [hl, hm]
      by_cases hk : k < a.length
      · rw [if_pos hk, List.getElem?_take_of_lt (Nat.mod_lt _ h0), h2 k hk]
      · rw [if_neg hk, List.getElem?_eq_none (by omega)]
theorem good_all {a : List Int} (h : a ≠ []) : Good a a.length := by
  have hl : 0 < a.length := List.length_pos_iff.mpr h
  rw [good_iff]
  exact ⟨hl, Nat.mod_self _, fun k hk => by rw [Nat.mod_eq_of_lt hk]⟩
structure IsPer (a : List Int) (p : Nat) : Prop where
  g : Good a p
  m : ∀ s, s < p → ¬ Good a s
theorem IsPer.uniq {a : List Int} {p q : Nat} (h : IsPer a p) (h' : IsPer a q) : p = q := by
  rcases Nat.lt_trichotomy p q with l | l | l
  · exact absurd h.g (h'.m p l)
  · exact l
  · exact absurd h'.g (h.m q l)
theorem IsPer.pos {a : List Int} {p : Nat} (h : IsPer a p) : 0 < p := h.g.1
theorem IsPer.le {a : List Int} {p : Nat} (h : IsPer a p) (ha : a ≠ []) : p ≤ a.length := Nat.le_of_dvd (List.length_pos_iff.mpr ha) (Nat.dvd_of_mod_eq_zero h.g.2.1)
/-- the note at a depth -/
def seen (lead turn : List Int) (i : Nat) : Int := if i < lead.length then lead.getD i 0 else turn.getD ((i - lead.length) % turn.length) 0
structure IsB (lead turn : List Int) (p b : Nat) : Prop where
  l : b ≤ lead.length
  e : ∀ j, b ≤ j → j < lead.length → seen lead turn j = seen lead turn (j + p)
  n : b = 0 ∨ seen lead turn (b - 1) ≠ seen lead turn (b - 1 + p)
theorem IsB.uniq {lead turn : List Int} {p b c : Nat} (h : IsB lead turn p b) (h' : IsB lead turn p c) : b = c := by
  rcases Nat.lt_trichotomy b c with l | l | l
  · rcases h'.n with n | n
    · omega
    · exact absurd (h.e (c - 1) (by omega) (by have := h'.l; omega)) n
  · exact l
  · rcases h.n with n | n
    · omega
    · exact absurd (h'.e (b - 1) (by omega) (by have := h.l; omega)) n
def told (lead turn : List Int) (p b : Nat) : List Int := (List.range p).map fun k => seen lead turn (b + k)
theorem told_len {lead turn : List Int} {p b : Nat} : (told lead turn p b).length = p := by simp [told]
def LR (lead turn A B : List Int) : Prop := (turn = [] ∧ A = lead ∧ B = []) ∨ (turn ≠ [] ∧ ∃ p b, IsPer turn p ∧ IsB lead turn p b ∧ A = lead.take b ∧ B = told lead turn p b)
theorem LR.uniq {lead turn A B A' B' : List Int} (h : LR lead turn A B) (h' : LR lead turn A' B') : A = A' ∧ B = B' := by
  rcases h with ⟨e, rfl, rfl⟩ | ⟨e, p, b, h1, h2, rfl, rfl⟩ <;> rcases h' with ⟨e', rfl, rfl⟩ | ⟨e', p', b', h1', h2', rfl, rfl⟩
  · exact ⟨rfl, rfl⟩
  · exact absurd e e'
  · exact absurd e' e
  · have := h1.uniq h1'
    subst this
    have := h2.uniq h2'
    subst this
    exact ⟨rfl, rfl⟩
theorem getD_of {a : List Int} {k : Nat} (h : k < a.length) : a.getD k 0 = a[k] := by simp [h]
theorem getD_good {a : List Int} {s k : Nat} (h : Good a s) (hk : k < a.length) : a.getD k 0 = a.getD (k % s) 0 := by
  have := (good_iff.mp h).2.2 k hk
  simp only [List.getD_eq_getElem?_getD, this]
theorem good_of_getD {a : List Int} {s : Nat} (h0 : 0 < s) (h1 : a.length % s = 0) (h : ∀ k, k < a.length → a.getD k 0 = a.getD (k % s) 0) : Good a s := by
  refine good_iff.mpr ⟨h0, h1, fun k hk => ?_⟩
  have hs : s ≤ a.length := Nat.le_of_dvd (by omega) (Nat.dvd_of_mod_eq_zero h1)
  have h3 : k % s < a.length := Nat.lt_of_lt_of_le (Nat.mod_lt _ h0) hs
  have := h k hk
  rw [getD_of hk, getD_of h3] at this
  rw [List.getElem?_eq_getElem hk, List.getElem?_eq_getElem h3, this]
theorem seen_far {lead turn : List Int} {i : Nat} (h : lead.length ≤ i) : seen lead turn i = turn.getD ((i - lead.length) % turn.length) 0 := if_neg (by omega)
theorem seen_near {lead turn : List Int} {i : Nat} (h : i < lead.length) : seen lead turn i = lead.getD i 0 := if_pos h
/-- far out the notes come again -/
theorem seen_per {lead turn : List Int} {p b : Nat} (h1 : Good turn p) (ht : turn ≠ []) (h2 : IsB lead turn p b) {i : Nat} (hi : b ≤ i) : seen lead turn (i + p) = seen lead turn i := by
  have hl : 0 < turn.length := List.length_pos_iff.mpr ht
  by_cases h : i < lead.length
  · exact (h2.e i hi h).symm
  · rw [seen_far (by omega), seen_far (by omega)]
    rw [getD_good h1 (Nat.mod_lt _ hl), getD_good h1 (Nat.mod_lt (i - lead.length) hl)]
    rw [Nat.mod_mod_of_dvd _ (Nat.dvd_of_mod_eq_zero h1.2.1), Nat.mod_mod_of_dvd _ (Nat.dvd_of_mod_eq_zero h1.2.1)]
    have : i + p - lead.length = i - lead.length + p := by omega
    rw [this, Nat.add_mod_right]
theorem seen_mod {lead turn : List Int} {p b : Nat} (h1 : Good turn p) (ht : turn ≠ []) (h2 : IsB lead turn p b) : ∀ (m k : Nat), seen lead turn (b + (k + p * m)) = seen lead turn (b + k)
  | 0, k => by simp
  | m + 1, k => by
    have e : b + (k + p * (m + 1)) = b + (k + p * m) + p := by rw [Nat.mul_add]; omega
    rw [e, seen_per h1 ht h2 (by omega), seen_mod h1 ht h2 m k]
theorem told_get {lead turn : List Int} {p b k : Nat} (h : k < p) : (told lead turn p b).getD k 0 = seen lead turn (b + k) := by
  simp [told, h]
theorem seen_told {lead turn : List Int} {p b : Nat} (h1 : Good turn p) (ht : turn ≠ []) (h2 : IsB lead turn p b) (k : Nat) : seen lead turn (b + k) = (told lead turn p b).getD (k % p) 0 := by
  rw [told_get (Nat.mod_lt _ h1.1)]
  have := seen_mod h1 ht h2 (k / p) (k % p)
  rw [Nat.mod_add_div] at this
  exact this
theorem per_told {lead turn : List Int} {p b : Nat} (h1 : IsPer turn p) (ht : turn ≠ []) (h2 : IsB lead turn p b) : IsPer (told lead turn p b) p := by
  have hl : 0 < turn.length := List.length_pos_iff.mpr ht
  refine ⟨?_, fun s hs hg => ?_⟩
  · have := good_all (a := told lead turn p b) (by
      intro e
      have : (told lead turn p b).length = 0 := by rw [e]; rfl
      rw [told_len] at this
      have := h1.pos
      omega)
    rw [told_len] at this
    exact this
  · refine h1.m s hs ?_
    have hs0 := hg.1
    have hsp : p % s = 0 := by have := hg.2.1; rw [told_len] at this; exact this
    have dsp : s ∣ p := Nat.dvd_of_mod_eq_zero hsp
    have dpn : p ∣ turn.length := Nat.dvd_of_mod_eq_zero h1.g.2.1
    refine good_of_getD hs0 (Nat.mod_eq_zero_of_dvd (Nat.dvd_trans dsp dpn)) fun k hk => ?_
    have key : ∀ j, seen lead turn (b + j) = (told lead turn p b).getD (j % s) 0 := fun j => by
      rw [seen_told h1.g ht h2 j, getD_good hg (by rw [told_len]; exact Nat.mod_lt _ h1.pos), Nat.mod_mod_of_dvd _ dsp]
    have far : ∀ j, j < turn.length → turn.getD j 0 = seen lead turn (lead.length + j) := fun j hj => by
      rw [seen_far (by omega)]
      have : lead.length + j - lead.length = j := by omega
      rw [this, Nat.mod_eq_of_lt hj]
    have hsn : s ≤ turn.length := Nat.le_of_dvd hl (Nat.dvd_trans dsp dpn)
    rw [far k hk, far (k % s) (Nat.lt_of_lt_of_le (Nat.mod_lt _ hs0) hsn)]
    have hb := h2.l
    have e1 : lead.length + k = b + (lead.length - b + k) := by omega
    have e2 : lead.length + k % s = b + (lead.length - b + k % s) := by omega
    rw [e1, e2, key, key, Nat.add_mod_mod]
theorem LR.idem {lead turn A B A' B' : List Int} (h : LR lead turn A B) (h' : LR A B A' B') : A' = A ∧ B' = B := by
  rcases h with ⟨e, rfl, rfl⟩ | ⟨e, p, b, h1, h2, rfl, rfl⟩
  · rcases h' with ⟨_, rfl, rfl⟩ | ⟨e', _⟩
    · exact ⟨rfl, rfl⟩
    · exact absurd rfl e'
  · rcases h' with ⟨e', _⟩ | ⟨e', p', b', h1', h2', rfl, rfl⟩
    · have : (told lead turn p b).length = 0 := by rw [e']; rfl
      rw [told_len] at this
      have := h1.pos
      omega
    · have := (per_told h1 e h2).uniq h1'
      subst this
      have hl : (lead.take b).length = b := by rw [List.length_take]; have := h2.l; omega
      have hb : IsB (lead.take b) (told lead turn p b) p b := by
        refine ⟨by omega, fun j h3 h4 => by omega, ?_⟩
        rcases h2.n with n | n
        · exact .inl n
        · by_cases b0 : b = 0
          · exact .inl b0
          · right
            have hp := h1.pos
            rw [seen_near (by omega), seen_far (by omega)]
            have e1 : (lead.take b).getD (b - 1) 0 = seen lead turn (b - 1) := by
              rw [seen_near (by have := h2.l; omega)]
              simp only [List.getD_eq_getElem?_getD]
              rw [List.getElem?_take_of_lt (by omega)]
            have e2 : (b - 1 + p - (lead.take b).length) % (told lead turn p b).length = p - 1 := by
              rw [hl, told_len]
              have : b - 1 + p - b = p - 1 := by omega
              rw [this, Nat.mod_eq_of_lt (by omega)]
            rw [e1, e2, told_get (by omega)]
            have : b + (p - 1) = b - 1 + p := by omega
            rw [this]
            exact n
      have := hb.uniq h2'
      subst this
      refine ⟨List.take_of_length_le (by omega), ?_⟩
      apply List.ext_getElem?
      intro k
      by_cases hk : k < p
      · have e1 : (told (lead.take b) (told lead turn p b) p b)[k]? = some (seen (lead.take b) (told lead turn p b) (b + k)) := by simp [told, hk]
        have e2 : (told lead turn p b)[k]? = some (seen lead turn (b + k)) := by simp [told, hk]
        rw [e1, e2, seen_far (by omega), hl, told_len]
        have : b + k - b = k := by omega
        rw [this, Nat.mod_eq_of_lt hk, told_get hk]
      · rw [List.getElem?_eq_none (by rw [told_len]; omega), List.getElem?_eq_none (by rw [told_len]; omega)]
end K09


set_option Elab.async false
set_option linter.all false
set_option maxRecDepth 100000
set_option maxHeartbeats 4000000
namespace K09
open PySem PySem.Spec PyProof.Rows L2 Mp
/-! ### the text's tables -/
def top (i : Nat) : Stmt := PySem.Challenge.pw_tearboard_k09_rows_with_the_shortest_rou.main.body.getD i (.Pass ⟨0, 0, 0, 0⟩)
def consts : List (Str × T) := [("MOST_LEAD", (.int 400)), ("MOST_ROUND", (.int 12))]
def G0 : Genv := ⟨consts, []⟩
def c_shortest : Cfg := ⟨["turn", "size"], (defScope (top 3)).names, [], [], ["turn", "size"], false, 1, G0⟩
def e_shortest : FnE := ⟨["turn"], runFn 1 2 (dSs c_shortest 60 (defBody (top 3))), false, 1⟩
def G_shortest : Genv := ⟨consts, ("shortest", e_shortest) :: G0.fns⟩
def c_least_row : Cfg := ⟨["lead", "turn", "ahead", "again"], (defScope (top 4)).names, [], [], ["lead", "turn", "ahead", "again"], false, 2, G_shortest⟩
def e_least_row : FnE := ⟨["lead", "turn"], runFn 2 4 (dSs c_least_row 60 (defBody (top 4))), false, 2⟩
def G_least_row : Genv := ⟨consts, ("least_row", e_least_row) :: G_shortest.fns⟩
def c_bag : Cfg := ⟨["_law_script"], (defScope (top 6)).names, [], [], ["_law_script"], true, 1, G_least_row⟩
def e_bag : FnE := ⟨["_law_script"], runFn 1 1 (dSs c_bag 60 (defBody (top 6))), true, 1⟩
def G_bag : Genv := ⟨consts, ("_law_bag", e_bag) :: G_least_row.fns⟩
def c_pull : Cfg := ⟨["_law_bag_here", "_law_size", "_law_got", "_law_cell"], (defScope (top 7)).names, [], [], ["_law_bag_here", "_law_size", "_law_got", "_law_cell"], false, 1, G_bag⟩
def e_pull : FnE := ⟨["_law_bag_here", "_law_size"], runFn 2 4 (dSs c_pull 60 (defBody (top 7))), false, 1⟩
def G_pull : Genv := ⟨consts, ("_law_pull", e_pull) :: G_bag.fns⟩
def c_of : Cfg := ⟨["_law_bag_here", "_law_things"], (defScope (top 8)).names, [], [], ["_law_bag_here", "_law_things"], false, 2, G_pull⟩
def e_of : FnE := ⟨["_law_bag_here", "_law_things"], runFn 2 2 (dSs c_of 60 (defBody (top 8))), false, 2⟩
def G_of : Genv := ⟨consts, ("_law_of", e_of) :: G_pull.fns⟩
def f_like : Nat → FnD
  | 0 => fun _ _ => .bad
  | n + 1 => runFn 2 3 (dSs ⟨["_law_one", "_law_due", "_law_at"], (defScope (top 9)).names, [], [], ["_law_one", "_law_due", "_law_at"], false, 0 + n + 1, ⟨consts, ("_law_like", ⟨["_law_one", "_law_due"], f_like n, false, 0 + n⟩) :: G_of.fns⟩⟩ 60 (defBody (top 9)))
def c_like (n : Nat) : Cfg := ⟨["_law_one", "_law_due", "_law_at"], (defScope (top 9)).names, [], [], ["_law_one", "_law_due", "_law_at"], false, 0 + n + 1, ⟨consts, ("_law_like", ⟨["_law_one", "_law_due"], f_like n, false, 0 + n⟩) :: G_of.fns⟩⟩
def e_like : FnE := ⟨["_law_one", "_law_due"], f_like 13, false, 0 + 13⟩
def G_like : Genv := ⟨consts, ("_law_like", e_like) :: G_of.fns⟩
def c_seen : Cfg := ⟨["_law_row", "_law_depth", "_law_lead", "_law_turn"], (defScope (top 10)).names, [], [], ["_law_row", "_law_depth", "_law_lead", "_law_turn"], false, 1, G_like⟩
def e_seen : FnE := ⟨["_law_row", "_law_depth"], runFn 2 4 (dSs c_seen 60 (defBody (top 10))), false, 1⟩
def G_seen : Genv := ⟨consts, ("_law_seen", e_seen) :: G_like.fns⟩
def c_least : Cfg := ⟨["_law_row", "_law_lead", "_law_turn", "_law_sizes", "_law_period", "_law_begin", "_law_size", "_law_k"], (defScope (top 11)).names, [], [], ["_law_row", "_law_lead", "_law_turn", "_law_sizes", "_law_period", "_law_begin", "_law_size", "_law_k"], false, 2, G_seen⟩
def e_least : FnE := ⟨["_law_row"], runFn 1 8 (dSs c_least 60 (defBody (top 11))), false, 2⟩
def G_least : Genv := ⟨consts, ("_law_least", e_least) :: G_seen.fns⟩
def c_law : Cfg := ⟨["_law_script", "_law_bag_here", "_law_turn", "_law_lead", "_law_again", "_law_handed", "_law_told", "_law_found", "_law_k"], (defScope (top 12)).names, [], [1], ["_law_script", "_law_bag_here", "_law_turn", "_law_lead", "_law_again", "_law_handed", "_law_told", "_law_found", "_law_k"], false, 14, G_least⟩
def e_law : FnE := ⟨["_law_script"], runFn 1 9 (dSs c_law 60 (defBody (top 12))), false, 14⟩
def G_law : Genv := ⟨consts, ("law", e_law) :: G_least.fns⟩
end K09


set_option Elab.async false
set_option linter.all false
set_option maxRecDepth 100000
set_option maxHeartbeats 4000000
namespace K09
open PySem PySem.Spec PyProof.Rows L2 Mp
def m_shortest : EvS := sSeq (sFor (itRng2 (con (.int 1)) (ev2 opAdd (ev1S lenT (var 0)) (con (.int 1)))) (.name 1) (sIf (andB (testV (ev2 opEq (ev2 opMod (ev1S lenT (var 0)) (var 1)) (con (.int 0)))) (testV (ev2 opEq (ev2 opMul (ev3S opCut (var 0) (con .non) (Ev.bind (var 1) asPart)) (ev2 opDiv (ev1S lenT (var 0)) (var 1))) (var 0)))) (sRet (ev3S opCut (var 0) (con .non) (Ev.bind (var 1) asPart))) (sNx))) (sRet (var 0))
theorem u_shortest : e_shortest.fn = runFn 1 2 m_shortest := by kernel_rfl
def m_least_row : EvS := sSeq (sPar [2, 3] [ev1S tupleT (var 0), callP e_shortest.fn [ev1S tupleT (var 1)]]) (sSeq (sWhile (andB (testV (ev2 opNe (var 3) (evN mkTup []))) (andB (testV (ev2 opNe (var 2) (evN mkTup []))) (testV (ev2 opEq (ev2S opIx (var 2) (ev1 opNeg (con (.int 1)))) (ev2S opIx (var 3) (ev1 opNeg (con (.int 1)))))))) (sPar [2, 3] [ev3S opCut (var 2) (con .non) (Ev.bind (ev1 opNeg (con (.int 1))) asPart), ev2 opAdd (ev3S opCut (var 3) (Ev.bind (ev1 opNeg (con (.int 1))) asPart) (con .non)) (ev3S opCut (var 3) (con .non) (Ev.bind (ev1 opNeg (con (.int 1))) asPart))])) (sRet (evN mkTup [var 2, var 3])))
theorem u_least_row : e_least_row.fn = runFn 2 4 m_least_row := by kernel_rfl
def m_bag : EvS := sRet (evN mkLst [ev1S listT (ev3S opCut (var 0) (con .non) (Ev.bind (con (.int 63)) asPart)), con (.int 0), con (.int 0), ev2 opAdd (con (.int 9463)) (ev1S lenT (ev3S opCut (var 0) (con .non) (Ev.bind (con (.int 63)) asPart)))])
theorem u_bag : e_bag.fn = runFn 1 1 m_bag := by kernel_rfl
def m_pull : EvS := sSeq (sIf (testV (ev2 opGe (ev2S opIx (var 0) (con (.int 2))) (var 1))) (sSeq (sAsg (.name 2) (ev2 opMod (ev2S opIx (var 0) (con (.int 2))) (var 1))) (sSeq (sIx (ev2 opDiv (ev2S opIx (var 0) (con (.int 2))) (var 1)) (var 0) (con (.int 2))) (sRet (var 2)))) (sNx)) (sSeq (sAsg (.name 3) (con (.int 0))) (sSeq (sIf (testV (ev2 opLt (ev2S opIx (var 0) (con (.int 1))) (ev1S lenT (ev2S opIx (var 0) (con (.int 0)))))) (sAsg (.name 3) (ev2S opIx (ev2S opIx (var 0) (con (.int 0))) (ev2S opIx (var 0) (con (.int 1))))) (sNx)) (sSeq (sIx (ev2 opAdd (ev2S opIx (var 0) (con (.int 1))) (con (.int 1))) (var 0) (con (.int 1))) (sSeq (sIf (testV (ev2 opGe (var 3) (ev2 opPow (con (.int 10)) (con (.int 18))))) (sSeq (sIx (ev2 opDiv (var 3) (var 1)) (var 0) (con (.int 2))) (sRet (ev2 opMod (var 3) (var 1)))) (sNx)) (sSeq (sIx (ev2 opMod (ev2 opAdd (ev2 opAdd (ev2 opAdd (ev2 opPow (ev2S opIx (var 0) (con (.int 3))) (con (.int 5))) (ev2 opMul (con (.int 69069)) (ev2S opIx (var 0) (con (.int 1))))) (ev2 opMod (var 3) (con (.int 1000003)))) (con (.int 7))) (con (.int 2147483629))) (var 0) (con (.int 3))) (sRet (ev2 opMod (ev2 opAdd (ev2 opDiv (ev2S opIx (var 0) (con (.int 3))) (con (.int 9))) (var 3)) (var 1))))))))
theorem u_pull : e_pull.fn = runFn 2 4 m_pull := by kernel_rfl
def m_of : EvS := sRet (ev2S opIx (var 1) (callP e_pull.fn [var 0, ev1S lenT (var 1)]))
theorem u_of : e_of.fn = runFn 2 2 m_of := by kernel_rfl
def m_like (n : Nat) : EvS := sSeq (sIf (testV (ev1S (isKind ["tuple", "list"]) (var 1))) (sSeq (sIf (testV (ev2 opNe (ev1S (isKind ["tuple"]) (var 0)) (ev1S (isKind ["tuple"]) (var 1)))) (sRet (con (.bl false))) (sNx)) (sSeq (sIf (orB (Mp.notT (testV (ev1S (isKind ["tuple", "list"]) (var 0)))) (testV (ev2 opNe (ev1S lenT (var 0)) (ev1S lenT (var 1))))) (sRet (con (.bl false))) (sNx)) (sRet (ev1 allT (comp1 [2] (itRng1 (ev1S lenT (var 1))) (.name 2) tYes (callP (f_like n) [ev2S opIx (var 0) (var 2), ev2S opIx (var 1) (var 2)])))))) (sNx)) (sSeq (sIf (testV (ev1S (isKind ["bool"]) (var 1))) (sRet (andV (ev1S (isKind ["bool"]) (var 0)) (ev2 opEq (var 0) (var 1)))) (sNx)) (sSeq (sIf (testV (ev1S (isKind ["int"]) (var 1))) (sRet (andV (ev1S (isKind ["int"]) (var 0)) (andV (notV (ev1S (isKind ["bool"]) (var 0))) (ev2 opEq (var 0) (var 1))))) (sNx)) (sSeq (sIf (testV (ev1S (isKind ["str"]) (var 1))) (sRet (andV (ev1S (isKind ["str"]) (var 0)) (ev2 opEq (var 0) (var 1)))) (sNx)) (sRet (andV (ev2 opIsN (var 1) (con .non)) (ev2 opIsN (var 0) (con .non)))))))

theorem u_like_0 : f_like (0 + 1) = runFn 2 3 (m_like 0) := by kernel_rfl
theorem u_like_1 : f_like (1 + 1) = runFn 2 3 (m_like 1) := by kernel_rfl
theorem u_like_2 : f_like (2 + 1) = runFn 2 3 (m_like 2) := by kernel_rfl
theorem u_like_3 : f_like (3 + 1) = runFn 2 3 (m_like 3) := by kernel_rfl
theorem u_like_4 : f_like (4 + 1) = runFn 2 3 (m_like 4) := by kernel_rfl
theorem u_like_5 : f_like (5 + 1) = runFn 2 3 (m_like 5) := by kernel_rfl
theorem u_like_6 : f_like (6 + 1) = runFn 2 3 (m_like 6) := by kernel_rfl
theorem u_like_7 : f_like (7 + 1) = runFn 2 3 (m_like 7) := by kernel_rfl
theorem u_like_8 : f_like (8 + 1) = runFn 2 3 (m_like 8) := by kernel_rfl
theorem u_like_9 : f_like (9 + 1) = runFn 2 3 (m_like 9) := by kernel_rfl
theorem u_like_10 : f_like (10 + 1) = runFn 2 3 (m_like 10) := by kernel_rfl
theorem u_like_11 : f_like (11 + 1) = runFn 2 3 (m_like 11) := by kernel_rfl
theorem u_like_12 : f_like (12 + 1) = runFn 2 3 (m_like 12) := by kernel_rfl
theorem u_like : ∀ n, n < 13 → f_like (n + 1) = runFn 2 3 (m_like n)
  | 0, _ => u_like_0
  | 1, _ => u_like_1
  | 2, _ => u_like_2
  | 3, _ => u_like_3
  | 4, _ => u_like_4
  | 5, _ => u_like_5
  | 6, _ => u_like_6
  | 7, _ => u_like_7
  | 8, _ => u_like_8
  | 9, _ => u_like_9
  | 10, _ => u_like_10
  | 11, _ => u_like_11
  | 12, _ => u_like_12
  | n + 13, h => absurd h (by omega)
def m_seen : EvS := sSeq (sAsg (.tup [(.name 2), (.name 3)]) (var 0)) (sSeq (sIf (testV (chain opLe opLt (con (.int 0)) (var 1) (ev1S lenT (var 2)))) (sRet (ev2S opIx (var 2) (var 1))) (sNx)) (sSeq (sIf (orB (testV (ev2 opLt (var 1) (con (.int 0)))) (testV (ev2 opEq (var 3) (evN mkLst [])))) (sRet (con .non)) (sNx)) (sRet (ev2S opIx (var 3) (ev2 opMod (ev2 opSub (var 1) (ev1S lenT (var 2))) (ev1S lenT (var 3)))))))
theorem u_seen : e_seen.fn = runFn 2 4 m_seen := by kernel_rfl
def m_least : EvS := sSeq (sAsg (.tup [(.name 1), (.name 2)]) (var 0)) (sSeq (sIf (testV (ev2 opEq (var 2) (evN mkLst []))) (sRet (evN mkTup [ev1S tupleT (var 1), evN mkTup []])) (sNx)) (sSeq (sAsg (.name 3) (comp1 [6] (itRng2 (con (.int 1)) (ev2 opAdd (ev1S lenT (var 2)) (con (.int 1)))) (.name 6) (testV (ev2 opEq (ev2 opMod (ev1S lenT (var 2)) (var 6)) (con (.int 0)))) (var 6))) (sSeq (sAsg (.name 4) (ev2S opIx (comp1 [6] (itSeq (var 3)) (.name 6) (testV (ev2 opEq (ev2 opMul (ev3S opCut (var 2) (con .non) (Ev.bind (var 6) asPart)) (ev2 opDiv (ev1S lenT (var 2)) (var 6))) (var 2))) (var 6)) (con (.int 0)))) (sSeq (sAsg (.name 5) (ev1S lenT (var 1))) (sSeq (sWhile (andB (testV (ev2 opGt (var 5) (con (.int 0)))) (testV (ev2 opEq (ev2S opIx (var 1) (ev2 opSub (var 5) (con (.int 1)))) (callP e_seen.fn [var 0, ev2 opAdd (ev2 opSub (var 5) (con (.int 1))) (var 4)])))) (sAsg (.name 5) (ev2 opSub (var 5) (con (.int 1))))) (sRet (evN mkTup [ev1S tupleT (ev3S opCut (var 1) (con .non) (Ev.bind (var 5) asPart)), ev1S tupleT (comp1 [7] (itRng1 (var 4)) (.name 7) tYes (callP e_seen.fn [var 0, ev2 opAdd (var 5) (var 7)]))])))))))
theorem u_least : e_least.fn = runFn 1 8 m_least := by kernel_rfl
def m_law : EvS := sSeq (sShr 1 (callP e_bag.fn [var 0])) (sSeq (sFor (itRng1 (con (.int 6))) (.name 2) (sSeq (sAsg (.name 3) (comp1 [8] (itRng1 (callP e_of.fn [var 1, evN mkLst [con (.int 0), con (.int 3), con (.int 8), callP e_pull.fn [var 1, con (.int 60)]]])) (.name 8) tYes (callP e_pull.fn [var 1, con (.int 4)]))) (sSeq (sAsg (.name 4) (comp1 [8] (itRng1 (callP e_pull.fn [var 1, con (.int 7)])) (.name 8) tYes (callP e_pull.fn [var 1, callP e_of.fn [var 1, evN mkLst [con (.int 2), con (.int 4)]]]))) (sSeq (sIf (testV (ev2 opEq (callP e_pull.fn [var 1, con (.int 2)]) (con (.int 0)))) (sAsg (.name 4) (ev2 opMul (var 4) (ev2 opAdd (con (.int 1)) (callP e_pull.fn [var 1, con (.int 3)])))) (sNx)) (sSeq (sIf (testV (ev2 opEq (callP e_pull.fn [var 1, con (.int 2)]) (con (.int 0)))) (sSeq (sAsg (.name 3) (ev2 opAdd (var 3) (ev2 opMul (var 4) (callP e_pull.fn [var 1, con (.int 3)])))) (sSeq (sAsg (.name 3) (ev2 opAdd (var 3) (ev3S opCut (var 4) (con .non) (Ev.bind (con (.int 1)) asPart)))) (sAsg (.name 4) (ev2 opAdd (ev3S opCut (var 4) (Ev.bind (con (.int 1)) asPart) (con .non)) (ev3S opCut (var 4) (con .non) (Ev.bind (con (.int 1)) asPart)))))) (sNx)) (sSeq (sAsg (.name 5) (evN mkTup [ev1S listT (var 3), ev1S listT (var 4)])) (sSeq (sAsg (.name 6) (callP e_least_row.fn [ev2S opIx (var 5) (con (.int 0)), ev2S opIx (var 5) (con (.int 1))])) (sSeq (sIf (orB (Mp.notT (testV (callP e_like.fn [var 6, callP e_least.fn [evN mkTup [var 3, var 4]]]))) (testV (ev2 opNe (var 5) (evN mkTup [var 3, var 4])))) (sRet (con (.bl false))) (sNx)) (sIf (Mp.notT (testV (callP e_like.fn [callP e_least_row.fn [ev2S opIx (var 6) (con (.int 0)), ev2S opIx (var 6) (con (.int 1))], var 6]))) (sRet (con (.bl false))) (sNx)))))))))) (sSeq (sAsg (.name 7) (evN mkLst [callP e_least_row.fn [evN mkLst [], evN mkLst []], callP e_least_row.fn [evN mkLst [con (.int 1)], evN mkLst [con (.int 1), con (.int 1)]], con (.int 400), con (.int 12)])) (sRet (callP e_like.fn [var 7, evN mkLst [evN mkTup [evN mkTup [], evN mkTup []], evN mkTup [evN mkTup [], evN mkTup [con (.int 1)]], con (.int 400), con (.int 12)]]))))
theorem u_law : e_law.fn = runFn 1 9 m_law := by kernel_rfl
end K09


set_option Elab.async false
set_option linter.all false
set_option maxRecDepth 100000
set_option maxHeartbeats 1000000
/-! what k09's texts reach -/
namespace K09
open PySem Mp
/-- one step of a text, forwards -/
local macro_rules | `(tactic| fold_depth) => `(tactic| first
  | (with_reducible first
    | refine ws_seq.mpr ?_ | refine ws_if.mpr ?_ | refine ws_ret.mpr ?_ | refine ws_asgN.mpr ?_ | refine ws_asg.mpr ?_ | refine ws_ix.mpr ?_ | refine ws_nx.mpr ?_ | refine ws_par.mpr ?_ | refine ws_for.mpr ?_ | refine ws_shr.mpr ?_ | refine ws_aug.mpr ?_ | refine ws_upd.mpr ?_ | refine ws_own.mpr ?_ | refine ws_frz.mpr ?_ | refine ws_fl.mpr ?_
    | refine we_ev2.mpr ?_ | refine we_ev2S.mpr ?_ | refine we_ev3S.mpr ?_ | refine we_ev1S.mpr ?_ | refine we_ev1.mpr ?_ | refine we_con.mpr ?_ | refine we_testV.mpr ?_
    | refine we_callP.mpr ?_ | refine we_cons.mpr ?_ | refine we_nil.mpr ?_ | refine we_evN.mpr ?_ | refine we_andB.mpr ?_ | refine we_orB.mpr ?_ | refine we_notT.mpr ?_ | refine we_andV.mpr ?_ | refine we_notV.mpr ?_ | refine we_orV.mpr ?_ | refine we_ite.mpr ?_ | refine we_chain.mpr ?_
    | refine we_bind.mpr ?_ | refine we_pure.mpr ?_ | refine we_part.mpr ?_ | refine we_itRng1.mpr ?_ | refine we_itRng2.mpr ?_ | refine we_itSeq.mpr ?_ | refine we_comp1.mpr ?_ | refine we_peek.mpr ?_ | refine we_ownV.mpr ?_ | refine we_var.mpr ?_
    | refine ⟨_, len_tup, ?_⟩ | refine ⟨_, len_lst, ?_⟩ | refine ⟨_, neN, ?_⟩ | refine ⟨_, eqI, ?_⟩ | refine ⟨_, eqB, ?_⟩ | refine ⟨_, eq_int, ?_⟩ | refine ⟨_, ne_int, ?_⟩ | refine ⟨_, eq_tup, ?_⟩ | refine ⟨_, eq_lst, ?_⟩ | refine ⟨_, ne_tup, ?_⟩ | refine ⟨_, ne_lst, ?_⟩)
  | refine ⟨fun (_ : Fl.nx = Fl.nx) => ?_, fun (z : Fl.nx ≠ Fl.nx) => absurd rfl z⟩ | refine ⟨fun (z : Fl.ret _ = Fl.nx) => Fl.noConfusion z, fun _ => ?_⟩ | refine fun (_ : Fl.ret _ ≠ Fl.nx) => ?_
  | refine ⟨fun (_ : true = true) => ?_, fun (z : true = false) => Bool.noConfusion z⟩ | refine ⟨fun (z : false = true) => Bool.noConfusion z, fun (_ : false = false) => ?_⟩
  | (fail_if_success (with_reducible refine isCut ?_)
     fail_if_success (with_reducible refine isMul ?_)
     fail_if_success (with_reducible refine isDiv ?_)
     first | refine ⟨.bl true, rfl, ?_⟩ | refine ⟨.bl false, rfl, ?_⟩ | refine ⟨true, rfl, ?_⟩ | refine ⟨false, rfl, ?_⟩ | refine ⟨_, rfl, ?_⟩))
theorem wn_shortest {a : List Int} {st : Store} (h : a.length ≤ 1000) : WN (runFn 1 2 m_shortest) [.tup (il a)] st fun t st' => st' = st ∧ ((a = [] ∧ t = .tup (il [])) ∨ (a ≠ [] ∧ ∃ p, IsPer a p ∧ t = .tup (il (a.take p)))) := by
  rw [wn_run]
  refine ⟨rfl, ?_⟩
  have e0 : startE 2 [T.tup (il a)] = [.fr (.tup (il a)), .no] := rfl
  rw [e0]
  unfold m_shortest
  repeat fold_depth
  have el : ((il a).length : Int) = (a.length : Int) := by rw [il_len]
  refine ⟨_, _, rfl, rfl, ⟨⟨by omega, by omega⟩, by decide, by decide⟩, ?_⟩
  have en : ((a.length : Int) + 1 - 1).toNat = a.length := by omega
  rw [en]
  refine (ws_forRet (all := rangeL 1 a.length) (fun done e s => s = st ∧ (∃ sl, e = [.fr (.tup (il a)), sl]) ∧ ∀ s : Nat, s ≤ done.length → ¬ Good a s) (fun t s => s = st ∧ a ≠ [] ∧ ∃ p, IsPer a p ∧ t = .tup (il (a.take p))) ?_ _ [] _ _ rfl ⟨rfl, ⟨_, rfl⟩, ?_⟩).imp ?_
  · rintro x done rest env st0 he ⟨rfl, ⟨sl, rfl⟩, hg⟩
    obtain ⟨rfl, hd⟩ := rangeL_at he
    have ex : (1 + (done.length : Int)) = ((done.length + 1 : Nat) : Int) := by omega
    rw [ex]
    generalize hs : done.length + 1 = s
    refine ⟨_, rfl, ?_⟩
    have s0 : (0 : Int) < (s : Int) := by omega
    show WS _ [.fr (.tup (il a)), .fr (.int s)] _ _
    have no : ¬ Good a s → WS sNx [.fr (.tup (il a)), .fr (.int s)] st0 fun fl e s' => (fl = Fl.nx ∧ s' = st0 ∧ (∃ sl, e = [Slot.fr (T.tup (il a)), sl]) ∧ ∀ s' : Nat, s' ≤ (done ++ [T.int (s : Int)]).length → ¬ Good a s') ∨ ∃ t, fl = Fl.ret t ∧ s' = st0 ∧ a ≠ [] ∧ ∃ p, IsPer a p ∧ t = .tup (il (a.take p)) := fun hn => by
      refine ws_nx.mpr (.inl ⟨rfl, rfl, ⟨_, rfl⟩, fun s' hs' => ?_⟩)
      have hs' : s' ≤ done.length + 1 := by simpa using hs'
      by_cases h1 : s' = s
      · subst h1; exact hn
      · exact hg s' (by omega)
    have em : ((a.length : Int) % (s : Int) = 0) ↔ a.length % s = 0 := by omega
    have eq : ((a.length : Int) / (s : Int)) = ((a.length / s : Nat) : Int) := rfl
    have ed : ((a.length : Int) / (s : Int)).toNat = a.length / s := rfl
    repeat fold_depth
    refine ⟨_, opMod_ok s0, ?_⟩
    repeat fold_depth
    refine dec_split (fun hm => ?_) (fun hm => ?_)
    · have hm := em.mp hm
      have hsa : s ≤ a.length := by omega
      repeat fold_depth
      refine ⟨_, (cut_to (by omega) (by omega)).1, ?_⟩
      repeat fold_depth
      refine ⟨_, opDiv_ok s0 (Int.lt_trans (b := 2 ^ 60) (by omega) (by decide +kernel)), ?_⟩
      repeat fold_depth
      have hd2 : a.length / s * s ≤ a.length := Nat.div_mul_le_self _ _
      have et : (s : Int).toNat = s := rfl
      have hdl : a.length / s ≤ a.length := Nat.div_le_self _ _
      refine ⟨_, mul_tup ?_ ?_ ?_, ?_⟩
      · rw [ed, et, List.length_take, Nat.min_eq_left hsa, Nat.mul_comm]; omega
      · rw [eq]; omega
      · rw [eq]; omega
      rw [ed, et]
      repeat fold_depth
      refine dec_split (fun hf => ?_) (fun hf => ?_)
      · have hG : Good a s := ⟨by omega, hm, hf⟩
        repeat fold_depth
        refine ⟨_, (cut_to (by omega) (by omega)).1, ?_⟩
        exact .inr ⟨_, rfl, rfl, (by rintro rfl; simp at hsa; omega), s, ⟨hG, fun s' hs' => hg s' (by omega)⟩, rfl⟩
      · exact no fun hG => hf hG.2.2
    · exact ⟨fun z => Bool.noConfusion z, fun _ => no fun hG => hm (em.mpr hG.2.1)⟩
  · intro s hs hg
    have := hg.1
    simp at hs
    omega
  · rintro fl e s (⟨rfl, rfl, ⟨sl, rfl⟩, hg⟩ | ⟨t, rfl, rfl, ha, p, hp, rfl⟩)
    · rw [len_rangeL] at hg
      refine ⟨fun _ => ?_, fun z => absurd rfl z⟩
      repeat fold_depth
      have : a = [] := Classical.byContradiction fun ha => hg _ (Nat.le_refl _) (good_all ha)
      subst this
      exact ⟨rfl, .inl ⟨rfl, rfl⟩⟩
    · exact ⟨fun z => Fl.noConfusion z, fun _ => ⟨rfl, .inr ⟨ha, p, hp, rfl⟩⟩⟩
theorem told_last {lead turn : List Int} {p b : Nat} (hp : 0 < p) (h : told lead turn p b ≠ []) : (told lead turn p b).getLast h = seen lead turn (b + (p - 1)) := by
  rw [List.getLast_eq_getElem]
  simp [told]
theorem told_ne {lead turn : List Int} {p b : Nat} (hp : 0 < p) : told lead turn p b ≠ [] := by
  intro e
  have : (told lead turn p b).length = 0 := by rw [e]; rfl
  rw [told_len] at this
  omega
theorem told_roll {lead turn : List Int} {p b : Nat} (hp : 0 < p) (hb : 0 < b) (h : seen lead turn (b - 1) = seen lead turn (b + (p - 1))) : [seen lead turn (b + (p - 1))] ++ (told lead turn p b).dropLast = told lead turn p (b - 1) := by
  obtain ⟨q, rfl⟩ : ∃ q, p = q + 1 := ⟨p - 1, by omega⟩
  have e1 : (told lead turn (q + 1) b).dropLast = (List.range q).map fun k => seen lead turn (b + k) := by
    simp [told, List.range_succ]
  have e2 : told lead turn (q + 1) (b - 1) = seen lead turn (b - 1) :: (List.range q).map fun k => seen lead turn (b + k) := by
    unfold told
    rw [List.range_succ_eq_map, List.map_cons, List.map_map]
    congr 1
    apply List.map_congr_left
    intro k _
    show seen lead turn (b - 1 + (k + 1)) = _
    have : b - 1 + (k + 1) = b + k := by omega
    rw [this]
  rw [e1, e2, ← h]; rfl
theorem take_last {lead turn : List Int} {b : Nat} (h : b ≤ lead.length) (h2 : lead.take b ≠ []) : (lead.take b).getLast h2 = seen lead turn (b - 1) := by
  have hb : 0 < b := by
    rcases Nat.eq_zero_or_pos b with rfl | h3
    · exact absurd rfl h2
    · exact h3
  rw [seen_near (by omega), List.getLast_eq_getElem, getD_of (by omega)]
  simp [List.length_take, Nat.min_eq_left h]
theorem take_drop {lead : List Int} {b : Nat} (h : b ≤ lead.length) : (lead.take b).dropLast = lead.take (b - 1) := by
  rw [List.dropLast_eq_take, List.length_take, Nat.min_eq_left h, List.take_take]
  congr 1
  omega
theorem told_all {lead turn : List Int} {p : Nat} (h : IsPer turn p) (ht : turn ≠ []) : turn.take p = told lead turn p lead.length := by
  have hp := h.le ht
  apply List.ext_getElem?
  intro k
  by_cases hk : k < p
  · rw [List.getElem?_take_of_lt hk]
    have : (told lead turn p lead.length)[k]? = some (seen lead turn (lead.length + k)) := by simp [told, hk]
    rw [this, seen_far (by omega)]
    have : lead.length + k - lead.length = k := by omega
    rw [this, Nat.mod_eq_of_lt (by omega), getD_of (by omega), List.getElem?_eq_getElem (by omega)]
  · rw [List.getElem?_eq_none (by rw [List.length_take]; omega), List.getElem?_eq_none (by rw [told_len]; omega)]
theorem wn_least_row {lead turn : List Int} {x y : T} {st : Store} (hx : x = .tup (il lead) ∨ x = .lst (il lead)) (hy : y = .tup (il turn) ∨ y = .lst (il turn)) (hl : lead.length ≤ 1000) (ht : turn.length ≤ 1000) :
    WN (runFn 2 4 m_least_row) [x, y] st fun t st' => st' = st ∧ ∃ A B, LR lead turn A B ∧ A.length ≤ 1000 ∧ B.length ≤ 1000 ∧ t = .tup [.tup (il A), .tup (il B)] := by
  rw [wn_run]
  refine ⟨rfl, ?_⟩
  have e0 : startE 4 [x, y] = [.fr x, .fr y, .no, .no] := rfl
  rw [e0]
  unfold m_least_row
  have tx : tupleT st x = some (.tup (il lead)) := by rcases hx with rfl | rfl <;> rfl
  have ty : tupleT st y = some (.tup (il turn)) := by rcases hy with rfl | rfl <;> rfl
  refine ws_seq.mpr (ws_par.mpr (we_cons.mpr (we_ev1S.mpr (we_var.mpr ⟨_, rfl, _, tx, ?_⟩))))
  refine we_cons.mpr (we_callP.mpr (we_cons.mpr (we_ev1S.mpr (we_var.mpr ⟨_, rfl, _, ty, we_nil.mpr ?_⟩))))
  rw [u_shortest]
  refine (wn_shortest ht).imp ?_
  rintro t s ⟨rfl, hs⟩
  refine we_nil.mpr ⟨_, rfl, fun _ => ?_, fun z => absurd rfl z⟩
  show WS _ [.fr x, .fr y, .fr (.tup (il lead)), .fr t] s _
  rcases hs with ⟨ht0, rfl⟩ | ⟨hne, p, hp, rfl⟩
  · refine ws_seq.mpr (ws_whileStop ?_)
    repeat fold_depth
    refine ⟨rfl, fun _ => ?_, fun z => absurd rfl z⟩
    repeat fold_depth
    exact ⟨rfl, _, _, .inl ⟨ht0, rfl, rfl⟩, hl, by decide, rfl⟩
  · have hp0 := hp.pos
    have hpl := hp.le hne
    rw [told_all (lead := lead) hp hne]
    refine ws_seq.mpr ?_
    refine (ws_whileInv (fun m e s' => s' = s ∧ m ≤ lead.length ∧ (∀ j, m ≤ j → j < lead.length → seen lead turn j = seen lead turn (j + p)) ∧ e = [.fr x, .fr y, .fr (.tup (il (lead.take m))), .fr (.tup (il (told lead turn p m)))])
      (fun e s' => s' = s ∧ ∃ b, IsB lead turn p b ∧ e = [.fr x, .fr y, .fr (.tup (il (lead.take b))), .fr (.tup (il (told lead turn p b)))]) ?_ turns lead.length _ s ⟨rfl, Nat.le_refl _, fun j h1 h2 => by omega, by rw [List.take_length]⟩ (Nat.lt_of_le_of_lt hl (by decide))).imp ?_
    · rintro m e s' ⟨rfl, hm, hj, rfl⟩
      have hB := told_ne (lead := lead) (turn := turn) (b := m) hp0
      have stop : (m = 0 ∨ seen lead turn (m - 1) ≠ seen lead turn (m - 1 + p)) → ∃ b, IsB lead turn p b ∧ ([.fr x, .fr y, .fr (.tup (il (lead.take m))), .fr (.tup (il (told lead turn p m)))] : En) = [.fr x, .fr y, .fr (.tup (il (lead.take b))), .fr (.tup (il (told lead turn p b)))] := fun h => ⟨m, ⟨hm, hj, h⟩, rfl⟩
      repeat fold_depth
      refine ⟨_, ne_tup (ys := []), _, rfl, dec_splitN (fun _ => ?_) (fun h => absurd h hB)⟩
      repeat fold_depth
      refine ⟨_, ne_tup (ys := []), _, rfl, dec_splitN (fun hA => ?_) (fun h => ?_)⟩
      · have hm0 : 0 < m := by
          rcases Nat.eq_zero_or_pos m with rfl | h3
          · exact absurd rfl hA
          · exact h3
        have ep : m + (p - 1) = m - 1 + p := by omega
        repeat fold_depth
        refine ⟨_, ix_last hA, ?_⟩
        repeat fold_depth
        refine ⟨_, ix_last hB, ?_⟩
        rw [take_last (turn := turn) hm hA, told_last hp0 hB]
        repeat fold_depth
        refine dec_split (fun hq => ?_) (fun hq => ?_)
        · repeat fold_depth
          refine ⟨_, cut_init hA, ?_⟩
          repeat fold_depth
          refine ⟨_, cut_last hB, ?_⟩
          repeat fold_depth
          refine ⟨_, cut_init hB, ?_⟩
          repeat fold_depth
          rw [told_last hp0 hB, take_drop hm]
          refine ⟨_, add_tup ?_, ?_⟩
          · rw [List.length_dropLast, told_len]; simp; omega
          rw [told_roll hp0 hm0 hq]
          repeat fold_depth
          refine ⟨rfl, m - 1, by omega, rfl, by omega, fun j h1 h2 => ?_, rfl⟩
          by_cases h3 : j = m - 1
          · subst h3; rw [← ep]; exact hq
          · exact hj j (by omega) h2
        · refine ⟨rfl, stop (.inr ?_)⟩
          rw [← ep]; exact hq
      · refine ⟨fun z => Bool.noConfusion z, fun _ => ⟨rfl, stop ?_⟩⟩
        rcases Nat.eq_zero_or_pos m with h3 | h3
        · exact .inl h3
        · have : (lead.take m).length = 0 := by rw [h]; rfl
          rw [List.length_take] at this
          omega
    · rintro fl e s' ⟨rfl, rfl, b, hb, rfl⟩
      refine ⟨fun _ => ?_, fun z => absurd rfl z⟩
      repeat fold_depth
      refine ⟨rfl, _, _, .inr ⟨hne, p, b, hp, hb, rfl, rfl⟩, ?_, ?_, rfl⟩
      · rw [List.length_take]; omega
      · rw [told_len]; omega
theorem wn_seen {lead turn : List Int} {i : Nat} {st : Store} (hi : i < 2 ^ 60) (ht : turn ≠ []) : WN (runFn 2 4 m_seen) [.tup [.lst (il lead), .lst (il turn)], .int (i : Int)] st fun t st' => t = .int (seen lead turn i) ∧ st' = st := by
  rw [wn_run]
  refine ⟨rfl, ?_⟩
  have e0 : startE 4 [T.tup [.lst (il lead), .lst (il turn)], .int (i : Int)] = [.fr (.tup [.lst (il lead), .lst (il turn)]), .fr (.int i), .no, .no] := rfl
  rw [e0]
  unfold m_seen
  have hl : 0 < turn.length := List.length_pos_iff.mpr ht
  refine ws_seq.mpr (ws_asg.mpr (we_var.mpr ⟨_, rfl, _, rfl, ⟨fun _ => ?_, fun z => absurd rfl z⟩⟩))
  show WS _ [.fr (.tup [.lst (il lead), .lst (il turn)]), .fr (.int i), .fr (.lst (il lead)), .fr (.lst (il turn))] st _
  repeat fold_depth
  refine dec_split (fun h => ?_) (fun h => ?_)
  · repeat fold_depth
    refine ⟨_, ix_lst (by omega) (by omega), ?_⟩
    repeat fold_depth
    refine ⟨?_, rfl⟩
    rw [seen_near (by omega), getD_of (by omega)]
    rfl
  · repeat fold_depth
    refine ⟨_, eq_lst (ys := []), _, rfl, dec_split (fun h => absurd h ht) (fun _ => ?_)⟩
    repeat fold_depth
    refine ⟨_, opMod_ok (by omega), ?_⟩
    have e : ((i : Int) - (lead.length : Int)) % (turn.length : Int) = (((i - lead.length) % turn.length : Nat) : Int) := by
      have e1 : (i : Int) - (lead.length : Int) = ((i - lead.length : Nat) : Int) := by omega
      rw [e1]
      rfl
    rw [e]
    have hm : (i - lead.length) % turn.length < turn.length := Nat.mod_lt _ hl
    refine ⟨_, ix_lst (i := (((i - lead.length) % turn.length : Nat) : Int)) (by omega) hm, ?_⟩
    repeat fold_depth
    refine ⟨?_, rfl⟩
    rw [seen_far (by omega), getD_of hm]
    rfl
def pr1 (turn : List Int) (t : T) : Bool := match t with | .int i => decide ((turn.length : Int) % i = 0) | _ => false
def pr2 (turn : List Int) (t : T) : Bool := match t with | .int i => decide ((List.replicate (turn.length / i.toNat) (turn.take i.toNat)).flatten = turn) | _ => false
theorem wn_least {lead turn : List Int} {st : Store} (hl : lead.length ≤ 1000) (ht : turn.length ≤ 1000) :
    WN (runFn 1 8 m_least) [.tup [.lst (il lead), .lst (il turn)]] st fun t st' => st' = st ∧ ∃ A B, LR lead turn A B ∧ t = .tup [.tup (il A), .tup (il B)] := by
  rw [wn_run]
  refine ⟨rfl, ?_⟩
  have e0 : startE 8 [T.tup [.lst (il lead), .lst (il turn)]] = [.fr (.tup [.lst (il lead), .lst (il turn)]), .no, .no, .no, .no, .no, .no, .no] := rfl
  rw [e0]
  unfold m_least
  refine ws_seq.mpr (ws_asg.mpr (we_var.mpr ⟨_, rfl, _, rfl, ⟨fun _ => ?_, fun z => absurd rfl z⟩⟩))
  show WS _ [.fr (.tup [.lst (il lead), .lst (il turn)]), .fr (.lst (il lead)), .fr (.lst (il turn)), .no, .no, .no, .no, .no] st _
  generalize hr : T.tup [.lst (il lead), .lst (il turn)] = row
  repeat fold_depth
  refine ⟨_, eq_lst (ys := []), _, rfl, dec_split (fun h => ?_) (fun hne => ?_)⟩
  · repeat fold_depth
    exact ⟨rfl, _, _, .inl ⟨h, rfl, rfl⟩, rfl⟩
  · have hn : 0 < turn.length := List.length_pos_iff.mpr hne
    repeat fold_depth
    refine ⟨_, _, rfl, rfl, ⟨⟨by omega, by omega⟩, by decide, by decide⟩, ?_⟩
    have en : ((turn.length : Int) + 1 - 1).toNat = turn.length := by omega
    rw [en]
    refine ⟨by rw [len_rangeL]; omega, ?_⟩
    show WC _ _ _ [.fr row, .fr (.lst (il lead)), .fr (.lst (il turn)), .no, .no, .no, .no, .no] _ _ _
    refine wc_filter (pr := pr1 turn) (show 6 < 8 by decide) _ (fun x hx => ?_) ?_
    · obtain ⟨i, rfl, i0, i1⟩ := mem_rangeL hx
      show WE _ [.fr row, .fr (.lst (il lead)), .fr (.lst (il turn)), .no, .no, .no, .fr (.int i), .no] _ _
      repeat fold_depth
      refine ⟨_, opMod_ok (by omega), ?_⟩
      repeat fold_depth
      exact ⟨rfl, rfl⟩
    · generalize hL : (rangeL 1 turn.length).filter (pr1 turn) = L
      refine ⟨fun _ => ?_, fun z => absurd rfl z⟩
      show WS _ [.fr row, .fr (.lst (il lead)), .fr (.lst (il turn)), .fr (.lst L), .no, .no, .no, .no] _ _
      repeat fold_depth
      refine ⟨_, .inl rfl, ?_, ?_⟩
      · rw [← hL]
        exact Nat.le_trans (List.length_filter_le ..) (by rw [len_rangeL]; omega)
      show WC _ _ _ [.fr row, .fr (.lst (il lead)), .fr (.lst (il turn)), .fr (.lst L), .no, .no, .no, .no] _ _ _
      refine wc_filter (pr := pr2 turn) (show 6 < 8 by decide) _ (fun x hx => ?_) ?_
      · rw [← hL] at hx
        obtain ⟨hx1, hx2⟩ := List.mem_filter.mp hx
        obtain ⟨i, rfl, i0, i1⟩ := mem_rangeL hx1
        obtain ⟨s, rfl⟩ : ∃ s : Nat, i = (s : Int) := ⟨i.toNat, by omega⟩
        have et : (s : Int).toNat = s := rfl
        have ed : ((turn.length : Int) / (s : Int)) = ((turn.length / s : Nat) : Int) := rfl
        have ed2 : ((turn.length / s : Nat) : Int).toNat = turn.length / s := rfl
        show WE _ [.fr row, .fr (.lst (il lead)), .fr (.lst (il turn)), .fr (.lst L), .no, .no, .fr (.int s), .no] _ _
        repeat fold_depth
        refine ⟨_, (cut_to (by omega) (by omega)).2, ?_⟩
        repeat fold_depth
        refine ⟨_, opDiv_ok (by omega) (Int.lt_trans (b := 2 ^ 60) (by omega) (by decide +kernel)), ?_⟩
        rw [ed, et]
        have hd2 : turn.length / s * s ≤ turn.length := Nat.div_mul_le_self _ _
        have hdl : turn.length / s ≤ turn.length := Nat.div_le_self _ _
        refine ⟨_, mul_lst ?_ (by omega) (by omega), ?_⟩
        · rw [ed2, List.length_take, Nat.min_eq_left (by omega), Nat.mul_comm]; omega
        rw [ed2]
        repeat fold_depth
        exact ⟨rfl, rfl⟩
      · have hM : (rangeL 1 turn.length).filter (fun t => pr2 turn t && pr1 turn t) = L.filter (pr2 turn) := by rw [← hL, List.filter_filter]
        generalize L.filter (pr2 turn) = M at hM
        cases M with
        | nil =>
          exfalso
          have hg := good_all hne
          have : T.int (turn.length : Int) ∈ (rangeL 1 turn.length).filter (fun t => pr2 turn t && pr1 turn t) := List.mem_filter.mpr ⟨?_, ?_⟩
          · rw [hM] at this
            cases this
          · rw [rangeL_il]
            refine List.mem_map.mpr ⟨_, List.mem_map.mpr ⟨turn.length - 1, List.mem_range.mpr (by omega), rfl⟩, ?_⟩
            congr 1
            omega
          · show (decide _ && decide _) = true
            rw [Bool.and_eq_true, decide_eq_true_iff, decide_eq_true_iff]
            exact ⟨hg.2.2, by rw [Int.emod_self]⟩
        | cons t r =>
          obtain ⟨i, rfl, i0, i1, hp1, hp2⟩ := first_range hM
          obtain ⟨p, rfl⟩ : ∃ p : Nat, i = (p : Int) := ⟨i.toNat, by omega⟩
          have hG : ∀ s : Nat, 1 ≤ s → ((decide ((List.replicate (turn.length / s) (turn.take s)).flatten = turn) && decide ((turn.length : Int) % (s : Int) = 0)) = true ↔ Good turn s) := fun s hs => by
            rw [Bool.and_eq_true, decide_eq_true_iff, decide_eq_true_iff]
            exact ⟨fun h => ⟨by omega, by omega, h.1⟩, fun h => ⟨h.2.2, by have := h.2.1; omega⟩⟩
          have hp : IsPer turn p := by
            refine ⟨(hG p (by omega)).mp hp1, fun s hs hg => ?_⟩
            have h1 := hp2 s (by have := hg.1; omega) (by omega)
            have h2 := (hG s hg.1).mpr hg
            exact Bool.noConfusion (h1.symm.trans h2)
          have hp0 := hp.pos
          have hpl := hp.le hne
          repeat fold_depth
          refine ⟨_, ixL_ok (t := .int p) (by decide) rfl, ?_⟩
          repeat fold_depth
          show WS (sWhile _ _) [.fr row, .fr (.lst (il lead)), .fr (.lst (il turn)), .fr (.lst L), .fr (.int p), .fr (.int lead.length), .no, .no] _ _
          refine (ws_whileInv (fun m e s' => s' = st ∧ m ≤ lead.length ∧ (∀ j, m ≤ j → j < lead.length → seen lead turn j = seen lead turn (j + p)) ∧ e = [.fr row, .fr (.lst (il lead)), .fr (.lst (il turn)), .fr (.lst L), .fr (.int p), .fr (.int m), .no, .no])
            (fun e s' => s' = st ∧ ∃ b : Nat, IsB lead turn p b ∧ e = [.fr row, .fr (.lst (il lead)), .fr (.lst (il turn)), .fr (.lst L), .fr (.int p), .fr (.int b), .no, .no]) ?_ turns lead.length _ st ⟨rfl, Nat.le_refl _, fun j h1 h2 => by omega, rfl⟩ (Nat.lt_of_le_of_lt hl (by decide))).imp ?_
          · rintro m e s' ⟨rfl, hm, hj, rfl⟩
            repeat fold_depth
            refine dec_split (fun hm0 => ?_) (fun hm0 => ?_)
            · obtain ⟨m', rfl⟩ : ∃ m', m = m' + 1 := ⟨m - 1, by omega⟩
              have e1 : (((m' + 1 : Nat) : Int) - 1) = (m' : Int) := by omega
              repeat fold_depth
              rw [e1]
              refine ⟨_, ix_lst (i := ((m' : Nat) : Int)) (by omega) (show m' < lead.length by omega), ?_⟩
              repeat fold_depth
              rw [e1, u_seen, ← hr]
              refine (wn_seen (i := m' + p) (by omega) hne).imp ?_
              rintro t s ⟨rfl, rfl⟩
              repeat fold_depth
              have es : lead[((m' : Nat) : Int).toNat]'(show m' < lead.length by omega) = seen lead turn m' := by
                rw [seen_near (by omega), getD_of (by omega)]; rfl
              rw [es]
              refine dec_split (fun hq => ?_) (fun hq => ?_)
              · repeat fold_depth
                rw [e1]
                refine ⟨rfl, m', by omega, rfl, by omega, fun j h1 h2 => ?_, rfl⟩
                by_cases h3 : j = m'
                · subst h3; exact hq
                · exact hj j (by omega) h2
              · exact ⟨rfl, m' + 1, ⟨hm, hj, .inr hq⟩, rfl⟩
            · exact ⟨fun z => Bool.noConfusion z, fun _ => ⟨rfl, m, ⟨hm, hj, .inl (by omega)⟩, rfl⟩⟩
          · rintro fl e s' ⟨rfl, rfl, b, hb, rfl⟩
            refine ⟨fun _ => ?_, fun z => absurd rfl z⟩
            have hbl := hb.l
            repeat fold_depth
            refine ⟨_, (cut_to (by omega) (by omega)).2, ?_⟩
            repeat fold_depth
            refine ⟨⟨by omega, by omega⟩, by rw [len_rangeL]; omega, ?_⟩
            show WC _ _ _ [.fr row, .fr (.lst (il lead)), .fr (.lst (il turn)), .fr (.lst L), .fr (.int p), .fr (.int b), .no, .no] _ _ _
            refine wc_map (fm := fun t => match t with | .int k => .int (seen lead turn (b + k.toNat)) | _ => .non) _ (fun x hx => ?_) ?_
            · obtain ⟨k, rfl, k0, k1⟩ := mem_rangeL hx
              obtain ⟨k, rfl⟩ : ∃ k' : Nat, k = (k' : Int) := ⟨k.toNat, by omega⟩
              show WE _ [.fr row, .fr (.lst (il lead)), .fr (.lst (il turn)), .fr (.lst L), .fr (.int p), .fr (.int b), .no, .fr (.int k)] _ _
              repeat fold_depth
              rw [u_seen, ← hr]
              have : ((b : Int) + (k : Int)) = ((b + k : Nat) : Int) := by omega
              rw [this]
              refine (wn_seen (i := b + k) (by omega) hne).imp ?_
              rintro t s ⟨rfl, rfl⟩
              exact ⟨rfl, rfl⟩
            · repeat fold_depth
              refine ⟨rfl, _, _, .inr ⟨hne, p, b, hp, hb, rfl, rfl⟩, ?_⟩
              have : (rangeL 0 (p : Int).toNat).map (fun t => match t with | .int k => .int (seen lead turn (b + k.toNat)) | _ => .non) = il (told lead turn p b) := by
                rw [rangeL_il]
                simp only [il, told, List.map_map]
                apply List.map_congr_left
                intro k _
                show T.int (seen lead turn (b + (0 + (k : Int)).toNat)) = T.int (seen lead turn (b + k))
                have : (0 + (k : Int)).toNat = k := by omega
                rw [this]
              rw [this]
              rfl
end K09


set_option Elab.async false
set_option linter.all false
set_option maxRecDepth 100000
set_option maxHeartbeats 1000000
/-! k09: the law answers yes -/
namespace K09
open PySem Mp
/-- one step of a text, forwards -/
local macro_rules | `(tactic| fold_depth) => `(tactic| first
  | (with_reducible first
    | refine ws_seq.mpr ?_ | refine ws_if.mpr ?_ | refine ws_ret.mpr ?_ | refine ws_asgN.mpr ?_ | refine ws_asg.mpr ?_ | refine ws_ix.mpr ?_ | refine ws_nx.mpr ?_ | refine ws_par.mpr ?_ | refine ws_for.mpr ?_ | refine ws_shr.mpr ?_ | refine ws_aug.mpr ?_ | refine ws_upd.mpr ?_ | refine ws_own.mpr ?_ | refine ws_frz.mpr ?_ | refine ws_fl.mpr ?_
    | refine we_ev2.mpr ?_ | refine we_ev2S.mpr ?_ | refine we_ev3S.mpr ?_ | refine we_ev1S.mpr ?_ | refine we_ev1.mpr ?_ | refine we_con.mpr ?_ | refine we_testV.mpr ?_
    | refine we_callP.mpr ?_ | refine we_cons.mpr ?_ | refine we_nil.mpr ?_ | refine we_evN.mpr ?_ | refine we_andB.mpr ?_ | refine we_orB.mpr ?_ | refine we_notT.mpr ?_ | refine we_andV.mpr ?_ | refine we_notV.mpr ?_ | refine we_orV.mpr ?_ | refine we_ite.mpr ?_ | refine we_chain.mpr ?_
    | refine we_bind.mpr ?_ | refine we_pure.mpr ?_ | refine we_part.mpr ?_ | refine we_itRng1.mpr ?_ | refine we_itRng2.mpr ?_ | refine we_itSeq.mpr ?_ | refine we_comp1.mpr ?_ | refine we_peek.mpr ?_ | refine we_ownV.mpr ?_ | refine we_var.mpr ?_
    | refine ⟨_, len_tup, ?_⟩ | refine ⟨_, len_lst, ?_⟩ | refine ⟨_, neN, ?_⟩ | refine ⟨_, eqI, ?_⟩ | refine ⟨_, eqB, ?_⟩ | refine ⟨_, eq_int, ?_⟩ | refine ⟨_, ne_int, ?_⟩ | refine ⟨_, eq_tup, ?_⟩ | refine ⟨_, eq_lst, ?_⟩ | refine ⟨_, ne_tup, ?_⟩ | refine ⟨_, ne_lst, ?_⟩)
  | refine ⟨fun (_ : Fl.nx = Fl.nx) => ?_, fun (z : Fl.nx ≠ Fl.nx) => absurd rfl z⟩ | refine ⟨fun (z : Fl.ret _ = Fl.nx) => Fl.noConfusion z, fun _ => ?_⟩ | refine fun (_ : Fl.ret _ ≠ Fl.nx) => ?_
  | refine ⟨fun (_ : true = true) => ?_, fun (z : true = false) => Bool.noConfusion z⟩ | refine ⟨fun (z : false = true) => Bool.noConfusion z, fun (_ : false = false) => ?_⟩
  | (fail_if_success (with_reducible refine isCut ?_)
     fail_if_success (with_reducible refine isMul ?_)
     fail_if_success (with_reducible refine isDiv ?_)
     first | refine ⟨.bl true, rfl, ?_⟩ | refine ⟨.bl false, rfl, ?_⟩ | refine ⟨true, rfl, ?_⟩ | refine ⟨false, rfl, ?_⟩ | refine ⟨_, rfl, ?_⟩))
theorem pull1 {n N : Nat} {size : Int} {st : Store} {Q : T → Store → Prop} (h : Bg n N st) (h0 : 0 < size) (h1 : size < 2 ^ 200) (hN : N < 2 ^ 60) (q : ∀ (r : Int) st', 0 ≤ r → r < size → Bg n (N + 1) st' → Q (.int r) st') : WN e_pull.fn [.obj n, .int size] st Q := by
  rw [u_pull]
  exact wn_pull h h0 h1 hN q
theorem of1 {n N : Nat} {ts : List T} {st : Store} {Q : T → Store → Prop} (h : Bg n N st) (h0 : 0 < ts.length) (h1 : ts.length < 2 ^ 60) (hN : N < 2 ^ 60) (q : ∀ t st', t ∈ ts → Bg n (N + 1) st' → Q t st') :
    WN e_of.fn [.obj n, .lst ts] st Q := by
  have : runFn 2 2 m_of = runFn 2 2 (S_of (runFn 2 4 S_pull)) := by
    unfold m_of S_of
    rw [u_pull]
    rfl
  rw [u_of, this]
  exact wn_of h h0 h1 hN q
theorem like1 {st : Store} {x : T} {Q : T → Store → Prop} (h : T.lk 13 x = true) (q : Q (.bl true) st) : WN e_like.fn [x, x] st Q :=
  wn_like (f := f_like) (fun n hn => (u_like n hn).trans rfl) h q
theorem shr_bag {ns : List Int} {st : Store} {n : Nat} {Q : T → Store → Prop} (h : st[n]? = some (.scr (ns.map T.int))) (l : ns.length ≤ 63) (q : ∀ xs, Bg st.length 0 (st ++ [.lst xs]) → Q (.lst xs) st) : WN e_bag.fn [.obj n] st Q := by
  rw [u_bag]
  exact wn_bag h l q
theorem ne_pair {a b : List Int} : opNe (.tup [.lst (il a), .lst (il b)]) (.tup [.lst (il a), .lst (il b)]) = some (.bl false) := by
  have h : T.okd 12 (.tup [.lst (il a), .lst (il b)]) = true := by
    show (T.okdL 10 (il a) && (T.okdL 10 (il b) && true)) = true
    rw [okdL_il, okdL_il]; rfl
  have h2 : T.eqv (.tup [.lst (il a), .lst (il b)]) (.tup [.lst (il a), .lst (il b)]) = true := by
    show (T.eqvL (il a) (il a) && (T.eqvL (il b) (il b) && true)) = true
    rw [eqvL_il, eqvL_il]; simp
  show (T.eq? _ _).map (fun b => T.bl (!b)) = _
  unfold T.eq?
  rw [h, h2]; rfl
theorem lk_pair {a b : List Int} (ha : a.length ≤ 1000) (hb : b.length ≤ 1000) : T.lk 13 (.tup [.tup (il a), .tup (il b)]) = true := by
  have h1 : T.lk 12 (.tup (il a)) = true := lk_tup (n := 10) (by omega)
  have h2 : T.lk 12 (.tup (il b)) = true := lk_tup (n := 10) (by omega)
  show (T.lk 12 (.tup (il a)) && (T.lk 12 (.tup (il b)) && true)) = true
  rw [h1, h2]; rfl
theorem row1 {lead turn : List Int} {x y : T} {st : Store} {Q : T → Store → Prop} (hx : x = .tup (il lead) ∨ x = .lst (il lead)) (hy : y = .tup (il turn) ∨ y = .lst (il turn)) (hl : lead.length ≤ 1000) (ht : turn.length ≤ 1000)
    (q : ∀ A B, LR lead turn A B → A.length ≤ 1000 → B.length ≤ 1000 → Q (.tup [.tup (il A), .tup (il B)]) st) : WN e_least_row.fn [x, y] st Q := by
  rw [u_least_row]
  refine (wn_least_row hx hy hl ht).imp ?_
  rintro t s ⟨rfl, A, B, h1, h2, h3, rfl⟩
  exact q A B h1 h2 h3
theorem least1 {lead turn : List Int} {st : Store} {Q : T → Store → Prop} (hl : lead.length ≤ 1000) (ht : turn.length ≤ 1000)
    (q : ∀ A B, LR lead turn A B → Q (.tup [.tup (il A), .tup (il B)]) st) : WN e_least.fn [.tup [.lst (il lead), .lst (il turn)]] st Q := by
  rw [u_least]
  refine (wn_least hl ht).imp ?_
  rintro t s ⟨rfl, A, B, h1, rfl⟩
  exact q A B h1
def m_turn : EvS := (sSeq (sAsg (.name 3) (comp1 [8] (itRng1 (callP e_of.fn [var 1, evN mkLst [con (.int 0), con (.int 3), con (.int 8), callP e_pull.fn [var 1, con (.int 60)]]])) (.name 8) tYes (callP e_pull.fn [var 1, con (.int 4)]))) (sSeq (sAsg (.name 4) (comp1 [8] (itRng1 (callP e_pull.fn [var 1, con (.int 7)])) (.name 8) tYes (callP e_pull.fn [var 1, callP e_of.fn [var 1, evN mkLst [con (.int 2), con (.int 4)]]]))) (sSeq (sIf (testV (ev2 opEq (callP e_pull.fn [var 1, con (.int 2)]) (con (.int 0)))) (sAsg (.name 4) (ev2 opMul (var 4) (ev2 opAdd (con (.int 1)) (callP e_pull.fn [var 1, con (.int 3)])))) (sNx)) (sSeq (sIf (testV (ev2 opEq (callP e_pull.fn [var 1, con (.int 2)]) (con (.int 0)))) (sSeq (sAsg (.name 3) (ev2 opAdd (var 3) (ev2 opMul (var 4) (callP e_pull.fn [var 1, con (.int 3)])))) (sSeq (sAsg (.name 3) (ev2 opAdd (var 3) (ev3S opCut (var 4) (con .non) (Ev.bind (con (.int 1)) asPart)))) (sAsg (.name 4) (ev2 opAdd (ev3S opCut (var 4) (Ev.bind (con (.int 1)) asPart) (con .non)) (ev3S opCut (var 4) (con .non) (Ev.bind (con (.int 1)) asPart)))))) (sNx)) (sSeq (sAsg (.name 5) (evN mkTup [ev1S listT (var 3), ev1S listT (var 4)])) (sSeq (sAsg (.name 6) (callP e_least_row.fn [ev2S opIx (var 5) (con (.int 0)), ev2S opIx (var 5) (con (.int 1))])) (sSeq (sIf (orB (Mp.notT (testV (callP e_like.fn [var 6, callP e_least.fn [evN mkTup [var 3, var 4]]]))) (testV (ev2 opNe (var 5) (evN mkTup [var 3, var 4])))) (sRet (con (.bl false))) (sNx)) (sIf (Mp.notT (testV (callP e_like.fn [callP e_least_row.fn [ev2S opIx (var 6) (con (.int 0)), ev2S opIx (var 6) (con (.int 1))], var 6]))) (sRet (con (.bl false))) (sNx)))))))))
theorem turn_ok {N : Nat} {st : Store} {a b c d e f g : Slot} (h : Bg 1 N st) (hN : N < 2 ^ 50) : WS m_turn [.fr (.obj 0), .fr (.obj 1), a, b, c, d, e, f, g] st fun fl en s => fl = .nx ∧ (∃ a b c d e f g, en = [.fr (.obj 0), .fr (.obj 1), a, b, c, d, e, f, g]) ∧ Bg 1 (N + 1000) s := by
  unfold m_turn
  repeat fold_depth
  refine pull1 h (by decide) (by decide) (by omega) fun r st1 r0 r1 h1 => ?_
  repeat fold_depth
  refine of1 h1 (show 0 < 4 by decide) (show 4 < 2 ^ 60 by decide) (by omega) fun t st2 ht h2 => ?_
  obtain ⟨k, rfl, k0, k1⟩ : ∃ k : Int, t = .int k ∧ 0 ≤ k ∧ k < 60 := by
    simp at ht
    rcases ht with rfl | rfl | rfl | rfl
    · exact ⟨_, rfl, by omega, by omega⟩
    · exact ⟨_, rfl, by omega, by omega⟩
    · exact ⟨_, rfl, by omega, by omega⟩
    · exact ⟨_, rfl, by omega, by omega⟩
  repeat fold_depth
  refine ⟨⟨by omega, by omega⟩, by rw [len_rangeL]; omega, ?_⟩
  show WC _ _ _ [.fr (.obj 0), .fr (.obj 1), a, b, c, d, e, f, .no] _ _ _
  refine wc_pulls u_pull h2 (by decide) (by decide) rfl (by decide) _ (by rw [len_rangeL]; omega) fun lead st3 hl hr h3 => ?_
  rw [len_rangeL] at hl h3
  repeat fold_depth
  refine pull1 h3 (by decide) (by decide) (by omega) fun r2 st4 r20 r21 h4 => ?_
  repeat fold_depth
  refine ⟨⟨by omega, by omega⟩, by rw [len_rangeL]; omega, ?_⟩
  show WC _ _ _ [.fr (.obj 0), .fr (.obj 1), a, .fr (.lst (il lead)), c, d, e, f, .no] _ _ _
  refine wc_bag (K := 2) (P := fun _ => True) h4 _ (by rw [len_rangeL]; omega) (fun x M s hb hM => ?_) fun again st5 gl _ h5 => ?_
  · show WE _ [.fr (.obj 0), .fr (.obj 1), a, .fr (.lst (il lead)), c, d, e, f, .fr x] _ _
    repeat fold_depth
    refine of1 hb (show 0 < 2 by decide) (show 2 < 2 ^ 60 by decide) (by omega) fun t s2 ht hb2 => ?_
    obtain ⟨k, rfl, k0, k1⟩ : ∃ k : Int, t = .int k ∧ 0 < k ∧ k < 60 := by
      simp at ht
      rcases ht with rfl | rfl
      · exact ⟨_, rfl, by omega, by omega⟩
      · exact ⟨_, rfl, by omega, by omega⟩
    repeat fold_depth
    refine pull1 hb2 k0 (Int.lt_trans (b := 2 ^ 60) (by omega) (by decide)) (by omega) fun r st4 r0 r1 h4 => ?_
    exact ⟨r, rfl, trivial, h4⟩
  rw [len_rangeL] at gl h5
  refine ⟨fun _ => ?_, fun z => absurd rfl z⟩
  show WS (sSeq _ _) [.fr (.obj 0), .fr (.obj 1), a, .fr (.lst (il lead)), .fr (.lst (il again)), d, e, f, g] _ _
  have h6 : Bg 1 (N + 200) st5 := h5.up (by omega)
  have gl : again.length ≤ 6 := by omega
  have hl : lead.length ≤ 60 := by omega
  clear h5 h4 h3 h2 h1
  refine ws_seq.mpr (WS.imp (Q := fun fl en s => fl = .nx ∧ ∃ again : List Int, again.length ≤ 18 ∧ en = [.fr (.obj 0), .fr (.obj 1), a, .fr (.lst (il lead)), .fr (.lst (il again)), d, e, f, g] ∧ Bg 1 (N + 202) s) ?_ ?_)
  · repeat fold_depth
    refine pull1 h6 (by decide) (by decide) (by omega) fun r st1 r0 r1 h1 => ?_
    repeat fold_depth
    refine dec_split (fun _ => ?_) (fun _ => ?_)
    · repeat fold_depth
      refine pull1 h1 (by decide) (by decide) (by omega) fun r st1 r0 r1 h1 => ?_
      repeat fold_depth
      refine ⟨_, mul_lst ?_ (by omega) (by omega), ?_⟩
      · have : (1 + r).toNat ≤ 3 := by omega
        exact Nat.le_trans (Nat.mul_le_mul gl this) (by decide)
      refine ⟨rfl, _, ?_, rfl, h1⟩
      have : (1 + r).toNat ≤ 3 := by omega
      have h7 := Nat.mul_le_mul this gl
      simp
      omega
    · repeat fold_depth
      exact ⟨rfl, _, by omega, rfl, h1.up (by omega)⟩
  rintro fl en st6 ⟨rfl, again, gl, rfl, h7⟩
  refine ⟨fun _ => ?_, fun z => absurd rfl z⟩
  refine ws_seq.mpr (WS.imp (Q := fun fl en s => fl = .nx ∧ ∃ lead again : List Int, lead.length ≤ 200 ∧ again.length ≤ 18 ∧ en = [.fr (.obj 0), .fr (.obj 1), a, .fr (.lst (il lead)), .fr (.lst (il again)), d, e, f, g] ∧ Bg 1 (N + 204) s) ?_ ?_)
  · repeat fold_depth
    refine pull1 h7 (by decide) (by decide) (by omega) fun r st1 r0 r1 h1 => ?_
    repeat fold_depth
    refine dec_split (fun _ => ?_) (fun _ => ?_)
    · repeat fold_depth
      refine pull1 h1 (by decide) (by decide) (by omega) fun r st1 r0 r1 h1 => ?_
      have hr : r.toNat ≤ 3 := by omega
      have hr2 := Nat.mul_le_mul hr gl
      repeat fold_depth
      refine ⟨_, mul_lst ?_ (by omega) (by omega), _, add_lst ?_, ?_⟩
      · exact Nat.le_trans (Nat.mul_le_mul gl hr) (by decide)
      · simp; omega
      repeat fold_depth
      refine ⟨_, (cut_to (by omega) (by omega)).2, _, add_lst ?_, ?_⟩
      · simp; omega
      repeat fold_depth
      refine ⟨_, (cut_from (by omega) (by omega)).2, ?_⟩
      repeat fold_depth
      refine ⟨_, (cut_to (by omega) (by omega)).2, _, add_lst ?_, ?_⟩
      · simp; omega
      refine ⟨rfl, _, _, ?_, ?_, rfl, h1⟩
      · simp; omega
      · simp; omega
    · repeat fold_depth
      exact ⟨rfl, _, _, by omega, gl, rfl, h1.up (by omega)⟩
  rintro fl en st7 ⟨rfl, lead, again, hl, gl, rfl, h8⟩
  refine ⟨fun _ => ?_, fun z => absurd rfl z⟩
  repeat fold_depth
  refine row1 (.inr rfl) (.inr rfl) (by omega) (by omega) fun A B hAB hA hB => ?_
  repeat fold_depth
  refine least1 (by omega) (by omega) fun A' B' hAB' => ?_
  obtain ⟨rfl, rfl⟩ := hAB.uniq hAB'
  repeat fold_depth
  refine like1 (lk_pair hA hB) ?_
  repeat fold_depth
  refine ⟨_, ne_pair, ?_⟩
  repeat fold_depth
  refine row1 (.inl rfl) (.inl rfl) hA hB fun A' B' hAB2 _ _ => ?_
  obtain ⟨rfl, rfl⟩ := hAB.idem hAB2
  repeat fold_depth
  refine like1 (lk_pair hA hB) ?_
  repeat fold_depth
  exact ⟨rfl, ⟨_, _, _, _, _, _, _, rfl⟩, h8.up (by omega)⟩
def m_fin : EvS := sSeq (sAsg (.name 7) (evN mkLst [callP e_least_row.fn [evN mkLst [], evN mkLst []], callP e_least_row.fn [evN mkLst [con (.int 1)], evN mkLst [con (.int 1), con (.int 1)]], con (.int 400), con (.int 12)])) (sRet (callP e_like.fn [var 7, evN mkLst [evN mkTup [evN mkTup [], evN mkTup []], evN mkTup [evN mkTup [], evN mkTup [con (.int 1)]], con (.int 400), con (.int 12)]]))
theorem lr0 {A B : List Int} (h : LR [] [] A B) : A = [] ∧ B = [] := by
  rcases h with ⟨_, rfl, rfl⟩ | ⟨e, _⟩
  · exact ⟨rfl, rfl⟩
  · exact absurd rfl e
theorem lr1 {A B : List Int} (h : LR [1] [1, 1] A B) : A = [] ∧ B = [1] := by
  have g : IsPer [1, 1] 1 := ⟨⟨by decide, by decide, by decide⟩, fun s hs hg => by have := hg.1; omega⟩
  have b : IsB [1] [1, 1] 1 0 := ⟨by decide, fun j h1 h2 => by
    have : j = 0 := by simp at h2; omega
    subst this; decide, .inl rfl⟩
  have := h.uniq (.inr ⟨by decide, 1, 0, g, b, rfl, rfl⟩)
  exact ⟨this.1, this.2⟩
theorem fin_ok {st : Store} {a b c d e f g : Slot} : WS m_fin [.fr (.obj 0), .fr (.obj 1), a, b, c, d, e, f, g] st fun fl en s => fl = .ret (.bl true) := by
  unfold m_fin
  repeat fold_depth
  refine row1 (lead := []) (turn := []) (.inr rfl) (.inr rfl) (by decide) (by decide) fun A B h _ _ => ?_
  obtain ⟨rfl, rfl⟩ := lr0 h
  repeat fold_depth
  refine row1 (lead := [1]) (turn := [1, 1]) (.inr rfl) (.inr rfl) (by decide) (by decide) fun A B h _ _ => ?_
  obtain ⟨rfl, rfl⟩ := lr1 h
  repeat fold_depth
  refine like1 (by decide) rfl
def m_all : EvS := sSeq (sShr 1 (callP e_bag.fn [var 0])) (sSeq (sFor (itRng1 (con (.int 6))) (.name 2) m_turn) m_fin)
theorem e_all : m_law = m_all := rfl
theorem plain (ns : List Int) (h : ns.length ≤ 63) : ∃ st', e_law.fn [.obj 0] [.scr (ns.map T.int)] = .ok (.bl true) st' := by
  have : WN e_law.fn [.obj 0] [.scr (ns.map T.int)] fun t st' => t = .bl true := by
    rw [u_law, e_all, wn_run]
    refine ⟨rfl, ?_⟩
    have e0 : startE 9 [T.obj 0] = [.fr (.obj 0), .no, .no, .no, .no, .no, .no, .no, .no] := rfl
    rw [e0]
    unfold m_all
    repeat fold_depth
    refine shr_bag (ns := ns) rfl h fun xs hb => ?_
    repeat fold_depth
    refine ⟨⟨by omega, by omega⟩, ?_⟩
    have := ws_forRet (g := .name 2) (body := m_turn) (all := rangeL 0 6) (fun d e s => (∃ a b c d e1 f g, e = [.fr (.obj 0), .fr (.obj 1), a, b, c, d, e1, f, g]) ∧ Bg 1 (1000 * d.length) s) (fun _ _ => False) ?_ (rangeL 0 6) [] [.fr (.obj 0), .fr (.obj 1), .no, .no, .no, .no, .no, .no, .no] _ rfl ⟨⟨_, _, _, _, _, _, _, rfl⟩, hb⟩
    · refine WS.imp this ?_
      rintro fl e s (⟨rfl, ⟨a, b, c, d, e1, f, g, rfl⟩, _⟩ | ⟨t, _, hf⟩)
      · refine ⟨fun _ => ?_, fun z => absurd rfl z⟩
        refine WS.imp fin_ok ?_
        rintro fl e s rfl
        rfl
      · exact hf.elim
    · rintro x done rest en s he ⟨⟨a, b, c, d, e1, f, g, rfl⟩, hb⟩
      obtain ⟨rfl, hd⟩ := rangeL_at he
      refine ⟨_, rfl, WS.imp (turn_ok hb (by omega)) ?_⟩
      rintro fl e s ⟨rfl, h1, h2⟩
      exact .inl ⟨rfl, h1, h2.up (by simp; omega)⟩
  obtain ⟨t, st', e, rfl⟩ := this
  exact ⟨st', e⟩
end K09


set_option Elab.async false
set_option linter.all false
set_option maxRecDepth 100000
set_option maxHeartbeats 0
namespace K09
open PySem PySem.Spec PyProof.Rows L2 Mp
/-! ### the head: facts by names, the run -/
def d_shortest : He.DefD := ⟨("shortest", none), "shortest", "shortest", defArgs (top 3), defBody (top 3), defScope (top 3), [], []⟩
def d_least_row : He.DefD := ⟨("least_row", none), "least_row", "least_row", defArgs (top 4), defBody (top 4), defScope (top 4), [], []⟩
def d_bag : He.DefD := ⟨("_law_bag", none), "_law_bag", "_law_bag", defArgs (top 6), defBody (top 6), defScope (top 6), [], []⟩
def d_pull : He.DefD := ⟨("_law_pull", none), "_law_pull", "_law_pull", defArgs (top 7), defBody (top 7), defScope (top 7), [], []⟩
def d_of : He.DefD := ⟨("_law_of", none), "_law_of", "_law_of", defArgs (top 8), defBody (top 8), defScope (top 8), [], []⟩
def d_like : He.DefD := ⟨("_law_like", none), "_law_like", "_law_like", defArgs (top 9), defBody (top 9), defScope (top 9), [], []⟩
def d_seen : He.DefD := ⟨("_law_seen", none), "_law_seen", "_law_seen", defArgs (top 10), defBody (top 10), defScope (top 10), [], []⟩
def d_least : He.DefD := ⟨("_law_least", none), "_law_least", "_law_least", defArgs (top 11), defBody (top 11), defScope (top 11), [], []⟩
def d_law : He.DefD := ⟨("law", none), "law", "law", defArgs (top 12), defBody (top 12), defScope (top 12), [], []⟩
def fn : List He.DefD := [d_shortest, d_least_row, d_bag, d_pull, d_of, d_like, d_seen, d_least, d_law]
def fa : List He.Fa := [.glo "shortest", .glo "least_row", .glo "_law_bag", .glo "_law_pull", .glo "_law_of", .glo "_law_like", .glo "_law_seen", .glo "_law_least", .glo "law", .free "len", .free "range", .free "tuple", .free "list", .free "any", .free "all", .free "sum", .free "max", .free "min", .free "sorted", .free "int", .free "str", .free "isinstance", .free "enumerate", .free "bool", .int "MOST_LEAD" 400, .int "MOST_ROUND" 12]
abbrev R : PySem.W.OpenRow := PySem.W.OpenLaw.row PySem.Challenge.rw_tearboard_k09_rows_with_the_shortest_rou
abbrev hk : PySem.W.Hook := He.hookD 4 fa fn
def ob (s : PySem.W.SharedT) : He.AlD := He.obsDG 4 fa fn (HandSHeadRun.getT s)
theorem ob_eq (s : PySem.W.SharedT) : ob s = hk.obs s.abs := He.obsDG_eq (HandSHeadRun.getT_eq s)
theorem run (w : World) : HandSHeadRun.RunEq R (PySem.W.view R.prog [12]) hk ob 2000 ["shortest", "least_row", "_law_bag", "_law_pull", "_law_of", "_law_like", "_law_seen", "_law_least", "MOST_LEAD", "MOST_ROUND"] w := by
  intro os
  kernel_rfl
section
variable {P : Program} {w : World} {K : PySem.W.Frag} {h : Heap} {mg : Str → Option Value}
theorem gen0 {base : Heap} {k : Gk} (X : K.In h) (G : h.Ns mainGlobals mg) (c : He.SaysD fa fn K) : GenOk k G0 P w K mg base := by
  refine gen_base (fun p hp => ?_) fun x hx => ?_
  · simp only [consts, List.mem_cons, List.not_mem_nil, or_false] at hp
    rcases hp with rfl | rfl
    · obtain ⟨t, e⟩ := He.int_ok X G (c.fact 24 rfl)
      exact ⟨_, .int _, e, ⟨t, rfl⟩, fun g => rep_int⟩
    · obtain ⟨t, e⟩ := He.int_ok X G (c.fact 25 rfl)
      exact ⟨_, .int _, e, ⟨t, rfl⟩, fun g => rep_int⟩
  · simp only [bltNames, List.mem_cons, List.not_mem_nil, or_false] at hx
    rcases hx with rfl | rfl | rfl | rfl | rfl | rfl | rfl | rfl | rfl | rfl | rfl | rfl | rfl | rfl | rfl
    · exact He.free_ok X G (c.fact 9 rfl)
    · exact He.free_ok X G (c.fact 10 rfl)
    · exact He.free_ok X G (c.fact 11 rfl)
    · exact He.free_ok X G (c.fact 12 rfl)
    · exact He.free_ok X G (c.fact 13 rfl)
    · exact He.free_ok X G (c.fact 14 rfl)
    · exact He.free_ok X G (c.fact 15 rfl)
    · exact He.free_ok X G (c.fact 16 rfl)
    · exact He.free_ok X G (c.fact 17 rfl)
    · exact He.free_ok X G (c.fact 18 rfl)
    · exact He.free_ok X G (c.fact 19 rfl)
    · exact He.free_ok X G (c.fact 20 rfl)
    · exact He.free_ok X G (c.fact 21 rfl)
    · exact He.free_ok X G (c.fact 22 rfl)
    · exact He.free_ok X G (c.fact 23 rfl)
theorem ok_shortest {base : Heap} {k : Gk} (hK : K = k.K) (X : K.In h) (G : h.Ns mainGlobals mg) (c : He.SaysD fa fn K) : ∃ fd, Binds K fd ["turn"] [] ∧ PySem.W.keepIn K (.ref (He.fAd K ("shortest", none))) = true ∧ FnOk P w K mg base (L2.CX P w) 1 (He.fAd K ("shortest", none)) fd ["turn"] (spOf k false e_shortest.fn) := by
  obtain ⟨fd, F⟩ := c.def_ 0 (d := d_shortest) rfl
  have B : Binds K fd ["turn"] [] := F.bindsN fun _ _ _ _ _ _ us hl => match us, hl with | [_], _ => rfl
  exact ⟨fd, B, F.kp, fn_den (c := c_shortest) hK F (N := ["turn", "size"]) rfl (by decide +kernel) rfl rfl (gen0 X G c)⟩
theorem gen_shortest {base : Heap} {k : Gk} (hK : K = k.K) (X : K.In h) (G : h.Ns mainGlobals mg) (c : He.SaysD fa fn K) : GenOk k G_shortest P w K mg base := by
  obtain ⟨fd, B, kp, F⟩ := ok_shortest (P := P) (w := w) (base := base) hK X G c
  exact (gen0 X G c).cons (x := "shortest") (e := e_shortest) (He.glo_ok X G (c.fact 0 rfl)) kp B F
theorem ok_least_row {base : Heap} {k : Gk} (hK : K = k.K) (X : K.In h) (G : h.Ns mainGlobals mg) (c : He.SaysD fa fn K) : ∃ fd, Binds K fd ["lead", "turn"] [] ∧ PySem.W.keepIn K (.ref (He.fAd K ("least_row", none))) = true ∧ FnOk P w K mg base (L2.CX P w) 2 (He.fAd K ("least_row", none)) fd ["lead", "turn"] (spOf k false e_least_row.fn) := by
  obtain ⟨fd, F⟩ := c.def_ 1 (d := d_least_row) rfl
  have B : Binds K fd ["lead", "turn"] [] := F.bindsN fun _ _ _ _ _ _ us hl => match us, hl with | [_, _], _ => rfl
  exact ⟨fd, B, F.kp, fn_den (c := c_least_row) hK F (N := ["lead", "turn", "ahead", "again"]) rfl (by decide +kernel) rfl rfl (gen_shortest hK X G c)⟩
theorem gen_least_row {base : Heap} {k : Gk} (hK : K = k.K) (X : K.In h) (G : h.Ns mainGlobals mg) (c : He.SaysD fa fn K) : GenOk k G_least_row P w K mg base := by
  obtain ⟨fd, B, kp, F⟩ := ok_least_row (P := P) (w := w) (base := base) hK X G c
  exact (gen_shortest hK X G c).cons (x := "least_row") (e := e_least_row) (He.glo_ok X G (c.fact 1 rfl)) kp B F
theorem ok_bag {base : Heap} {k : Gk} (hK : K = k.K) (X : K.In h) (G : h.Ns mainGlobals mg) (c : He.SaysD fa fn K) : ∃ fd, Binds K fd ["_law_script"] [] ∧ PySem.W.keepIn K (.ref (He.fAd K ("_law_bag", none))) = true ∧ FnOk P w K mg base (L2.CX P w) 1 (He.fAd K ("_law_bag", none)) fd ["_law_script"] (spOf k true e_bag.fn) := by
  obtain ⟨fd, F⟩ := c.def_ 2 (d := d_bag) rfl
  have B : Binds K fd ["_law_script"] [] := F.bindsN fun _ _ _ _ _ _ us hl => match us, hl with | [_], _ => rfl
  exact ⟨fd, B, F.kp, fn_den (c := c_bag) hK F (N := ["_law_script"]) rfl (by decide +kernel) rfl rfl (gen_least_row hK X G c)⟩
theorem gen_bag {base : Heap} {k : Gk} (hK : K = k.K) (X : K.In h) (G : h.Ns mainGlobals mg) (c : He.SaysD fa fn K) : GenOk k G_bag P w K mg base := by
  obtain ⟨fd, B, kp, F⟩ := ok_bag (P := P) (w := w) (base := base) hK X G c
  exact (gen_least_row hK X G c).cons (x := "_law_bag") (e := e_bag) (He.glo_ok X G (c.fact 2 rfl)) kp B F
theorem ok_pull {base : Heap} {k : Gk} (hK : K = k.K) (X : K.In h) (G : h.Ns mainGlobals mg) (c : He.SaysD fa fn K) : ∃ fd, Binds K fd ["_law_bag_here", "_law_size"] [] ∧ PySem.W.keepIn K (.ref (He.fAd K ("_law_pull", none))) = true ∧ FnOk P w K mg base (L2.CX P w) 1 (He.fAd K ("_law_pull", none)) fd ["_law_bag_here", "_law_size"] (spOf k false e_pull.fn) := by
  obtain ⟨fd, F⟩ := c.def_ 3 (d := d_pull) rfl
  have B : Binds K fd ["_law_bag_here", "_law_size"] [] := F.bindsN fun _ _ _ _ _ _ us hl => match us, hl with | [_, _], _ => rfl
  exact ⟨fd, B, F.kp, fn_den (c := c_pull) hK F (N := ["_law_bag_here", "_law_size", "_law_got", "_law_cell"]) rfl (by decide +kernel) rfl rfl (gen_bag hK X G c)⟩
theorem gen_pull {base : Heap} {k : Gk} (hK : K = k.K) (X : K.In h) (G : h.Ns mainGlobals mg) (c : He.SaysD fa fn K) : GenOk k G_pull P w K mg base := by
  obtain ⟨fd, B, kp, F⟩ := ok_pull (P := P) (w := w) (base := base) hK X G c
  exact (gen_bag hK X G c).cons (x := "_law_pull") (e := e_pull) (He.glo_ok X G (c.fact 3 rfl)) kp B F
theorem ok_of {base : Heap} {k : Gk} (hK : K = k.K) (X : K.In h) (G : h.Ns mainGlobals mg) (c : He.SaysD fa fn K) : ∃ fd, Binds K fd ["_law_bag_here", "_law_things"] [] ∧ PySem.W.keepIn K (.ref (He.fAd K ("_law_of", none))) = true ∧ FnOk P w K mg base (L2.CX P w) 2 (He.fAd K ("_law_of", none)) fd ["_law_bag_here", "_law_things"] (spOf k false e_of.fn) := by
  obtain ⟨fd, F⟩ := c.def_ 4 (d := d_of) rfl
  have B : Binds K fd ["_law_bag_here", "_law_things"] [] := F.bindsN fun _ _ _ _ _ _ us hl => match us, hl with | [_, _], _ => rfl
  exact ⟨fd, B, F.kp, fn_den (c := c_of) hK F (N := ["_law_bag_here", "_law_things"]) rfl (by decide +kernel) rfl rfl (gen_pull hK X G c)⟩
theorem gen_of {base : Heap} {k : Gk} (hK : K = k.K) (X : K.In h) (G : h.Ns mainGlobals mg) (c : He.SaysD fa fn K) : GenOk k G_of P w K mg base := by
  obtain ⟨fd, B, kp, F⟩ := ok_of (P := P) (w := w) (base := base) hK X G c
  exact (gen_pull hK X G c).cons (x := "_law_of") (e := e_of) (He.glo_ok X G (c.fact 4 rfl)) kp B F
theorem ok_like {base : Heap} {k : Gk} (hK : K = k.K) (X : K.In h) (G : h.Ns mainGlobals mg) (c : He.SaysD fa fn K) : ∃ fd, Binds K fd ["_law_one", "_law_due"] [] ∧ PySem.W.keepIn K (.ref (He.fAd K ("_law_like", none))) = true ∧ ∀ n, FnOk P w K mg base (L2.CX P w) (0 + n) (He.fAd K ("_law_like", none)) fd ["_law_one", "_law_due"] (spOf k false (f_like n)) := by
  obtain ⟨fd, F⟩ := c.def_ 5 (d := d_like) rfl
  have B : Binds K fd ["_law_one", "_law_due"] [] := F.bindsN fun _ _ _ _ _ _ us hl => match us, hl with | [_, _], _ => rfl
  refine ⟨fd, B, F.kp, fun n => ?_⟩
  induction n with
  | zero => exact fn_bad
  | succ n ih => exact fn_den (c := c_like n) hK F (N := ["_law_one", "_law_due", "_law_at"]) rfl (by decide +kernel) rfl rfl ((gen_of hK X G c).cons (x := "_law_like") (e := ⟨["_law_one", "_law_due"], f_like n, false, 0 + n⟩) (He.glo_ok X G (c.fact 5 rfl)) F.kp B ih)
theorem gen_like {base : Heap} {k : Gk} (hK : K = k.K) (X : K.In h) (G : h.Ns mainGlobals mg) (c : He.SaysD fa fn K) : GenOk k G_like P w K mg base := by
  obtain ⟨fd, B, kp, F⟩ := ok_like (P := P) (w := w) (base := base) hK X G c
  exact (gen_of hK X G c).cons (x := "_law_like") (e := e_like) (He.glo_ok X G (c.fact 5 rfl)) kp B (F 13)
theorem ok_seen {base : Heap} {k : Gk} (hK : K = k.K) (X : K.In h) (G : h.Ns mainGlobals mg) (c : He.SaysD fa fn K) : ∃ fd, Binds K fd ["_law_row", "_law_depth"] [] ∧ PySem.W.keepIn K (.ref (He.fAd K ("_law_seen", none))) = true ∧ FnOk P w K mg base (L2.CX P w) 1 (He.fAd K ("_law_seen", none)) fd ["_law_row", "_law_depth"] (spOf k false e_seen.fn) := by
  obtain ⟨fd, F⟩ := c.def_ 6 (d := d_seen) rfl
  have B : Binds K fd ["_law_row", "_law_depth"] [] := F.bindsN fun _ _ _ _ _ _ us hl => match us, hl with | [_, _], _ => rfl
  exact ⟨fd, B, F.kp, fn_den (c := c_seen) hK F (N := ["_law_row", "_law_depth", "_law_lead", "_law_turn"]) rfl (by decide +kernel) rfl rfl (gen_like hK X G c)⟩
theorem gen_seen {base : Heap} {k : Gk} (hK : K = k.K) (X : K.In h) (G : h.Ns mainGlobals mg) (c : He.SaysD fa fn K) : GenOk k G_seen P w K mg base := by
  obtain ⟨fd, B, kp, F⟩ := ok_seen (P := P) (w := w) (base := base) hK X G c
  exact (gen_like hK X G c).cons (x := "_law_seen") (e := e_seen) (He.glo_ok X G (c.fact 6 rfl)) kp B F
theorem ok_least {base : Heap} {k : Gk} (hK : K = k.K) (X : K.In h) (G : h.Ns mainGlobals mg) (c : He.SaysD fa fn K) : ∃ fd, Binds K fd ["_law_row"] [] ∧ PySem.W.keepIn K (.ref (He.fAd K ("_law_least", none))) = true ∧ FnOk P w K mg base (L2.CX P w) 2 (He.fAd K ("_law_least", none)) fd ["_law_row"] (spOf k false e_least.fn) := by
  obtain ⟨fd, F⟩ := c.def_ 7 (d := d_least) rfl
  have B : Binds K fd ["_law_row"] [] := F.bindsN fun _ _ _ _ _ _ us hl => match us, hl with | [_], _ => rfl
  exact ⟨fd, B, F.kp, fn_den (c := c_least) hK F (N := ["_law_row", "_law_lead", "_law_turn", "_law_sizes", "_law_period", "_law_begin", "_law_size", "_law_k"]) rfl (by decide +kernel) rfl rfl (gen_seen hK X G c)⟩
theorem gen_least {base : Heap} {k : Gk} (hK : K = k.K) (X : K.In h) (G : h.Ns mainGlobals mg) (c : He.SaysD fa fn K) : GenOk k G_least P w K mg base := by
  obtain ⟨fd, B, kp, F⟩ := ok_least (P := P) (w := w) (base := base) hK X G c
  exact (gen_seen hK X G c).cons (x := "_law_least") (e := e_least) (He.glo_ok X G (c.fact 7 rfl)) kp B F
theorem ok_law {base : Heap} {k : Gk} (hK : K = k.K) (X : K.In h) (G : h.Ns mainGlobals mg) (c : He.SaysD fa fn K) : ∃ fd, Binds K fd ["_law_script"] [] ∧ PySem.W.keepIn K (.ref (He.fAd K ("law", none))) = true ∧ FnOk P w K mg base (L2.CX P w) 14 (He.fAd K ("law", none)) fd ["_law_script"] (spOf k false e_law.fn) := by
  obtain ⟨fd, F⟩ := c.def_ 8 (d := d_law) rfl
  have B : Binds K fd ["_law_script"] [] := F.bindsN fun _ _ _ _ _ _ us hl => match us, hl with | [_], _ => rfl
  exact ⟨fd, B, F.kp, fn_den (c := c_law) hK F (N := ["_law_script", "_law_bag_here", "_law_turn", "_law_lead", "_law_again", "_law_handed", "_law_told", "_law_found", "_law_k"]) rfl (by decide +kernel) rfl rfl (gen_least hK X G c)⟩
theorem gen_law {base : Heap} {k : Gk} (hK : K = k.K) (X : K.In h) (G : h.Ns mainGlobals mg) (c : He.SaysD fa fn K) : GenOk k G_law P w K mg base := by
  obtain ⟨fd, B, kp, F⟩ := ok_law (P := P) (w := w) (base := base) hK X G c
  exact (gen_least hK X G c).cons (x := "law") (e := e_law) (He.glo_ok X G (c.fact 8 rfl)) kp B F
theorem facts {f : Addr} (X : K.In h) (G : h.Ns mainGlobals mg) (hfa : mg ("law" : Str) = some (.ref f)) (c : He.SaysD fa fn K) :
    ∃ fd : FuncData, (∀ (s : Shared) (v : Value), BindsTo s fd ⟨[v], []⟩ [("_law_script", v)]) ∧ ∀ base : Heap, K.In base → base.Ns mainGlobals mg → FnOk P w K mg base (CXE P) 14 f fd ["_law_script"] (spOf ⟨K, fun _ => 0⟩ false e_law.fn) := by
  obtain ⟨fd, F⟩ := c.def_ 8 (d := d_law) rfl
  have e := hfa.symm.trans (He.glo_ok X G (c.fact 8 (f := .glo "law") rfl))
  cases e
  have b := FunD.bindsA (ps := ["_law_script"]) F fun _ _ _ _ _ _ us hl => match us, hl with | [_], _ => rfl
  exact ⟨fd, fun s v => b s [v] rfl, fun base _ _ => FnOk.cx (fn_den (c := c_law) (k := ⟨K, fun _ => 0⟩) rfl F (N := ["_law_script", "_law_bag_here", "_law_turn", "_law_lead", "_law_again", "_law_handed", "_law_told", "_law_found", "_law_k"]) rfl (by decide +kernel) rfl rfl (gen_least rfl X G c)) fun _ _ _ _ _ _ h => ⟨w, h⟩⟩
end
end K09
open PySem PySem.W PySem.Calls PyProof.Rows
theorem PySem.Challenge.cw_tearboard_k09_rows_with_the_shortest_rou_holds : PySem.Challenge.rw_tearboard_k09_rows_with_the_shortest_rou.Holds := by
  w_on; o_law
  refine HandSHeadRun.head_any (r := OpenLaw.row PySem.Challenge.rw_tearboard_k09_rows_with_the_shortest_rou) (q := view (OpenLaw.row PySem.Challenge.rw_tearboard_k09_rows_with_the_shortest_rou).prog [12]) (H := K09.hk) (ob := K09.ob) (M := 2000) (loose := ["shortest", "least_row", "_law_bag", "_law_pull", "_law_of", "_law_like", "_law_seen", "_law_least", "MOST_LEAD", "MOST_ROUND"]) (d := HandSHeadRun.topDef (OpenLaw.row PySem.Challenge.rw_tearboard_k09_rows_with_the_shortest_rou).prog 12) (kwd := []) K09.ob_eq
    (by kernel_rfl) (fun s => by kernel_rfl) K09.run (by kernel_rfl) (by kernel_rfl) (by kernel_rfl) (by rfl) (by first | assumption | decide +kernel) (by decide +kernel) ⟨rfl, rfl, rfl, rfl, rfl, by decide +kernel⟩ ?hw ?hc
  case hw => w_witness2
  case hc =>
    refine L2.walk_ofE (l := PySem.Challenge.rw_tearboard_k09_rows_with_the_shortest_rou) (n := 63) (k := 14) (x := "_law_script") (CX := Mp.CXE (PySem.Challenge.rw_tearboard_k09_rows_with_the_shortest_rou).prog) rfl (by decide) (by kernel_rfl) ⟨rfl, by decide, by decide⟩ ?F Mp.cxe_none
    intro w mg fa h Y G hmg0
    obtain ⟨K, KX, c⟩ := Y
    have hmg : mg ("law" : PySem.Str) = some (.ref fa) := by
      have e : (HandSHeadRun.topDef (OpenLaw.row PySem.Challenge.rw_tearboard_k09_rows_with_the_shortest_rou).prog 12).name = ("law" : PySem.Str) := by kernel_rfl
      rw [← e]
      exact hmg0
    obtain ⟨fd, hb, hF⟩ := K09.facts (P := (PySem.Challenge.rw_tearboard_k09_rows_with_the_shortest_rou).prog) (w := w) KX G hmg c
    exact ⟨K, fd, _, KX, hb, fun H a ns hl _ hS => Mp.law_sp rfl hS (K09.plain ns hl), hF⟩



