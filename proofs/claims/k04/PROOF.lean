import PyProof.Rows.All
import HandS.ForMost
import HandS.ForExc
import HandS.Flow
import HandS.IsInst
import HandS.TupAny
import HandS.Wide
import KE.KDictKeyed
import KE.SortData
import KE.DataIsa
import KE.DataEq
import KE.DataCmp
import KE.DataAny
import KE.DataFind
import KE.DataMinMax
import PyProof.ReprRoads
import HandS.TupMul
import HandS.Deep
import HandS.SortOrd
import HandS.Style
import KE.KDictWalk
import HandS.Zip
import HandS.TryOnly
import HandS.Ends
import HandS.Iter
import KE.KDictList
import KE.KDictCopyH
import HandS.Conv
import PyProof.StrLawsRepr
import PyProof.FitsInt
import PyProof.CallFns
import HandS.FStrTup
import HandS.Small
import HandS.Comp
import PyProof.Rows.TupDisplay
import PyProof.Rows.DictMade
import HandS.DictTup
import HandS.Text
import KE.KDictPairs
import KE.KDictOf
import KE.KDictZip
import HandS.DictComp
import HandS.ListItems
import KE.KDictItemsList
import PySem.Challenge.RW_dustwithin_k04_names_with_endless_ways
set_option Elab.async false
set_option linter.all false
set_option maxRecDepth 100000
set_option maxHeartbeats 4000001
/-! Z1: trees by value: values, environments, results, the compact syntax and its evaluator. -/
namespace Z
open PySem

/-- what a local name holds: frozen data, or a container that nobody else holds -/
inductive W where
  | f (p : PyData)
  | lst (l : List PyData)
  | dct (l : List (PyData × PyData))
  | set (l : List PyData)
  | nest (l : List W)
  | exc (c : Str) (fs : List (Str × PyData))

abbrev Env := List (Option W)

inductive Res (α : Type) where
  | ok (a : α) (e : Env)
  | exc (x : W) (e : Env)
  | bad

abbrev M (α : Type) := Env → Res α

def Res.bind {α β : Type} (r : Res α) (k : α → Env → Res β) : Res β :=
  match r with
  | .ok a e => k a e
  | .exc x e => .exc x e
  | .bad => .bad
@[simp] theorem bind_ok {α β : Type} (a : α) (e : Env) (k : α → Env → Res β) : (Res.ok a e).bind k = k a e := rfl
@[simp] theorem bind_exc {α β : Type} (x : W) (e : Env) (k : α → Env → Res β) : (Res.exc x e : Res α).bind k = .exc x e := rfl
@[simp] theorem bind_bad {α β : Type} (k : α → Env → Res β) : (Res.bad : Res α).bind k = .bad := rfl

/-- an answer, or nothing -/
def Res.of {α : Type} (o : Option α) (e : Env) : Res α := match o with
  | some a => .ok a e
  | none => .bad
@[simp] theorem of_some {α : Type} (a : α) (e : Env) : Res.of (some a) e = .ok a e := rfl
@[simp] theorem of_none {α : Type} (e : Env) : Res.of (none : Option α) e = .bad := rfl

def W.fz : W → Option PyData
  | .f p => some p
  | .lst l => some (.list l)
  | .dct l => some (.dict l)
  | _ => none

/-! ### data -/
mutual
/-- a key of a dict -/
def hk : PyData → Bool
  | .none | .bool _ | .int _ | .str _ => true
  | .tuple l => hkAll l
  | .list _ | .dict _ => false
def hkAll : List PyData → Bool
  | [] => true
  | x :: xs => hk x && hkAll xs
end
def keyOk (k : PyData) : Bool := hk k && decide (k.depth ≤ 7)
def dget (l : List (PyData × PyData)) (k : PyData) : Option PyData := (l.find? fun p => p.1.eqv k).map (·.2)
def dhas (l : List (PyData × PyData)) (k : PyData) : Bool := l.any fun p => p.1.eqv k
def dput (l : List (PyData × PyData)) (k v : PyData) : List (PyData × PyData) :=
  if dhas l k then l.map (fun p => if p.1.eqv k then (p.1, v) else p) else l ++ [(k, v)]
def ddel (l : List (PyData × PyData)) (k : PyData) : List (PyData × PyData) := l.filter fun p => !p.1.eqv k
def shas (l : List PyData) (k : PyData) : Bool := l.any fun p => p.eqv k
def sput (l : List PyData) (k : PyData) : List PyData := if shas l k then l else l ++ [k]

def sizeOk (n : Nat) : Bool := decide (n ≤ sizeLine)
def ix (n : Nat) (i : Int) : Option Nat := if 0 ≤ i then (if i.toNat < n then some i.toNat else none) else if 0 ≤ i + (n : Int) then some (i + (n : Int)).toNat else none
def item : PyData → PyData → Option PyData
  | .list l, .int i => (ix l.length i).bind (l[·]?)
  | .tuple l, .int i => (ix l.length i).bind (l[·]?)
  | .str x, .int i => if sizeOk x.length then (ix x.length i).bind fun j => (x.cps[j]?).map fun c => .str ⟨#[c]⟩ else none
  | .dict l, k => if keyOk k then dget l k else none
  | _, _ => none
def cut {α : Type} (l : List α) (lo hi : Option Int) : List α := (l.drop (HT.sIx l.length 0 lo)).take (HT.sIx l.length l.length hi - HT.sIx l.length 0 lo)
def bnd? : PyData → Option (Option Int)
  | .int i => some (some i)
  | .none => some none
  | _ => none
def slice (p : PyData) (lo hi : PyData) : Option W := match bnd? lo, bnd? hi with
  | some a, some b => match p with
    | .list l => some (.lst (cut l a b))
    | .tuple l => some (.f (.tuple (cut l a b)))
    | .str x => if sizeOk x.length then some (.f (.str ⟨(cut x.cps.toList a b).toArray⟩)) else none
    | _ => none
  | _, _ => none
def revd : PyData → Option W
  | .list l => some (.lst l.reverse)
  | .tuple l => some (.f (.tuple l.reverse))
  | _ => none

def rep {α : Type} (l : List α) (k : Int) : List α := (List.replicate k.toNat l).flatten
def log2i (i : Int) : Nat := i.natAbs.log2
def binop : Operator → PyData → PyData → Option W
  | .Add, .int i, .int j => some (.f (.int (i + j)))
  | .Sub, .int i, .int j => some (.f (.int (i - j)))
  | .Mult, .int i, .int j => if log2i i + log2i j < 1000000 then some (.f (.int (i * j))) else none
  | .FloorDiv, .int i, .int j => if j ≠ 0 ∧ log2i j < 9000 then some (.f (.int (i.fdiv j))) else none
  | .Mod, .int i, .int j => if j ≠ 0 then some (.f (.int (i.fmod j))) else none
  | .Pow, .int i, .int j => if 0 ≤ j ∧ j ≤ 1000000 ∧ i.natAbs < 2 ^ 64 then some (.f (.int (i ^ j.toNat))) else none
  | .Add, .str x, .str y => if sizeOk (x.length + y.length) then some (.f (.str (x ++ y))) else none
  | .Add, .tuple x, .tuple y => if sizeOk (x.length + y.length) then some (.f (.tuple (x ++ y))) else none
  | .Add, .list x, .list y => if sizeOk (x.length + y.length) then some (.lst (x ++ y)) else none
  | .Mult, .tuple x, .int k => if -1000 ≤ k ∧ k ≤ 1000 ∧ x.length ≤ 1000 then some (.f (.tuple (rep x k))) else none
  | .Mult, .list x, .int k => if -(2 ^ 63) ≤ k ∧ k < 2 ^ 63 ∧ x.length * k.toNat ≤ sizeLine then some (.lst (rep x k)) else none
  | .Mult, .str x, .int k => if -1000 ≤ k ∧ k ≤ 1000 ∧ x.length ≤ 1000 then some (.f (.str ⟨(rep x.cps.toList k).toArray⟩)) else none
  | _, _, _ => none

def isNone : PyData → Bool
  | .none => true
  | _ => false
def strLt (x y : Str) : Bool := decide (x.cps.toList < y.cps.toList)
/-- data that can be compared by ==, by < -/
def plainD (x : PyData) : Bool := x.plain && decide (x.depth ≤ 64)
def ordOk (x y : PyData) : Bool := W.alike x y && !isNone x && decide (x.depth ≤ 64)
def memD (x : PyData) (l : List PyData) : Option Bool := if plainD x && PyData.plainAll l then some (l.any fun y => y.eqv x) else none
def eqD (x y : PyData) : Option Bool := if plainD x && plainD y then some (x.eqv y) else none
def inD (x : PyData) : PyData → Option Bool
  | .list l => memD x l
  | .tuple l => memD x l
  | .dict l => if keyOk x then some (dhas l x) else none
  | .str y => match x with
    | .str z => if z.length = 1 then some (y.cps.toList.contains (z.cps.getD 0 0)) else none
    | _ => none
  | _ => none
def cmpop : CmpOp → PyData → PyData → Option Bool
  | .Eq, x, y => eqD x y
  | .NotEq, x, y => (eqD x y).map (!·)
  | .Is, x, y => match y with
    | .none => some (isNone x)
    | _ => none
  | .IsNot, x, y => match y with
    | .none => some (!isNone x)
    | _ => none
  | .In, x, y => inD x y
  | .NotIn, x, y => (inD x y).map (!·)
  | .Lt, .int i, .int j => some (decide (i < j))
  | .LtE, .int i, .int j => some (decide (i ≤ j))
  | .Gt, .int i, .int j => some (decide (j < i))
  | .GtE, .int i, .int j => some (decide (j ≤ i))
  | .Lt, x, y => if ordOk x y then some (W.dataLt x y) else none
  | .LtE, x, y => if ordOk x y then some (!W.dataLt y x) else none
  | .Gt, x, y => if ordOk x y then some (W.dataLt y x) else none
  | .GtE, x, y => if ordOk x y then some (!W.dataLt x y) else none

def truthy : PyData → Option Bool
  | .none => some false
  | .bool b => some b
  | .int i => some (i != 0)
  | .str x => if sizeOk x.length then some (x.length != 0) else none
  | .list l => some (!l.isEmpty)
  | .tuple l => some (!l.isEmpty)
  | .dict _ => none

/-- built-in functions by values -/
inductive Bi where
  | len | list | tuple | dict | set | sorted | sum | any | all | min2 | max2 | abs | int | str | repr | bool
  deriving DecidableEq
def signs (x : Str) : List PyData := x.cps.toList.map fun c => .str ⟨#[c]⟩
def itemsOf : PyData → Option (List PyData)
  | .list l => some l
  | .tuple l => some l
  | .dict l => some (l.map (·.1))
  | .str x => some (signs x)
  | _ => none
/-- what collect gives -/
def colOf : PyData → Option (List PyData)
  | .list l => some l
  | .tuple l => some l
  | .str x => if sizeOk x.length then some (signs x) else none
  | .dict l => if sizeOk l.length then some (l.map (·.1)) else none
  | _ => none
def ints? : List PyData → Option (List Int)
  | [] => some []
  | .int i :: r => (ints? r).map (i :: ·)
  | _ :: _ => none
def bools? : List PyData → Option (List Bool)
  | [] => some []
  | .bool i :: r => (bools? r).map (i :: ·)
  | _ :: _ => none
def pairs? : List PyData → Option (List (PyData × PyData))
  | [] => some []
  | .tuple [a, b] :: r => (pairs? r).map ((a, b) :: ·)
  | _ :: _ => none
def dputs (l : List (PyData × PyData)) : List (PyData × PyData) → List (PyData × PyData)
  | [] => l
  | (k, v) :: r => dputs (dput l k v) r
def allAlike (l : List PyData) : Bool := l.all fun x => l.all fun y => W.alike x y
def sortable (l : List PyData) : Bool := (l.all fun x => match x with
    | .tuple (_ :: _) => true
    | _ => false) || l.all fun x => match x with
    | .none | .tuple _ => false
    | _ => true
def sortD (l : List PyData) : List PyData := l.mergeSort (W.dataLe false id)
def depthOk (l : List PyData) : Bool := l.all fun x => decide (x.depth ≤ 64)
def sorted? (l : List PyData) : Option W := if allAlike l && sortable l && depthOk l && sizeOk l.length then some (.lst (sortD l)) else none
def hasKeys (l : List (PyData × PyData)) : Bool := l.all fun p => keyOk p.1
def showOk (p : PyData) : Bool := p.showable && decide (p.shown.length ≤ sizeLine) && decide (p.depth ≤ 64)
def bi : Bi → List PyData → Option W
  | .len, [.str x] => some (.f (.int x.length))
  | .len, [.list l] => some (.f (.int l.length))
  | .len, [.tuple l] => some (.f (.int l.length))
  | .len, [.dict l] => some (.f (.int l.length))
  | .list, [p] => (colOf p).map .lst
  | .tuple, [.list l] => some (.f (.tuple l))
  | .tuple, [.tuple l] => some (.f (.tuple l))
  | .dict, [.dict l] => some (.dct l)
  | .dict, [.list l] => (pairs? l).bind fun ps => if hasKeys ps && sizeOk ps.length then some (.dct (dputs [] ps)) else none
  | .sorted, [p] => (colOf p).bind sorted?
  | .sum, [.list l] => (ints? l).map fun ns => .f (.int ns.sum)
  | .any, [.list l] => (bools? l).map fun bs => .f (.bool (bs.any id))
  | .all, [.list l] => (bools? l).map fun bs => .f (.bool (bs.all id))
  | .max2, [.int i, .int j] => some (.f (.int (if j > i then j else i)))
  | .min2, [.int i, .int j] => some (.f (.int (if j < i then j else i)))
  | .abs, [.int i] => some (.f (.int (if i < 0 then -i else i)))
  | .int, [.bool b] => some (.f (.int (if b then 1 else 0)))
  | .int, [.int i] => some (.f (.int i))
  | .str, [.int i] => if log2i i < 1920 then some (.f (.str (toString i : String))) else none
  | .repr, [p] => if showOk p then some (.f (.str p.shown)) else none
  | _, _ => none
def isI (p : PyData) (t : String) : Bool := match p with
  | .none => false
  | .bool _ => t == "bool" || t == "int"
  | .int _ => t == "int"
  | .str _ => t == "str"
  | .list _ => t == "list"
  | .tuple _ => t == "tuple"
  | .dict _ => t == "dict"

/-- reading methods -/
inductive Mt where
  | get2 | index | join | count
  deriving DecidableEq
def strs? : List PyData → Option (List Str)
  | [] => some []
  | .str x :: r => (strs? r).map (x :: ·)
  | _ :: _ => none
def mth : Mt → PyData → List PyData → Option W
  | .get2, .dict l, [k, d] => if keyOk k then some (.f ((dget l k).getD d)) else none
  | .join, .str s, [p] => match p with
    | .list l => (strs? l).bind fun xs => if (Str.join s xs).length ≤ 16777216 then some (.f (.str (Str.join s xs))) else none
    | _ => none
  | _, _, _ => none

/-- methods that change the container at a name -/
inductive Mu where
  | append | add | extend | pop0 | pop1 | update | clear | remove
  deriving DecidableEq
/-- the container behind, what is given back -/
def mutr : Mu → W → List PyData → Option (W × PyData)
  | .append, .lst l, [x] => if l.length < sizeLine then some (.lst (l ++ [x]), .none) else none
  | .add, .set l, [x] => if keyOk x && decide (l.length < sizeLine) then some (.set (sput l x), .none) else none
  | .pop0, .lst l, [] => match l.getLast? with
    | some x => some (.lst l.dropLast, x)
    | none => none
  | .pop1, .dct l, [k] => if keyOk k then (dget l k).map fun v => (.dct (ddel l k), v) else none
  | .clear, .lst _, [] => some (.lst [], .none)
  | .clear, .dct _, [] => some (.dct [], .none)
  | _, _, _ => none
/-- x[i] = v -/
def putAt : W → PyData → PyData → Option W
  | .lst l, .int i, v => (ix l.length i).map fun j => .lst (l.set j v)
  | .dct l, k, v => if keyOk k && decide (l.length < sizeLine) then some (.dct (dput l k v)) else none
  | _, _, _ => none

/-! ### the compact syntax -/
inductive T where
  | name (i : Nat)
  | pair (a b : T)
  | tri (a b c : T)
mutual
inductive E where
  | var (i : Nat) | con (p : PyData) | bin (op : Operator) (a b : E) | neg (a : E) | not (a : E) | and (a b : E) | or (a b : E)
  | cmp (op : CmpOp) (a b : E) | cmp2 (o o' : CmpOp) (a b c : E) | ife (c a b : E)
  | tup (es : Es) | lst (es : Es) | dct (ks vs : Es) | sett (es : Es)
  | idx (a i : E) | slc (a lo hi : E) | rev (a : E)
  | bi (f : Bi) (es : Es) | isin (a : E) (ts : List String)
  | call (f : Str) (es : Es)
  | mth (m : Mt) (a : E) (es : Es)
  | mu (m : Mu) (i : Nat) (es : Es)
  | lc (own : List Nat) (elt : E) (t : T) (it : It)
  | lcf (own : List Nat) (elt : E) (t : T) (it : It) (c : E)
  | dc (own : List Nat) (k v : E) (t : T) (it : It)
  | dcf (own : List Nat) (k v : E) (t : T) (it : It) (c : E)
inductive Es where
  | nil | cons (e : E) (es : Es)
inductive It where
  | e (a : E) | r1 (a : E) | r2 (a b : E) | r3 (a b c : E) | enum (a : E) | zip (a b : E) | zip3 (a b c : E) | items (a : E) | values (a : E)
end
mutual
inductive S where
  | asg (t : T) (e : E) | ist (i : Nat) (k e : E) | aug (i : Nat) (op : Operator) (e : E) | augi (i : Nat) (k : E) (op : Operator) (e : E)
  | ex (e : E) | for (t : T) (it : It) (b : Ss) | whl (c : E) (b : Ss) | ife (c : E) (a b : Ss) | ret (e : E) | retN | brk | cnt | pass
  | raise (c : Str) (es : Es)
inductive Ss where
  | nil | cons (s : S) (r : Ss)
end

/-! ### calls -/
inductive FRes where
  | ret (w : W) (ws : List W)
  | exc (x : W) (ws : List W)
  | bad
structure Fn where
  io : List Bool
  run : List W → FRes
/-- what a def knows: the module's functions, the slots that stay -/
structure Cx where
  G : Str → Option Fn
  fx : List Nat

abbrev Op := Nat ⊕ PyData
def peek (env : Env) (i : Nat) : Option PyData := match env[i]? with
  | some (some w) => w.fz
  | _ => none
def look (env : Env) : Op → Option PyData
  | .inl i => peek env i
  | .inr p => some p
def looks (env : Env) : List Op → Option (List PyData)
  | [] => some []
  | x :: xs => (look env x).bind fun p => (looks env xs).map (p :: ·)
/-- a name read for good: from now on it is frozen -/
def freeze (i : Nat) : M PyData := fun env => match peek env i with
  | some p => .ok p (env.set i (some (.f p)))
  | none => .bad
def freezeAll : List Nat → Env → Env
  | [], env => env
  | i :: r, env => freezeAll r (match peek env i with
    | some p => env.set i (some (.f p))
    | none => env.set i none)
def wipe (own : List Nat) (env : Env) : Env := own.foldl (fun e i => e.set i none) env
def restore (own : List Nat) (old env : Env) : Env := own.foldl (fun e i => e.set i (old.getD i none)) env
def store (c : Cx) (i : Nat) (w : W) : M Unit := fun env => if c.fx.contains i || decide (env.length ≤ i) then .bad else .ok () (env.set i (some w))
def bindT (c : Cx) : T → PyData → M Unit
  | .name i, p => store c i (.f p)
  | .pair a b, p => fun env => match p with
    | .tuple [x, y] => (bindT c a x env).bind fun _ e => bindT c b y e
    | .list [x, y] => (bindT c a x env).bind fun _ e => bindT c b y e
    | _ => .bad
  | .tri a b d, p => fun env => match p with
    | .tuple [x, y, z] => (bindT c a x env).bind fun _ e => (bindT c b y e).bind fun _ e => bindT c d z e
    | .list [x, y, z] => (bindT c a x env).bind fun _ e => (bindT c b y e).bind fun _ e => bindT c d z e
    | _ => .bad
/-- the arguments of a call: what is lent is taken out of its name -/
def args : List Bool → List Op → Env → Option (List W × Env)
  | _, [], env => some ([], env)
  | b :: bs, .inl i :: r, env => if b then match env[i]? with
      | some (some w) => (args bs r (env.set i none)).map fun q => (w :: q.1, q.2)
      | _ => none
    else match peek env i with
      | some p => (args bs r (env.set i (some (.f p)))).map fun q => (.f p :: q.1, q.2)
      | none => none
  | _ :: bs, .inr p :: r, env => (args bs r env).map fun q => (.f p :: q.1, q.2)
  | [], _ :: _, _ => none
def giveBack : List Bool → List Op → List W → Env → Env
  | true :: bs, .inl i :: r, w :: ws, env => giveBack bs r ws (env.set i (some w))
  | _ :: bs, _ :: r, _ :: ws, env => giveBack bs r ws env
  | _, _, _, env => env
def callF (F : Fn) (xs : List Op) : M W := fun env => match args F.io xs env with
  | some (ws, e1) => match F.run ws with
    | .ret w ws' => .ok w (giveBack F.io xs ws' e1)
    | .exc x ws' => .exc x (giveBack F.io xs ws' e1)
    | .bad => .bad
  | none => .bad

/-! ### loops -/
inductive Flow where
  | nx | brk | ct | ret (w : W)
def forR (bd : PyData → M Unit) (body : M Flow) : List PyData → M Flow
  | [], env => .ok .nx env
  | x :: xs, env => (bd x env).bind fun _ e1 => (body e1).bind fun fl e2 => match fl with
    | .nx | .ct => forR bd body xs e2
    | .brk => .ok .nx e2
    | .ret w => .ok (.ret w) e2
def whileN (c : M Bool) (body : M Flow) : Nat → Env → Option (Res Flow)
  | 0, _ => none
  | n + 1, env => match c env with
    | .ok true e1 => match body e1 with
      | .ok .nx e2 => whileN c body n e2
      | .ok .ct e2 => whileN c body n e2
      | .ok .brk e2 => some (.ok .nx e2)
      | .ok (.ret w) e2 => some (.ok (.ret w) e2)
      | .exc x e2 => some (.exc x e2)
      | .bad => some .bad
    | .ok false e1 => some (.ok .nx e1)
    | .exc x e1 => some (.exc x e1)
    | .bad => some .bad
open Classical in
noncomputable def whileR (c : M Bool) (body : M Flow) : M Flow := fun env => if h : ∃ n r, whileN c body n env = some r then (Classical.choose_spec h).choose else .bad
/-- a comprehension: the block's own names forgotten at each turn -/
def lcR (own : List Nat) (bd : PyData → M Unit) (elt : M PyData) : List PyData → List PyData → Env → Res (List PyData)
  | [], acc, env => .ok acc env
  | x :: xs, acc, env => (bd x (wipe own env)).bind fun _ e1 => (elt e1).bind fun p e2 => lcR own bd elt xs (acc ++ [p]) e2
def lcfR (own : List Nat) (bd : PyData → M Unit) (t : M Bool) (elt : M PyData) : List PyData → List PyData → Env → Res (List PyData)
  | [], acc, env => .ok acc env
  | x :: xs, acc, env => (bd x (wipe own env)).bind fun _ e1 => (t e1).bind fun b e2 => if b then (elt e2).bind fun p e3 => lcfR own bd t elt xs (acc ++ [p]) e3 else lcfR own bd t elt xs acc e2

def enumD (n : Nat) : List PyData → List PyData
  | [] => []
  | x :: xs => .tuple [.int n, x] :: enumD (n + 1) xs
def zipD : List PyData → List PyData → List PyData
  | x :: xs, y :: ys => .tuple [x, y] :: zipD xs ys
  | _, _ => []
def zip3D : List PyData → List PyData → List PyData → List PyData
  | x :: xs, y :: ys, z :: zs => .tuple [x, y, z] :: zip3D xs ys zs
  | _, _, _ => []
def rangeD (lo : Int) : Nat → List PyData
  | 0 => []
  | n + 1 => .int lo :: rangeD (lo + 1) n
def small62 (i : Int) : Bool := Nat.ble i.natAbs (2 ^ 62 - 1)
def seqOf : PyData → Option (List PyData)
  | .list l => some l
  | .tuple l => some l
  | _ => none
def iterOf : It → List PyData → Option (List PyData)
  | .e _, [p] => itemsOf p
  | .r1 _, [.int j] => if small62 j then some (rangeD 0 j.toNat) else none
  | .r2 _ _, [.int i, .int j] => if small62 i && small62 j then some (rangeD i (j - i).toNat) else none
  | .enum _, [p] => (seqOf p).map (enumD 0)
  | .zip _ _, [p, q] => (seqOf p).bind fun a => (seqOf q).map (zipD a)
  | .zip3 _ _ _, [p, q, r] => (seqOf p).bind fun a => (seqOf q).bind fun b => (seqOf r).map (zip3D a b)
  | .items _, [.dict l] => some (l.map fun p => .tuple [p.1, p.2])
  | .values _, [.dict l] => some (l.map (·.2))
  | _, _ => none

/-! ### the evaluator -/
mutual
/-- a value: frozen, or new and nobody else's -/
def ev (c : Cx) : E → M W
  | .var i, env => (freeze i env).bind fun p e => .ok (.f p) e
  | .con p, env => .ok (.f p) env
  | .bin op a b, env => (evA c a env).bind fun x e => (evA c b e).bind fun y e => .of ((look e x).bind fun p => (look e y).bind fun q => binop op p q) e
  | .neg a, env => (evA c a env).bind fun x e => match look e x with
    | some (.int i) => .ok (.f (.int (-i))) e
    | _ => .bad
  | .not a, env => (evA c a env).bind fun x e => match look e x with
    | some (.bool b) => .ok (.f (.bool (!b))) e
    | _ => .bad
  | .and a b, env => (evA c a env).bind fun x e => match look e x with
    | some (.bool true) => ev c b e
    | some (.bool false) => .ok (.f (.bool false)) e
    | _ => .bad
  | .or a b, env => (evA c a env).bind fun x e => match look e x with
    | some (.bool false) => ev c b e
    | some (.bool true) => .ok (.f (.bool true)) e
    | _ => .bad
  | .cmp op a b, env => (evA c a env).bind fun x e => (evA c b e).bind fun y e => .of ((look e x).bind fun p => (look e y).bind fun q => (cmpop op p q).map fun b => W.f (.bool b)) e
  | .cmp2 o o' a b d, env => (evA c a env).bind fun x e => (evA c b e).bind fun y e => match (look e x).bind fun p => (look e y).bind fun q => cmpop o p q with
    | some true => (evA c d e).bind fun z e => .of ((look e y).bind fun p => (look e z).bind fun q => (cmpop o' p q).map fun b => W.f (.bool b)) e
    | some false => .ok (.f (.bool false)) e
    | none => .bad
  | .ife t a b, env => (tst c t env).bind fun k e => if k then ev c a e else ev c b e
  | .tup es, env => (evs c es env).bind fun l e => if sizeOk l.length then .ok (.f (.tuple l)) e else .bad
  | .lst es, env => (evs c es env).bind fun l e => if sizeOk l.length then .ok (.lst l) e else .bad
  | .dct ks vs, env => match ks with
    | .nil => .ok (.dct []) env
    | _ => .bad
  | .sett es, env => (evs c es env).bind fun l e => if l.all keyOk then .ok (.set (l.foldl sput [])) e else .bad
  | .idx a i, env => (evA c a env).bind fun x e => (evA c i e).bind fun y e => .of ((look e x).bind fun p => (look e y).bind fun q => (item p q).map W.f) e
  | .slc a lo hi, env => (evA c a env).bind fun x e => (evA c lo e).bind fun y e => (evA c hi e).bind fun z e => .of ((look e x).bind fun p => (look e y).bind fun q => (look e z).bind fun r => slice p q r) e
  | .rev a, env => (evA c a env).bind fun x e => .of ((look e x).bind revd) e
  | .bi f es, env => (evAs c es env).bind fun xs e => .of ((looks e xs).bind (bi f)) e
  | .isin a ts, env => (evA c a env).bind fun x e => .of ((look e x).map fun p => W.f (.bool (ts.any (isI p)))) e
  | .call f es, env => (evAs c es env).bind fun xs e => match c.G f with
    | some F => callF F xs e
    | none => .bad
  | .mth m a es, env => (evA c a env).bind fun x e => (evAs c es e).bind fun xs e => .of ((look e x).bind fun p => (looks e xs).bind fun l => mth m p l) e
  | .mu m i es, env => (evs c es env).bind fun l e => match e[i]? with
    | some (some w) => match mutr m w l with
      | some (w', p) => .ok (.f p) (e.set i (some w'))
      | none => .bad
    | _ => .bad
  | .lc own elt t it, env => (itm c it env).bind fun l e =>
      let e1 := freezeAll own e
      (lcR own (bindT c t) (evF c elt) l [] e1).bind fun acc e2 => if sizeOk acc.length then .ok (.lst acc) (restore own e1 e2) else .bad
  | .lcf own elt t it d, env => (itm c it env).bind fun l e =>
      let e1 := freezeAll own e
      (lcfR own (bindT c t) (tst c d) (evF c elt) l [] e1).bind fun acc e2 => if sizeOk acc.length then .ok (.lst acc) (restore own e1 e2) else .bad
  | .dc .., _ => .bad
  | .dcf .., _ => .bad
/-- a value, frozen -/
def evF (c : Cx) : E → M PyData
  | a, env => (ev c a env).bind fun w e => .of w.fz e
/-- an operand that is only looked at: a name stays what it is -/
def evA (c : Cx) : E → M Op
  | .var i, env => match peek env i with
    | some _ => .ok (.inl i) env
    | none => .bad
  | a, env => (ev c a env).bind fun w e => .of (w.fz.map .inr) e
def evAs (c : Cx) : Es → M (List Op)
  | .nil, env => .ok [] env
  | .cons a r, env => (evA c a env).bind fun x e => (evAs c r e).bind fun xs e => .ok (x :: xs) e
def evs (c : Cx) : Es → M (List PyData)
  | .nil, env => .ok [] env
  | .cons a r, env => (evF c a env).bind fun x e => (evs c r e).bind fun xs e => .ok (x :: xs) e
/-- a test -/
def tst (c : Cx) : E → M Bool
  | .not a, env => (tst c a env).bind fun b e => .ok (!b) e
  | .and a b, env => (tst c a env).bind fun k e => if k then tst c b e else .ok false e
  | .or a b, env => (tst c a env).bind fun k e => if k then .ok true e else tst c b e
  | a, env => (evA c a env).bind fun x e => .of ((look e x).bind truthy) e
/-- what is walked -/
def itm (c : Cx) : It → M (List PyData)
  | .e a, env => (evF c a env).bind fun p e => .of (itemsOf p) e
  | .r1 a, env => (evF c a env).bind fun p e => .of (iterOf (.r1 a) [p]) e
  | .r2 a b, env => (evF c a env).bind fun p e => (evF c b e).bind fun q e => .of (iterOf (.r2 a b) [p, q]) e
  | .r3 a b d, env => (evF c a env).bind fun p e => (evF c b e).bind fun q e => (evF c d e).bind fun r e => .of (iterOf (.r3 a b d) [p, q, r]) e
  | .enum a, env => (evF c a env).bind fun p e => .of (iterOf (.enum a) [p]) e
  | .zip a b, env => (evF c a env).bind fun p e => (evF c b e).bind fun q e => .of (iterOf (.zip a b) [p, q]) e
  | .zip3 a b d, env => (evF c a env).bind fun p e => (evF c b e).bind fun q e => (evF c d e).bind fun r e => .of (iterOf (.zip3 a b d) [p, q, r]) e
  | .items a, env => (evF c a env).bind fun p e => .of (iterOf (.items a) [p]) e
  | .values a, env => (evF c a env).bind fun p e => .of (iterOf (.values a) [p]) e
end
mutual
/-- a statement -/
noncomputable def xS (c : Cx) : S → M Flow
  | .asg t e, env => match t with
    | .name i => (ev c e env).bind fun w e1 => (store c i w e1).bind fun _ e2 => .ok .nx e2
    | t => (evF c e env).bind fun p e1 => (bindT c t p e1).bind fun _ e2 => .ok .nx e2
  | .ist i k e, env => (evF c e env).bind fun v e1 => (evA c k e1).bind fun y e2 => match e2[i]? with
    | some (some w) => match (look e2 y).bind fun q => putAt w q v with
      | some w' => .ok .nx (e2.set i (some w'))
      | none => .bad
    | _ => .bad
  | .aug i op e, env => match peek env i with
    | some p => (evF c e env).bind fun q e1 => (Res.of (binop op p q) e1).bind fun w e2 => (store c i w e2).bind fun _ e3 => .ok .nx e3
    | none => .bad
  | .augi i k op e, env => .bad
  | .ex e, env => (ev c e env).bind fun _ e1 => .ok .nx e1
  | .for t it b, env => (itm c it env).bind fun l e1 => forR (bindT c t) (xSs c b) l e1
  | .whl t b, env => whileR (tst c t) (xSs c b) env
  | .ife t a b, env => (tst c t env).bind fun k e => if k then xSs c a e else xSs c b e
  | .ret e, env => (ev c e env).bind fun w e1 => .ok (.ret w) e1
  | .retN, env => .ok (.ret (.f .none)) env
  | .brk, env => .ok .brk env
  | .cnt, env => .ok .ct env
  | .pass, env => .ok .nx env
  | .raise .., _ => .bad
noncomputable def xSs (c : Cx) : Ss → M Flow
  | .nil, env => .ok .nx env
  | .cons s r, env => (xS c s env).bind fun fl e => match fl with
    | .nx => xSs c r e
    | fl => .ok fl e
end
/-- a def: parameters, slots, what is lent, the body -/
structure Def where
  np : Nat
  ns : Nat
  io : List Bool
  body : Ss
def lent : List Bool → Nat → List Nat
  | [], _ => []
  | true :: r, i => i :: lent r (i + 1)
  | false :: r, i => lent r (i + 1)
def paramsOf (n : Nat) (env : Env) : Option (List W) := (env.take n).mapM id
noncomputable def Def.fn (d : Def) (G : Str → Option Fn) : Fn where
  io := d.io
  run := fun ws => if ws.length = d.np then
      match xSs ⟨G, lent d.io 0⟩ d.body (ws.map some ++ List.replicate (d.ns - d.np) none) with
      | .ok .nx e => .ret (.f .none) ((e.take d.np).map fun o => o.getD (.f .none))
      | .ok (.ret w) e => .ret w ((e.take d.np).map fun o => o.getD (.f .none))
      | .exc x e => .exc x ((e.take d.np).map fun o => o.getD (.f .none))
      | _ => .bad
    else .bad
end Z

/-! Z2: how trees stand in the abstract heap; what a step keeps. -/
namespace Z
open PySem PySem.Spec PyProof.Rows L2

mutual
/-- a key's kind up to == -/
def nk : PyData → NestedKey
  | .none => .none
  | .bool b => .num (if b = true then 1 else 0)
  | .int i => .num i
  | .str x => .text x
  | .tuple l => .tup (nks l)
  | .list _ | .dict _ => .none
def nks : List PyData → List NestedKey
  | [] => []
  | x :: xs => nk x :: nks xs
end

def EntR (e : Int × V × V) (d : DictEntry) : Prop := e.1 = d.hash ∧ RelV e.2.1 d.key ∧ RelV e.2.2 d.val
/-- a dict with any keys: its entries -/
def DO (a : Addr) (ep : Nat) (es : List (Int × V × V)) : HO := .ext fun h => ∃ o ents, h.get? a = some o ∧ o.ExactDict ∧ o.data = .dict ents ep ∧ Paired EntR es ents.toList
def SetR (e : Int × V) (d : Int × Value) : Prop := e.1 = d.1 ∧ RelV e.2 d.2
/-- a set with any members -/
def SO (a : Addr) (es : List (Int × V)) : HO := .ext fun h => ∃ o ents ep t, h.get? a = some o ∧ o.ExactSet ∧ o.data = .set ents ep t ∧ Paired SetR es ents.toList ∧ ents.size < scanBound ∧ t.fits ents.size = true

/-- frozen cells -/
abbrev Fz := Addr → Prop
variable (w : World) (K : PySem.W.Frag)

/-- a list, a tuple of the written part -/
def KT (a : Addr) (xs : List V) : Prop := ∃ (o : Obj) (its : Array Value) (n : Nat), K.lookup a = some o ∧ o.cls = .type "tuple" ∧ o.data = .seq its n ∧ its.size ≤ sizeLine ∧ Vals xs its.toList

/-- a list of the written part -/
def KLs (a : Addr) (xs : List V) : Prop := ∃ its : List Value, K.lookup a = some { cls := .type "list", data := .seq its.toArray } ∧ its.length ≤ sizeLine ∧ Vals xs its
def LsR (H : Hp) (a : Addr) (xs : List V) : Prop := Rd H a (.lst xs) ∨ KLs K a xs
def LsF (F : Fz) (H : Hp) (a : Addr) (xs : List V) : Prop := (F a ∧ Rd H a (.lst xs)) ∨ KLs K a xs
def TpF (F : Fz) (H : Hp) (a : Addr) (xs : List V) : Prop := (F a ∧ Rd H a (.tup xs)) ∨ KT K a xs

def RdD (H : Hp) (a : Addr) (es : List (Int × V × V)) : Prop := ∃ ep, Rd H a (DO a ep es)
theorem RdD.ok {P : Program} {w : World} {H : Hp} {hp : Heap} {a : Addr} {es : List (Int × V × V)} (h : RdD H a es) (ok : HOk P w H hp) : (∃ o ents ep, hp.get? a = some o ∧ o.ExactDict ∧ o.data = .dict ents ep ∧ Paired EntR es ents.toList) ∧ True := by
  obtain ⟨ep, h⟩ := h
  obtain ⟨⟨o, ents, ho, hc, hd, pr⟩, _⟩ := h.ok ok
  exact ⟨⟨o, ents, ep, ho, hc, hd, pr⟩, trivial⟩
def DcF (F : Fz) (H : Hp) (a : Addr) (es : List (Int × V × V)) : Prop := RdD H a es ∧ F a ∧ (a == sysModules) = false

mutual
inductive RepD (F : Fz) (H : Hp) : V → PyData → Prop
  | none : RepD F H .non .none
  | bool (b) : RepD F H (.bl b) (.bool b)
  | int (i) : RepD F H (.int i) (.int i)
  | str (x) : RepD F H (.str x) (.str x)
  | list {a xs ps} : LsF K F H a xs → RepDs F H xs ps → RepD F H (.ref a) (.list ps)
  | tuple {a xs ps} : TpF K F H a xs → RepDs F H xs ps → RepD F H (.ref a) (.tuple ps)
  | dict {a es kvs} : DcF F H a es → RepEs F H es kvs → kvs.Pairwise (fun p q => p.1.eqv q.1 = false) → RepD F H (.ref a) (.dict kvs)
inductive RepDs (F : Fz) (H : Hp) : List V → List PyData → Prop
  | nil : RepDs F H [] []
  | cons {v vs p ps} : RepD F H v p → RepDs F H vs ps → RepDs F H (v :: vs) (p :: ps)
inductive RepEs (F : Fz) (H : Hp) : List (Int × V × V) → List (PyData × PyData) → Prop
  | nil : RepEs F H [] []
  | cons {i k v es pk pv kvs} : i = (nk pk).hash w → keyOk pk = true → RepD F H k pk → RepD F H v pv → RepEs F H es kvs → RepEs F H ((i, k, v) :: es) ((pk, pv) :: kvs)
end

/-- looked at: the outermost cell need not stay -/
def RepV (F : Fz) (H : Hp) (v : V) (p : PyData) : Prop := RepD w K F H v p ∨
  (∃ a xs ps, p = .list ps ∧ v = .ref a ∧ H a = some (.lst xs) ∧ RepDs w K F H xs ps) ∨
  (∃ a ep es kvs, p = .dict kvs ∧ v = .ref a ∧ H a = some (DO a ep es) ∧ (a == sysModules) = false ∧ RepEs w K F H es kvs ∧ kvs.Pairwise (fun p q => p.1.eqv q.1 = false))

inductive RepKs (F : Fz) (H : Hp) : List (Int × V) → List PyData → Prop
  | nil : RepKs F H [] []
  | cons {i k es pk ps} : i = (nk pk).hash w → keyOk pk = true → RepD w K F H k pk → RepKs F H es ps → RepKs F H ((i, k) :: es) (pk :: ps)

/-- what a name holds, and the cells that are its own -/
inductive RepW (F : Fz) (H : Hp) : V → W → List Addr → Prop
  | f {v p} : RepD w K F H v p → RepW F H v (.f p) []
  | lst {a xs ps} : H a = some (.lst xs) → RepDs w K F H xs ps → RepW F H (.ref a) (.lst ps) [a]
  | dct {a ep es kvs} : H a = some (DO a ep es) → (a == sysModules) = false → RepEs w K F H es kvs → kvs.Pairwise (fun p q => p.1.eqv q.1 = false) → RepW F H (.ref a) (.dct kvs) [a]
  | set {a es ps} : H a = some (SO a es) → RepKs w K F H es ps → ps.Pairwise (fun p q => p.eqv q = false) → RepW F H (.ref a) (.set ps) [a]

inductive RepE (F : Fz) (H : Hp) : L2.St → Env → List Addr → Prop
  | nil : RepE F H [] [] []
  | no {x σ env fp} : RepE F H σ env fp → RepE F H (x :: σ) (none :: env) fp
  | so {v wv σ env fp fp'} : RepW w K F H v wv fp → RepE F H σ env fp' → RepE F H (some v :: σ) (some wv :: env) (fp ++ fp')

/-- the state: frozen cells, the abstract heap, the names' values and what they mean, the cells that are the names' own -/
structure R (F : Fz) (H : Hp) (σ : L2.St) (env : Env) (fp : List Addr) : Prop where
  good : ∀ a, F a → H a ≠ none
  rep : RepE w K F H σ env fp
  nd : fp.Nodup
  dj : ∀ a ∈ fp, ¬ F a

/-- a step: frozen cells stay frozen and as they are; own cells may change -/
structure Step (F : Fz) (fp : List Addr) (H : Hp) (F' : Fz) (fp' : List Addr) (H' : Hp) : Prop where
  grow : ∀ a, F a → F' a
  fr : ∀ a, F' a → F a ∨ a ∈ fp ∨ H a = none
  own : ∀ a ∈ fp', a ∈ fp ∨ H a = none
  rd : ∀ a u, Rd H a u → a ∉ fp → Rd H' a u
  ex : ∀ a u, H a = some u → a ∉ fp → H' a = some u
  dom : ∀ a, H a ≠ none → H' a ≠ none

section
variable {w : World} {K : PySem.W.Frag} {F F' F'' : Fz} {H H' H'' : Hp} {fp fp' fp'' : List Addr}
theorem Rd.some {a : Addr} {u : HO} (h : Rd H a u) : H a ≠ none := by
  rcases h with h | ⟨o, h⟩ <;> rw [h] <;> simp
theorem Step.refl : Step F fp H F fp H := ⟨fun _ h => h, fun _ h => .inl h, fun _ h => .inl h, fun _ _ h _ => h, fun _ _ h _ => h, fun _ h => h⟩
theorem Step.trans (s : Step F fp H F' fp' H') (t : Step F' fp' H' F'' fp'' H'') : Step F fp H F'' fp'' H'' where
  grow := fun a h => t.grow a (s.grow a h)
  fr := fun a h => by
    rcases t.fr a h with h | h | h
    · exact s.fr a h
    · rcases s.own a h with h | h
      · exact .inr (.inl h)
      · exact .inr (.inr h)
    · refine .inr (.inr ?_)
      cases q : H a with
      | none => rfl
      | some u => exact absurd h (s.dom a (by rw [q]; simp))
  own := fun a h => by
    rcases t.own a h with h | h
    · exact s.own a h
    · refine .inr ?_
      cases q : H a with
      | none => rfl
      | some u => exact absurd h (s.dom a (by rw [q]; simp))
  rd := fun a u h n => t.rd a u (s.rd a u h n) fun z => by
    rcases s.own a z with z | z
    · exact n z
    · exact Rd.some h z
  ex := fun a u h n => t.ex a u (s.ex a u h n) fun z => by
    rcases s.own a z with z | z
    · exact n z
    · rw [h] at z; cases z
  dom := fun a h => t.dom a (s.dom a h)

theorem KLs.sq {a : Addr} {xs : List V} (h : KLs K a xs) : SqL K H a xs := by
  obtain ⟨its, e, z, r⟩ := h
  exact .inr ⟨_, its.toArray, 0, e, rfl, rfl, rfl, by simpa using z, by simpa using r⟩
theorem LsF.r {a : Addr} {xs : List V} (h : LsF K F H a xs) : LsR K H a xs := h.imp (fun q => q.2) id
theorem LsR.sq {a : Addr} {xs : List V} (h : LsR K H a xs) : SqL K H a xs := h.elim .inl KLs.sq
theorem LsF.sq {a : Addr} {xs : List V} (h : LsF K F H a xs) : SqL K H a xs := h.r.sq
theorem TpF.sq {a : Addr} {xs : List V} (h : TpF K F H a xs) : SqT K H a xs := h.elim (fun q => .inl q.2) .inr
/-- what keeps frozen things -/
structure Kp (F : Fz) (H : Hp) (F' : Fz) (H' : Hp) : Prop where
  grow : ∀ a, F a → F' a
  rd : ∀ a u, F a → Rd H a u → Rd H' a u
theorem Step.kp (st : Step F fp H F' fp' H') (dj : ∀ a ∈ fp, ¬ F a) : Kp F H F' H' := ⟨st.grow, fun a u f h => st.rd a u h fun z => dj a z f⟩
theorem LsF.mono {a : Addr} {xs : List V} (k : Kp F H F' H') (h : LsF K F H a xs) : LsF K F' H' a xs := h.elim (fun q => .inl ⟨k.grow a q.1, k.rd a _ q.1 q.2⟩) .inr
theorem TpF.mono {a : Addr} {xs : List V} (k : Kp F H F' H') (h : TpF K F H a xs) : TpF K F' H' a xs := h.elim (fun q => .inl ⟨k.grow a q.1, k.rd a _ q.1 q.2⟩) .inr
theorem DcF.mono {a : Addr} {es : List (Int × V × V)} (k : Kp F H F' H') (h : DcF F H a es) : DcF F' H' a es := ⟨h.1.elim fun ep z => ⟨ep, k.rd a _ h.2.1 z⟩, k.grow a h.2.1, h.2.2⟩
mutual
theorem RepD.mono (k : Kp F H F' H') : ∀ {v : V} {p : PyData}, RepD w K F H v p → RepD w K F' H' v p
  | _, _, .none => .none
  | _, _, .bool b => .bool b
  | _, _, .int i => .int i
  | _, _, .str x => .str x
  | _, _, .list h r => .list (h.mono k) (RepDs.mono k r)
  | _, _, .tuple h r => .tuple (h.mono k) (RepDs.mono k r)
  | _, _, .dict h r n => .dict (h.mono k) (RepEs.mono k r) n
theorem RepDs.mono (k : Kp F H F' H') : ∀ {vs : List V} {ps : List PyData}, RepDs w K F H vs ps → RepDs w K F' H' vs ps
  | _, _, .nil => .nil
  | _, _, .cons h r => .cons (RepD.mono k h) (RepDs.mono k r)
theorem RepEs.mono (k : Kp F H F' H') : ∀ {es : List (Int × V × V)} {kvs : List (PyData × PyData)}, RepEs w K F H es kvs → RepEs w K F' H' es kvs
  | _, _, .nil => .nil
  | _, _, .cons a b c d r => .cons a b (RepD.mono k c) (RepD.mono k d) (RepEs.mono k r)
end
theorem RepKs.mono (k : Kp F H F' H') : ∀ {es : List (Int × V)} {ps : List PyData}, RepKs w K F H es ps → RepKs w K F' H' es ps
  | _, _, .nil => .nil
  | _, _, .cons a b c r => .cons a b (c.mono k) (RepKs.mono k r)
theorem RepW.mono (k : Kp F H F' H') {v : V} {x : W} {q : List Addr} (ex : ∀ a ∈ q, ∀ u, H a = some u → H' a = some u) (h : RepW w K F H v x q) : RepW w K F' H' v x q := by
  cases h with
  | f r => exact .f (r.mono k)
  | lst h r => exact .lst (ex _ (by simp) _ h) (r.mono k)
  | dct h z r n => exact .dct (ex _ (by simp) _ h) z (r.mono k) n
  | set h r n => exact .set (ex _ (by simp) _ h) (r.mono k) n
theorem RepE.mono (k : Kp F H F' H') : ∀ {σ : L2.St} {env : Env} {q : List Addr}, (∀ a ∈ q, ∀ u, H a = some u → H' a = some u) → RepE w K F H σ env q → RepE w K F' H' σ env q
  | _, _, _, _, .nil => .nil
  | _, _, _, ex, .no r => .no (RepE.mono k ex r)
  | _, _, _, ex, .so h r => .so (h.mono k fun a ha => ex a (List.mem_append_left _ ha)) (RepE.mono k (fun a ha => ex a (List.mem_append_right _ ha)) r)

/-! ### lists of trees -/
theorem RepDs.length {vs : List V} {ps : List PyData} (h : RepDs w K F H vs ps) : vs.length = ps.length := by
  induction vs generalizing ps with
  | nil => cases h; rfl
  | cons v vs ih => cases h with | cons a b => simp [ih b]
theorem RepDs.get {vs : List V} {ps : List PyData} (h : RepDs w K F H vs ps) {i : Nat} {p : PyData} (hp : ps[i]? = some p) : ∃ v, vs[i]? = some v ∧ RepD w K F H v p := by
  induction vs generalizing ps i with
  | nil => cases h; simp at hp
  | cons v vs ih =>
    cases h with
    | cons a b =>
      cases i with
      | zero => simp at hp; subst hp; exact ⟨v, rfl, a⟩
      | succ i => simpa using ih b (by simpa using hp)
theorem RepDs.append {vs vs' : List V} {ps ps' : List PyData} (h : RepDs w K F H vs ps) (h' : RepDs w K F H vs' ps') : RepDs w K F H (vs ++ vs') (ps ++ ps') := by
  induction vs generalizing ps with
  | nil => cases h; exact h'
  | cons v vs ih => cases h with | cons a b => exact .cons a (ih b)
theorem RepDs.drop {vs : List V} {ps : List PyData} (h : RepDs w K F H vs ps) (n : Nat) : RepDs w K F H (vs.drop n) (ps.drop n) := by
  induction n generalizing vs ps with
  | zero => simpa using h
  | succ n ih =>
    cases h with
    | nil => exact .nil
    | cons a b => simpa using ih b
theorem RepDs.take {vs : List V} {ps : List PyData} (h : RepDs w K F H vs ps) (n : Nat) : RepDs w K F H (vs.take n) (ps.take n) := by
  induction n generalizing vs ps with
  | zero => exact .nil
  | succ n ih =>
    cases h with
    | nil => exact .nil
    | cons a b => simpa using .cons a (ih b)
theorem RepDs.reverse {vs : List V} {ps : List PyData} (h : RepDs w K F H vs ps) : RepDs w K F H vs.reverse ps.reverse := by
  induction vs generalizing ps with
  | nil => cases h; exact .nil
  | cons v vs ih =>
    cases h with
    | cons a b =>
      rw [List.reverse_cons, List.reverse_cons]
      exact (ih b).append (.cons a .nil)
theorem RepDs.set {vs : List V} {ps : List PyData} (h : RepDs w K F H vs ps) {v : V} {p : PyData} (r : RepD w K F H v p) (i : Nat) : RepDs w K F H (vs.set i v) (ps.set i p) := by
  induction vs generalizing ps i with
  | nil => cases h; exact .nil
  | cons x vs ih =>
    cases h with
    | cons a b =>
      cases i with
      | zero => exact .cons r b
      | succ i => exact .cons a (ih b i)
theorem RepDs.replicate {v : V} {p : PyData} (r : RepD w K F H v p) : ∀ n, RepDs w K F H (List.replicate n v) (List.replicate n p)
  | 0 => .nil
  | n + 1 => .cons r (RepDs.replicate r n)

/-! ### from the abstract heap to the model's -/
mutual
theorem RepD.reads {P : Program} {hp : Heap} (ok : HOk P w H hp) (k : K.In hp) : ∀ {v : V} {p : PyData}, RepD w K F H v p → ∀ {u : Value}, RelV v u → ∃ as, Reads hp u p as
  | _, _, .none, _, r => by cases r; exact ⟨_, .none⟩
  | _, _, .bool b, _, r => by cases r; exact ⟨_, .bool b⟩
  | _, _, .int i, _, r => by obtain ⟨t, rfl⟩ := r; exact ⟨_, .int i t⟩
  | _, _, .str x, _, r => by obtain ⟨t, rfl⟩ := r; exact ⟨_, .str x t⟩
  | _, _, .list h rs, _, r => by
    cases r
    rcases h with ⟨_, h⟩ | ⟨its, e, _, rv⟩
    · obtain ⟨z, its, n, rv, e⟩ := h.ok ok
      obtain ⟨as, q⟩ := RepDs.reads ok k rs rv
      exact ⟨_, .list e rfl rfl (by simpa using q)⟩
    · obtain ⟨as, q⟩ := RepDs.reads ok k rs rv
      exact ⟨_, .list (k _ _ e) rfl rfl (by simpa using q)⟩
  | _, _, .tuple h rs, _, r => by
    cases r
    rcases h with ⟨_, h⟩ | ⟨o, its, n, hk, hc, hs, hz, rv⟩
    · obtain ⟨z, its, rv, o, e, hc, n, hd⟩ := h.ok ok
      obtain ⟨as, q⟩ := RepDs.reads ok k rs rv
      exact ⟨_, .tuple e hc hd (by simpa using q)⟩
    · obtain ⟨as, q⟩ := RepDs.reads ok k rs rv
      exact ⟨_, .tuple (k _ o hk) hc hs q⟩
  | _, _, .dict h rs _, _, r => by
    cases r
    obtain ⟨⟨o, ents, ep, e, hc, hd, pr⟩, _⟩ := h.1.ok ok
    obtain ⟨as, bs, q1, q2⟩ := RepEs.reads ok k rs pr
    exact ⟨_, .dict e hc.1 hd q1 q2⟩
theorem RepDs.reads {P : Program} {hp : Heap} (ok : HOk P w H hp) (k : K.In hp) : ∀ {vs : List V} {ps : List PyData}, RepDs w K F H vs ps → ∀ {us : List Value}, Vals vs us → ∃ as, ReadsAll hp us ps as
  | _, _, .nil, _, r => by cases r; exact ⟨_, .nil⟩
  | _, _, .cons h rs, _, r => by
    cases r with
    | cons r1 r2 =>
      obtain ⟨as, q1⟩ := RepD.reads ok k h r1
      obtain ⟨bs, q2⟩ := RepDs.reads ok k rs r2
      exact ⟨_, .cons q1 q2⟩
theorem RepEs.reads {P : Program} {hp : Heap} (ok : HOk P w H hp) (k : K.In hp) : ∀ {es : List (Int × V × V)} {kvs : List (PyData × PyData)}, RepEs w K F H es kvs → ∀ {ds : List DictEntry}, Paired EntR es ds →
    ∃ as bs, ReadsAll hp (ds.map (·.key)) (kvs.map (·.1)) as ∧ ReadsAll hp (ds.map (·.val)) (kvs.map (·.2)) bs
  | _, _, .nil, _, r => by cases r; exact ⟨_, _, .nil, .nil⟩
  | _, _, .cons _ _ h1 h2 rs, _, r => by
    cases r with
    | cons e r2 =>
      obtain ⟨as, q1⟩ := RepD.reads ok k h1 e.2.1
      obtain ⟨bs, q2⟩ := RepD.reads ok k h2 e.2.2
      obtain ⟨as', bs', q3, q4⟩ := RepEs.reads ok k rs r2
      exact ⟨_, _, .cons q1 q3, .cons q2 q4⟩
end
end
end Z

/-! Z3: names and cells: reading, storing, freezing; new objects, changed objects. -/
namespace Z
open PySem PySem.Spec PyProof.Rows L2
section
variable {w : World} {K : PySem.W.Frag} {F F' F'' : Fz} {H H' H'' : Hp} {fp fp' fp'' : List Addr} {σ : L2.St} {env : Env}

theorem RepE.len : ∀ {σ : L2.St} {env : Env} {fp : List Addr}, RepE w K F H σ env fp → σ.length = env.length
  | _, _, _, .nil => rfl
  | _, _, _, .no r => by simp [RepE.len r]
  | _, _, _, .so _ r => by simp [RepE.len r]

/-- a slot and the rest -/
theorem RepE.split : ∀ {σ : L2.St} {env : Env} {fp : List Addr}, RepE w K F H σ env fp → ∀ {i : Nat} {o : Option W}, env[i]? = some o →
    ∃ l q r, fp = l ++ q ++ r ∧ (∀ wv, o = some wv → ∃ v, σ[i]? = some (some v) ∧ RepW w K F H v wv q) ∧ (o = none → q = []) ∧
      (∀ F' H', Kp F H F' H' → (∀ a ∈ l ++ r, ∀ u, H a = some u → H' a = some u) → ∀ v' w' q', RepW w K F' H' v' w' q' → RepE w K F' H' (σ.set i (some v')) (env.set i (some w')) (l ++ q' ++ r)) ∧
      (∀ F' H', Kp F H F' H' → (∀ a ∈ l ++ r, ∀ u, H a = some u → H' a = some u) → ∀ x, RepE w K F' H' (σ.set i x) (env.set i none) (l ++ r)) ∧
      (∀ F' H', Kp F H F' H' → (∀ a ∈ l ++ r, ∀ u, H a = some u → H' a = some u) → RepE w K F' H' σ (env.set i none) (l ++ r))
  | _, _, _, .nil, i, o, h => by simp at h
  | x :: σ, _, fp, .no r, 0, o, h => by
    simp at h
    subst h
    refine ⟨[], [], fp, rfl, fun _ h => (nomatch h), fun _ => rfl, fun F' H' k ex v' w' q' rw' => ?_, fun F' H' k ex x => ?_, fun F' H' k ex => ?_⟩
    · exact .so rw' (r.mono k fun a ha => ex a (by simpa using ha))
    · exact .no (r.mono k fun a ha => ex a (by simpa using ha))
    · exact .no (r.mono k fun a ha => ex a (by simpa using ha))
  | x :: σ, _, fp, .no (σ := _) (env := env) r, i + 1, o, h => by
    obtain ⟨l, q, rr, e, h1, h2, h3, h4, h5⟩ := RepE.split r (i := i) (o := o) (by simpa using h)
    refine ⟨l, q, rr, e, fun wv ho => ?_, h2, fun F' H' k ex v' w' q' rw' => ?_, fun F' H' k ex x => ?_, fun F' H' k ex => ?_⟩
    · obtain ⟨v, a, b⟩ := h1 wv ho
      exact ⟨v, by simpa using a, b⟩
    · exact .no (h3 F' H' k ex v' w' q' rw')
    · exact .no (h4 F' H' k ex x)
    · exact .no (h5 F' H' k ex)
  | _, _, _, .so (v := v) (wv := wv) (σ := σ) (env := env) (fp := q) (fp' := fp') a r, 0, o, h => by
    simp at h
    subst h
    refine ⟨[], q, fp', rfl, fun wv' ho => ?_, fun h => (nomatch h), fun F' H' k ex v' w' q' rw' => ?_, fun F' H' k ex x => ?_, fun F' H' k ex => ?_⟩
    · cases ho; exact ⟨v, rfl, a⟩
    · exact .so rw' (r.mono k fun a ha => ex a (by simpa using ha))
    · exact .no (r.mono k fun a ha => ex a (by simpa using ha))
    · exact .no (r.mono k fun a ha => ex a (by simpa using ha))
  | _, _, _, .so (v := v) (wv := wv) (σ := σ) (env := env) (fp := q0) (fp' := fp') a r, i + 1, o, h => by
    obtain ⟨l, q, rr, e, h1, h2, h3, h4, h5⟩ := RepE.split r (i := i) (o := o) (by simpa using h)
    refine ⟨q0 ++ l, q, rr, by rw [e]; simp, fun wv ho => ?_, h2, fun F' H' k ex v' w' q' rw' => ?_, fun F' H' k ex x => ?_, fun F' H' k ex => ?_⟩
    · obtain ⟨v, a, b⟩ := h1 wv ho
      exact ⟨v, by simpa using a, b⟩
    · have := h3 F' H' k (fun a ha => ex a (by simp at ha ⊢; rcases ha with z | z; exact .inr (.inl z); exact .inr (.inr z))) v' w' q' rw'
      have z := RepE.so (a.mono k fun a ha => ex a (by simp [ha])) this
      simpa [List.append_assoc] using z
    · have := h4 F' H' k (fun a ha => ex a (by simp at ha ⊢; rcases ha with z | z; exact .inr (.inl z); exact .inr (.inr z))) x
      have z := RepE.so (a.mono k fun a ha => ex a (by simp [ha])) this
      simpa [List.append_assoc] using z
    · have := h5 F' H' k (fun a ha => ex a (by simp at ha ⊢; rcases ha with z | z; exact .inr (.inl z); exact .inr (.inr z)))
      have z := RepE.so (a.mono k fun a ha => ex a (by simp [ha])) this
      simpa [List.append_assoc] using z

theorem Kp.refl : Kp F H F H := ⟨fun _ h => h, fun _ _ _ h => h⟩
theorem Kp.more {q : List Addr} : Kp F H (fun a => F a ∨ a ∈ q) H := ⟨fun _ h => .inl h, fun _ _ _ h => h⟩

/-- own cells become frozen -/
theorem RepW.freeze {v : V} {x : W} {q : List Addr} {p : PyData} (h : RepW w K F H v x q) (e : x.fz = some p) : RepD w K (fun a => F a ∨ a ∈ q) H v p := by
  cases h with
  | f r => cases e; exact r.mono .more
  | lst h r => cases e; exact .list (.inl ⟨.inr (by simp), .inl h⟩) (r.mono .more)
  | dct h z r n => cases e; exact .dict ⟨⟨_, .inl h⟩, .inr (by simp), z⟩ (r.mono .more) n
  | set h r n => cases e
theorem RepW.view {v : V} {x : W} {q : List Addr} {p : PyData} (h : RepW w K F H v x q) (e : x.fz = some p) : RepV w K F H v p := by
  cases h with
  | f r => cases e; exact .inl r
  | lst h r => cases e; exact .inr (.inl ⟨_, _, _, rfl, rfl, h, r⟩)
  | dct h z r n => cases e; exact .inr (.inr ⟨_, _, _, _, rfl, rfl, h, z, r, n⟩)
  | set h r n => cases e
/-- own cells are tracked -/
theorem RepW.trk {v : V} {x : W} {q : List Addr} (h : RepW w K F H v x q) : ∀ a ∈ q, H a ≠ none := by
  intro a ha
  cases h with
  | f r => simp at ha
  | lst h r => simp at ha; subst ha; rw [h]; simp
  | dct h z r n => simp at ha; subst ha; rw [h]; simp
  | set h r n => simp at ha; subst ha; rw [h]; simp
theorem RepE.trk : ∀ {σ : L2.St} {env : Env} {fp : List Addr}, RepE w K F H σ env fp → ∀ a ∈ fp, H a ≠ none
  | _, _, _, .nil, a, ha => by simp at ha
  | _, _, _, .no r, a, ha => RepE.trk r a ha
  | _, _, _, .so x r, a, ha => by
    rcases List.mem_append.mp ha with z | z
    · exact x.trk a z
    · exact RepE.trk r a z

theorem R.peek (r : R w K F H σ env fp) {i : Nat} {p : PyData} (h : peek env i = some p) : ∃ v, σ[i]? = some (some v) ∧ RepV w K F H v p := by
  unfold Z.peek at h
  split at h
  · rename_i x e
    obtain ⟨l, q, rr, e1, h1, _⟩ := r.rep.split e
    obtain ⟨v, e2, rw'⟩ := h1 x rfl
    exact ⟨v, e2, rw'.view h⟩
  · cases h
/-- a value at a name of which the value is known -/
theorem R.at (r : R w K F H σ env fp) {i : Nat} {p : PyData} {v : V} (h : Z.peek env i = some p) (hv : σ[i]? = some (some v)) : RepV w K F H v p := by
  obtain ⟨v', e, q⟩ := r.peek h
  rw [hv] at e
  cases e
  exact q
theorem R.freeze (r : R w K F H σ env fp) {i : Nat} {p : PyData} (h : Z.peek env i = some p) :
    ∃ F' fp' v, Step F fp H F' fp' H ∧ R w K F' H σ (env.set i (some (.f p))) fp' ∧ σ[i]? = some (some v) ∧ RepD w K F' H v p := by
  unfold Z.peek at h
  split at h
  · rename_i x e
    obtain ⟨l, q, rr, e1, h1, h2, h3, h4, h5⟩ := r.rep.split e
    obtain ⟨v, e2, rw'⟩ := h1 x rfl
    subst e1
    have hd := rw'.freeze h
    have hi := (List.getElem?_eq_some_iff.mp e2).1
    have hs : σ.set i (some v) = σ := by
      obtain ⟨_, e3⟩ := List.getElem?_eq_some_iff.mp e2
      rw [← e3, List.set_getElem_self]
    have nd := r.nd
    refine ⟨fun a => F a ∨ a ∈ q, l ++ rr, v, ⟨fun _ h => .inl h, fun a h => ?_, fun a ha => ?_, fun _ _ h _ => h, fun _ _ h _ => h, fun _ h => h⟩, ⟨fun a h => ?_, ?_, ?_, fun a ha hf => ?_⟩, e2, hd⟩
    · rcases h with h | h
      · exact .inl h
      · exact .inr (.inl (by simp [h]))
    · refine .inl ?_
      rcases List.mem_append.mp ha with z | z <;> simp [z]
    · rcases h with h | h
      · exact r.good a h
      · exact rw'.trk a h
    · have := h3 (fun a => F a ∨ a ∈ q) H .more (fun _ _ _ h => h) v (.f p) [] (.f hd)
      rw [hs] at this
      simpa using this
    · rw [List.nodup_append, List.nodup_append] at nd
      obtain ⟨⟨n1, n2, n3⟩, n4, n5⟩ := nd
      rw [List.nodup_append]
      exact ⟨n1, n4, fun a ha b hb => n5 a (List.mem_append_left _ ha) b hb⟩
    · rcases hf with hf | hf
      · exact r.dj a (by rcases List.mem_append.mp ha with z | z <;> simp [z]) hf
      · rw [List.nodup_append, List.nodup_append] at nd
        obtain ⟨⟨n1, n2, n3⟩, n4, n5⟩ := nd
        rcases List.mem_append.mp ha with z | z
        · exact n3 a z a hf rfl
        · exact n5 a (List.mem_append_right _ hf) a z rfl
  · cases h

/-- what a value brings with it: its own cells apart from all others -/
structure Ow (w : World) (K : PySem.W.Frag) (F : Fz) (H : Hp) (v : V) (x : W) (q fp : List Addr) : Prop where
  rep : RepW w K F H v x q
  nd : (q ++ fp).Nodup
  dj : ∀ a ∈ q, ¬ F a
theorem Ow.f {v : V} {p : PyData} (r : RepD w K F H v p) (n : fp.Nodup) : Ow w K F H v (.f p) [] fp := ⟨.f r, by simpa using n, fun _ h => by simp at h⟩

/-- a value is stored -/
theorem R.store (r : R w K F H σ env fp) {v : V} {x : W} {q : List Addr} (o : Ow w K F H v x q fp) {i : Nat} (hi : i < env.length) :
    ∃ fp', Step F (q ++ fp) H F fp' H ∧ R w K F H (σ.set i (some v)) (env.set i (some x)) fp' := by
  obtain ⟨l, q0, rr, e1, h1, h2, h3, h4, h5⟩ := r.rep.split (i := i) (o := env[i]) (List.getElem?_eq_getElem hi)
  subst e1
  have nd := o.nd
  refine ⟨l ++ q ++ rr, ⟨fun _ h => h, fun _ h => .inl h, fun a ha => .inl ?_, fun _ _ h _ => h, fun _ _ h _ => h, fun _ h => h⟩, ⟨r.good, h3 F H .refl (fun _ _ _ h => h) v x q o.rep, ?_, fun a ha => ?_⟩⟩
  · simp at ha ⊢
    rcases ha with z | z | z <;> simp [z]
  · simp only [List.nodup_append, List.mem_append] at nd ⊢
    grind
  · simp only [List.mem_append] at ha
    rcases ha with (z | z) | z
    · exact r.dj a (by simp [z])
    · exact o.dj a z
    · exact r.dj a (by simp [z])

/-! ### new objects -/
theorem Kp.new {a : Addr} {o : HO} (good : ∀ a, F a → H a ≠ none) (n : H a = none) (q : Fz) (hq : ∀ b, F b → q b) : Kp F H q (upd H a o) := ⟨hq, fun b u f h => by
  have nb : b ≠ a := fun e => by subst e; exact good b f n
  unfold Rd at h ⊢
  rw [upd_ne nb]
  exact h⟩
theorem rd_upd {a b : Addr} {o u : HO} (n : H a = none) (h : Rd H b u) : Rd (upd H a o) b u := by
  have nb : b ≠ a := fun e => by subst e; exact Rd.some h n
  unfold Rd at h ⊢
  rw [upd_ne nb]
  exact h
theorem ex_upd {a b : Addr} {o u : HO} (n : H a = none) (h : H b = some u) : upd H a o b = some u := by
  have nb : b ≠ a := fun e => by subst e; rw [h] at n; cases n
  rw [upd_ne nb]
  exact h
theorem dom_upd {a b : Addr} {o : HO} (h : H b ≠ none) : upd H a o b ≠ none := by
  unfold upd
  split
  · simp
  · exact h
/-- a new frozen object -/
theorem R.newF (r : R w K F H σ env fp) {a : Addr} {o : HO} (n : H a = none) :
    Step F fp H (fun b => F b ∨ b = a) fp (upd H a o) ∧ R w K (fun b => F b ∨ b = a) (upd H a o) σ env fp ∧ Kp F H (fun b => F b ∨ b = a) (upd H a o) := by
  have k : Kp F H (fun b => F b ∨ b = a) (upd H a o) := Kp.new r.good n _ fun _ h => .inl h
  refine ⟨⟨fun _ h => .inl h, fun b h => ?_, fun b h => .inl h, fun b u h _ => rd_upd n h, fun b u h _ => ex_upd n h, fun b h => dom_upd h⟩, ⟨fun b h => ?_, r.rep.mono k fun b _ u h => ex_upd n h, r.nd, fun b hb h => ?_⟩, k⟩
  · rcases h with h | rfl
    · exact .inl h
    · exact .inr (.inr n)
  · rcases h with h | rfl
    · exact dom_upd (r.good b h)
    · rw [upd_same]; simp
  · rcases h with h | rfl
    · exact r.dj b hb h
    · exact r.rep.trk b hb n
/-- a new object that is one's own -/
theorem R.newO (r : R w K F H σ env fp) {a : Addr} {o : HO} (n : H a = none) :
    Step F fp H F ([a] ++ fp) (upd H a o) ∧ R w K F (upd H a o) σ env fp ∧ Kp F H F (upd H a o) ∧ ([a] ++ fp).Nodup ∧ ∀ b ∈ [a], ¬ F b := by
  have k : Kp F H F (upd H a o) := Kp.new r.good n _ fun _ h => h
  have na : a ∉ fp := fun h => r.rep.trk a h n
  refine ⟨⟨fun _ h => h, fun b h => .inl h, fun b h => ?_, fun b u h _ => rd_upd n h, fun b u h _ => ex_upd n h, fun b h => dom_upd h⟩, ⟨fun b h => dom_upd (r.good b h), r.rep.mono k fun b _ u h => ex_upd n h, r.nd, r.dj⟩, k, ?_, fun b hb h => ?_⟩
  · simp at h
    rcases h with rfl | h
    · exact .inr n
    · exact .inl h
  · simpa using ⟨na, r.nd⟩
  · simp at hb
    subst hb
    exact r.good b h n

/-- an own object at a name is changed -/
theorem R.write (r : R w K F H σ env fp) {i : Nat} {x : W} (e : env[i]? = some (some x)) :
    ∃ v q l rr, fp = l ++ q ++ rr ∧ σ[i]? = some (some v) ∧ RepW w K F H v x q ∧ (∀ a o x', q = [a] → RepW w K F (upd H a o) v x' [a] →
      Step F fp H F fp (upd H a o) ∧ R w K F (upd H a o) σ (env.set i (some x')) fp ∧ Kp F H F (upd H a o)) := by
  obtain ⟨l, q, rr, e1, h1, h2, h3, h4, h5⟩ := r.rep.split e
  obtain ⟨v, e2, rw'⟩ := h1 x rfl
  have hs : σ.set i (some v) = σ := by
    obtain ⟨_, e3⟩ := List.getElem?_eq_some_iff.mp e2
    rw [← e3, List.set_getElem_self]
  refine ⟨v, q, l, rr, e1, e2, rw', fun a o x' hq rx => ?_⟩
  subst hq
  have af : a ∈ fp := by rw [e1]; simp
  have nf : ¬ F a := r.dj a af
  have k : Kp F H F (upd H a o) := ⟨fun _ h => h, fun b u f h => by
    have nb : b ≠ a := fun z => by subst z; exact nf f
    unfold Rd at h ⊢
    rw [upd_ne nb]
    exact h⟩
  have nd := r.nd
  rw [e1] at nd
  have nb : ∀ b ∈ l ++ rr, b ≠ a := by
    intro b hb z
    subst z
    simp only [List.nodup_append, List.mem_append, List.mem_singleton] at nd
    rcases List.mem_append.mp hb with z | z
    · exact nd.1.2.2 b z b rfl rfl
    · exact nd.2.2 b (.inr rfl) b z rfl
  refine ⟨⟨fun _ h => h, fun _ h => .inl h, fun _ h => .inl h, fun b u h hb => ?_, fun b u h hb => ?_, fun b h => dom_upd h⟩, ⟨fun b h => dom_upd (r.good b h), ?_, r.nd, r.dj⟩, k⟩
  · have nb : b ≠ a := fun z => by subst z; exact hb af
    unfold Rd at h ⊢
    rw [upd_ne nb]
    exact h
  · have nb : b ≠ a := fun z => by subst z; exact hb af
    rw [upd_ne nb]
    exact h
  · have := h3 F (upd H a o) k (fun b hb u h => by rw [upd_ne (nb b hb)]; exact h) v x' [a] rx
    rw [hs] at this
    rw [e1]
    exact this
end
end Z

/-! Zd0: a dict's search where keys are of any kind. -/
namespace Z
open PySem PySem.Spec PyProof.Rows L2

section
variable {P : Program} {w : World} {A : Around} {E : Value → Shared → Prop} {s : Shared}
/-- what the search knows of the entries: which of them is the one looked for -/
structure Seek (P : Program) (w : World) (A : Around) (s : Shared) (es : Array DictEntry) (key : Value) (h : Int) (same : DictEntry → Bool) : Prop where
  eqb : ∀ e ∈ es.toList, ∀ (E : Value → Shared → Prop) (Q : Bool → Shared → Prop), Q (same e) s → wpAny (model P w) A (eqBool e.key key) Q E s
  hsh : ∀ e ∈ es.toList, same e = true → e.hash = h
  qk : ∀ (E : Value → Shared → Prop) (Q : Bool → Shared → Prop), Q true s → wpAny (model P w) A (eqIsQuiet 8 key) Q E s
  qe : ∀ e ∈ es.toList, ∀ (E : Value → Shared → Prop) (Q : Bool → Shared → Prop), Q true s → wpAny (model P w) A (eqIsQuiet 8 e.key) Q E s
  rf : ∀ a, key = .ref a → ∀ e ∈ es.toList, e.key = key → e.hash = h
  un : ∀ (i j : Nat) (e e' : DictEntry), es[i]? = some e → es[j]? = some e' → same e = true → same e' = true → i = j
  st : ∀ x t, key = .str x t → ∀ e ∈ es.toList, isExactStrKey e.key = true → e.key.isStr x = same e
def dix (es : Array DictEntry) (same : DictEntry → Bool) : Option Nat := es.findIdx? same
theorem dix_some {es : Array DictEntry} {same : DictEntry → Bool} (un : ∀ (i j : Nat) (e e' : DictEntry), es[i]? = some e → es[j]? = some e' → same e = true → same e' = true → i = j) {j : Nat} {e : DictEntry} (h : es[j]? = some e) (q : same e = true) : dix es same = some j := by
  unfold dix
  obtain ⟨hj, he⟩ := Array.getElem?_eq_some_iff.mp h
  rw [Array.findIdx?_eq_some_iff_getElem]
  refine ⟨hj, by rw [he]; exact q, fun i hi z => ?_⟩
  have := un i j es[i] e (Array.getElem?_eq_getElem _) h z q
  omega
theorem dix_none {es : Array DictEntry} {same : DictEntry → Bool} (h : ∀ (j : Nat) (e : DictEntry), es[j]? = some e → same e = false) : dix es same = none := by
  unfold dix
  rw [Array.findIdx?_eq_none_iff]
  intro e he
  obtain ⟨j, hj, rfl⟩ := Array.mem_iff_getElem.mp he
  exact h j _ (Array.getElem?_eq_getElem _)
theorem findIdx_congr {es : Array DictEntry} {p q : DictEntry → Bool} (h : ∀ e ∈ es.toList, p e = q e) : es.findIdx? p = es.findIdx? q := by
  have hg : ∀ (i : Nat) (hi : i < es.size), p es[i] = q es[i] := fun i hi => h _ (Array.mem_toList_iff.mpr (Array.getElem_mem hi))
  cases hf : es.findIdx? q with
  | none =>
    rw [Array.findIdx?_eq_none_iff] at hf ⊢
    intro e he
    rw [h e (Array.mem_toList_iff.mpr he)]
    exact hf e he
  | some j =>
    rw [Array.findIdx?_eq_some_iff_getElem] at hf ⊢
    obtain ⟨hj, h1, h2⟩ := hf
    exact ⟨hj, by rw [hg]; exact h1, fun i hi => by rw [hg]; exact h2 i hi⟩
theorem mem_at {es : Array DictEntry} {i : Nat} {e : DictEntry} (h : es[i]? = some e) : e ∈ es.toList := Array.mem_toList_iff.mpr (Array.mem_of_getElem? h)

theorem mayTell {es : Array DictEntry} {key : Value} {h : Int} {same : DictEntry → Bool} (S : Seek P w A s es key h same) {l : List Value} (hl : ∀ v ∈ l, ∃ e ∈ es.toList, e.key = v) {Q : Bool → Shared → Prop} (q : Q false s) : wpAny (model P w) A (tableMayTell key l) Q E s := by
  unfold tableMayTell
  by_cases he : l.isEmpty = true
  · rw [if_pos he]
    exact wpAny_pure q
  · rw [if_neg he]
    refine wpAny_bind (S.qk _ _ ?_)
    rw [if_neg (by decide)]
    refine wpAny_bind (wpAny_forIn_list _ (fun rest r s' => s' = s ∧ r = (none, ()) ∧ ∀ v ∈ rest, ∃ e ∈ es.toList, e.key = v) _ (fun x rest b s' hI => ?_) (fun b s' hI => ?_) _ _ ⟨rfl, rfl, hl⟩)
    · obtain ⟨rfl, rfl, hr⟩ := hI
      obtain ⟨e, hm, rfl⟩ := hr x List.mem_cons_self
      refine wpAny_bind (S.qe e hm _ _ ?_)
      rw [if_neg (by decide)]
      exact wpAny_pure ⟨rfl, rfl, fun v hv => hr v (List.mem_cons_of_mem _ hv)⟩
    · obtain ⟨rfl, rfl, _⟩ := hI
      exact wpAny_pure q

/-- what the loop over the places knows -/
def SeekI (es : Array DictEntry) (same : DictEntry → Bool) (places : List Nat) (s : Shared) (rest : List Nat) (b : Option (Option Nat) × Option Nat) (s' : Shared) : Prop :=
  s' = s ∧ b.1 = none ∧ ∃ pre, places = pre ++ rest ∧ ((b.2 = none ∧ ∀ i ∈ pre, ∀ e, es[i]? = some e → same e = false) ∨ ∃ j ∈ pre, ∃ e, b.2 = some j ∧ es[j]? = some e ∧ same e = true)
theorem SeekI.next {es : Array DictEntry} {same : DictEntry → Bool} {places : List Nat} {s s' : Shared} {x : Nat} {rest : List Nat} {b : Option (Option Nat) × Option Nat} (h : SeekI es same places s (x :: rest) b s') (hx : ∀ e, es[x]? = some e → same e = false) : SeekI es same places s rest (none, b.2) s' := by
  obtain ⟨e1, e2, pre, hp, hh⟩ := h
  refine ⟨e1, rfl, pre ++ [x], by rw [hp]; simp, ?_⟩
  rcases hh with ⟨h1, h2⟩ | ⟨j, hj, e, h1, h2, h3⟩
  · refine .inl ⟨h1, fun i hi e he => ?_⟩
    rcases List.mem_append.mp hi with z | z
    · exact h2 i z e he
    · rw [List.mem_singleton] at z
      subst z
      exact hx e he
  · exact .inr ⟨j, List.mem_append_left _ hj, e, h1, h2, h3⟩
theorem SeekI.hit {es : Array DictEntry} {same : DictEntry → Bool} {places : List Nat} {s s' : Shared} {x : Nat} {rest : List Nat} {b : Option (Option Nat) × Option Nat} {e : DictEntry} (h : SeekI es same places s (x :: rest) b s') (hx : es[x]? = some e) (hs : same e = true) : SeekI es same places s rest (none, some x) s' := by
  obtain ⟨e1, e2, pre, hp, hh⟩ := h
  exact ⟨e1, rfl, pre ++ [x], by rw [hp]; simp, .inr ⟨x, by simp, e, rfl, hx, hs⟩⟩
theorem SeekI.first {es : Array DictEntry} {same : DictEntry → Bool} {places : List Nat} {s s' : Shared} {x : Nat} {rest : List Nat} {b : Option (Option Nat) × Option Nat} {e : DictEntry} (h : SeekI es same places s (x :: rest) b s') (hx : es[x]? = some e) (hs : same e = true)
    (un : ∀ (i j : Nat) (e e' : DictEntry), es[i]? = some e → es[j]? = some e' → same e = true → same e' = true → i = j) (nd : places.Nodup) : b.2.isSome = false := by
  obtain ⟨e1, e2, pre, hp, hh⟩ := h
  rcases hh with ⟨h1, h2⟩ | ⟨j, hj, e', h1, h2, h3⟩
  · rw [h1]; rfl
  · have := un j x e' e h2 hx h3 hs
    subst this
    rw [hp] at nd
    exact absurd rfl ((List.nodup_append.mp nd).2.2 j hj j List.mem_cons_self)
set_option hygiene false in
local macro_rules | `(tactic| walk_at "zd loop") => `(tactic| (
  refine wpAny_bind (wpAny_forIn_list _ (SeekI es same places s) _ (fun x rest b s' hI => ?_) (fun b s' hI => ?_) _ _ ⟨rfl, rfl, [], rfl, .inl ⟨rfl, fun _ h => by simp at h⟩⟩)
  · obtain ⟨b1, b2⟩ := b
    obtain rfl := hI.1
    cases hx : es[x]? with
    | none => exact wpAny_pure (hI.next (by rw [hx]; intro e he; cases he))
    | some e =>
      dsimp only
      by_cases hh : (e.hash == h) = true
      · rw [if_pos hh]
        refine wpAny_bind (wpAny_dictEpoch ho hd (wpAny_bind (S.eqb e (mem_at hx) _ _ (wpAny_bind (wpAny_dictEpoch ho hd ?_)))))
        rw [if_neg (show ¬ (ep != ep) = true by simp)]
        cases hs : same e with
        | true =>
          rw [if_pos rfl, if_neg (by rw [hI.first hx hs S.un nd]; exact Bool.false_ne_true)]
          refine wpAny_bind (wpAny_rule ?_)
          have hq := hat x (hI.2.2.elim fun pre hp => by rw [hp.1]; simp) e hx hs
          by_cases hl : (List.filterMap (fun i => Option.map (fun x => x.key) es[i]?) places).length < 2
          · rw [if_pos hl]
            refine wpAny_pure (wpAny_pure ?_)
            rw [hq] at q
            exact q
          · rw [if_neg hl]
            exact wpAny_pure (hI.hit hx hs)
        | false =>
          rw [if_neg Bool.false_ne_true]
          refine wpAny_bind (wpAny_rule ?_)
          rw [if_neg (by rw [Bool.false_and]; exact Bool.false_ne_true)]
          exact wpAny_pure (hI.next fun e' he' => by rw [hx] at he'; cases he'; exact hs)
      · rw [if_neg hh]
        refine wpAny_pure (hI.next fun e' he' => ?_)
        rw [hx] at he'
        cases he'
        cases hs : same e with
        | false => rfl
        | true => exact absurd (by rw [S.hsh e (mem_at hx) hs]; simp) hh
  · obtain ⟨b1, b2⟩ := b
    obtain ⟨rfl, e2, pre, hp, hh⟩ := hI
    rw [List.append_nil] at hp
    dsimp only at e2
    subst e2
    refine wpAny_pure ?_
    rcases hh with ⟨h1, h2⟩ | ⟨j, hj, e', h1, h2, h3⟩
    · dsimp only at h1
      subst h1
      have : dix es same = none := dix_none fun j e hj => by
        cases hs : same e with
        | false => rfl
        | true =>
          have := h2 j (by rw [← hp]; exact onplace j e hj hs) e hj
          rw [hs] at this
          cases this
      rw [this] at q
      exact q
    · dsimp only at h1
      subst h1
      rw [dix_some S.un h2 h3] at q
      exact q))
set_option hygiene false in
local macro_rules | `(tactic| walk_at "zd tail") => `(tactic| (
  by_cases hone : ((places.filterMap fun i => es[i]?.map (·.key)) == [ky]) = true
  · subst hky
    rw [if_pos hone]
    refine wpAny_bind (wpAny_pure ?_)
    rw [if_neg (by rw [Bool.false_and]; exact Bool.false_ne_true)]
    walk_at "zd loop"
  · subst hky
    rw [if_neg hone]
    refine wpAny_bind (mayTell S hstored ?_)
    rw [if_neg (by rw [Bool.false_and]; exact Bool.false_ne_true)]
    walk_at "zd loop"))
set_option hygiene false in
local macro_rules | `(tactic| walk_at "zd all") => `(tactic| (
  by_cases hc : (((ky :: (places.filterMap fun i => es[i]?.map (·.key))).all carriedByValue) = true)
  · subst hky
    rw [if_pos hc]
    exact plain
  · have hc' := hky ▸ hc
    rw [if_neg hc']
    walk_at "zd tail"))
theorem dfind {d : Addr} {o : Obj} {es : Array DictEntry} {ep : Nat} {key : Value} {h : Int} {same : DictEntry → Bool} {Q : Option Nat → Shared → Prop} (S : Seek P w A s es key h same) (ho : s.heap.get? d = some o) (hd : o.data = .dict es ep)
    (q : Q (dix es same) s) : wpAny (model P w) A (dictFind d key h) Q E s := by
  -- the places of that hash: each entry looked for stands at one
  have onplace : ∀ (j : Nat) (e : DictEntry), es[j]? = some e → same e = true → j ∈ placesWithHash es.size (fun i => es[i]?.map (·.hash)) h := by
    intro j e hj hs
    unfold placesWithHash
    rw [List.mem_filter]
    refine ⟨List.mem_range.mpr (Array.getElem?_eq_some_iff.mp hj).1, ?_⟩
    show (Option.map (fun x => x.hash) es[j]? == some h) = true
    rw [hj]
    simp [S.hsh e (mem_at hj) hs]
  have hstored : ∀ v ∈ (placesWithHash es.size (fun i => es[i]?.map (·.hash)) h).filterMap (fun i => es[i]?.map (·.key)), ∃ e ∈ es.toList, e.key = v := by
    intro v hv
    obtain ⟨i, _, hi⟩ := List.mem_filterMap.mp hv
    obtain ⟨e, he, rfl⟩ := Option.map_eq_some_iff.mp hi
    exact ⟨e, mem_at he, rfl⟩
  have nd : (placesWithHash es.size (fun i => es[i]?.map (·.hash)) h).Nodup := List.Nodup.sublist List.filter_sublist List.nodup_range
  generalize hpl : placesWithHash es.size (fun i => es[i]?.map (·.hash)) h = places at onplace hstored nd
  have noref : ¬ (es.any fun e => e.key == key && e.hash != h) = true ∨ ∀ a, key ≠ .ref a := by
    by_cases hr : ∃ a, key = .ref a
    · obtain ⟨a, hr⟩ := hr
      refine .inl fun z => ?_
      rw [Array.any_eq_true] at z
      obtain ⟨i, hi, z⟩ := z
      rw [Bool.and_eq_true, beq_iff_eq] at z
      have := S.rf a hr es[i] (mem_at (Array.getElem?_eq_getElem hi)) z.1
      rw [this] at z
      simp at z
    · exact .inr fun a z => hr ⟨a, z⟩
  -- the walk over the places, asking each
  have plain : wpAny (model P w) A (dictWalkPlain d key h es places) Q E s := by
    unfold dictWalkPlain
    refine wpAny_bind (wpAny_forIn_list _ (fun rest b s' => s' = s ∧ b = (none, ()) ∧ ∃ pre, places = pre ++ rest ∧ ∀ i ∈ pre, ∀ e, es[i]? = some e → same e = false) _ (fun x rest b s' hI => ?_) (fun b s' hI => ?_) _ _ ⟨rfl, rfl, [], rfl, fun _ h => by simp at h⟩)
    · obtain ⟨rfl, rfl, pre, hp, hno⟩ := hI
      have next : (∀ e, es[x]? = some e → same e = false) → ∃ pre, places = pre ++ rest ∧ ∀ i ∈ pre, ∀ e, es[i]? = some e → same e = false := fun hx =>
        ⟨pre ++ [x], by rw [hp]; simp, fun i hi e he => by
          rcases List.mem_append.mp hi with z | z
          · exact hno i z e he
          · rw [List.mem_singleton] at z
            subst z
            exact hx e he⟩
      cases hx : es[x]? with
      | none => exact wpAny_pure ⟨rfl, rfl, next (by rw [hx]; intro e he; cases he)⟩
      | some e =>
        dsimp only
        by_cases hh : (e.hash == h) = true
        · rw [if_pos hh]
          refine wpAny_bind (wpAny_dictEpoch ho hd (wpAny_bind (S.eqb e (mem_at hx) _ _ (wpAny_bind (wpAny_dictEpoch ho hd ?_)))))
          rw [if_neg (show ¬ (ep != ep) = true by simp)]
          cases hs : same e with
          | true =>
            rw [if_pos rfl]
            refine wpAny_bind (wpAny_rule (wpAny_pure (wpAny_pure ?_)))
            rw [dix_some S.un hx hs] at q
            exact q
          | false =>
            rw [if_neg Bool.false_ne_true]
            exact wpAny_bind (wpAny_rule (wpAny_pure ⟨rfl, rfl, next fun e' he' => by rw [hx] at he'; cases he'; exact hs⟩))
        · rw [if_neg hh]
          refine wpAny_pure ⟨rfl, rfl, next fun e' he' => ?_⟩
          rw [hx] at he'
          cases he'
          cases hs : same e with
          | false => rfl
          | true => exact absurd (by rw [S.hsh e (mem_at hx) hs]; simp) hh
    · obtain ⟨rfl, rfl, pre, hp, hno⟩ := hI
      rw [List.append_nil] at hp
      subst hp
      have : dix es same = none := dix_none fun j e hj => by
        cases hs : same e with
        | false => rfl
        | true => rw [hno j (onplace j e hj hs) e hj] at hs; cases hs
      rw [this] at q
      exact wpAny_pure q
  unfold dictFind
  refine wpAny_holding ?_
  refine wpAny_bind (wpAny_dictEntries ho hd ?_)
  dsimp only
  rw [hpl]
  have hat : ∀ x ∈ places, ∀ e, es[x]? = some e → same e = true → dix es same = some x := fun x _ e hx hs => dix_some S.un hx hs
  obtain ⟨ky, hky⟩ : ∃ ky, ky = key := ⟨_, rfl⟩
  cases key with
  | str x t =>
    dsimp only
    by_cases hx : (es.all fun e => isExactStrKey e.key) = true
    · rw [if_pos hx]
      have hsame : es.findIdx? (·.key.isStr x) = dix es same := findIdx_congr fun e he => S.st x t rfl e he ((Array.all_eq_true_iff_forall_mem.mp hx) e (Array.mem_toList_iff.mp he))
      unfold foundByValue
      rw [hsame]
      cases hf : dix es same with
      | none =>
        rw [hf] at q
        exact wpAny_pure q
      | some i =>
        rw [hf] at q
        obtain ⟨hlt, hi, _⟩ := Array.findIdx?_eq_some_iff_getElem.mp hf
        have hat' : es[i]? = some es[i] := Array.getElem?_eq_getElem hlt
        dsimp only
        rw [hat']
        dsimp only
        refine wpAny_bind (wpAny_dictEpoch ho hd (wpAny_bind (S.eqb es[i] (mem_at hat') _ _ (wpAny_bind (wpAny_dictEpoch ho hd ?_)))))
        rw [if_neg (show ¬ (ep != ep) = true by simp), hi, if_pos rfl]
        exact wpAny_bind (wpAny_rule (wpAny_pure q))
    · rw [if_neg hx]
      walk_at "zd all"
  | ref a =>
    dsimp only
    by_cases hc : (((ky :: (places.filterMap fun i => es[i]?.map (·.key))).all carriedByValue) = true)
    · exfalso
      subst hky
      simp [carriedByValue] at hc
    · have hc' := hky ▸ hc
      rw [if_neg hc']
      rcases noref with hn | hn
      · rw [if_neg hn]
        walk_at "zd tail"
      · exact absurd rfl (hn a)
  | _ =>
    dsimp only
    walk_at "zd all"
end
end Z

/-! Zd1: keys of trees; a dict's look-up, store, removal. -/
namespace Z
open PySem PySem.Spec PyProof.Rows L2

mutual
theorem nested_of {h : Heap} : ∀ {p : PyData} {v : Value} {as : List Addr}, hk p = true → Reads h v p as → NestedIs h (nk p) v
  | .none, _, _, _, r => by cases r; rw [nk]; exact .none
  | .bool b, _, _, _, r => by cases r; rw [nk]; exact .bool rfl
  | .int i, _, _, _, r => by cases r; rw [nk]; exact .int _ _
  | .str x, _, _, _, r => by cases r; rw [nk]; exact .text _ _
  | .tuple l, _, _, k, r => by
    cases r with
    | tuple h1 h2 h3 h4 =>
      rw [nk]
      rw [hk] at k
      exact .tup h1 h2 h3 (nested_all k h4)
  | .list l, _, _, k, _ => by rw [hk] at k; cases k
  | .dict l, _, _, k, _ => by rw [hk] at k; cases k
theorem nested_all {h : Heap} : ∀ {l : List PyData} {vs : List Value} {as : List Addr}, hkAll l = true → ReadsAll h vs l as → NestedAll h (nks l) vs
  | [], _, _, _, r => by cases r; rw [nks]; exact .nil
  | x :: xs, _, _, k, r => by
    cases r with
    | cons a b =>
      rw [hkAll, Bool.and_eq_true] at k
      rw [nks]
      exact .cons (nested_of k.1 a) (nested_all k.2 b)
end
mutual
theorem depth_nk : ∀ p : PyData, hk p = true → (nk p).depth = p.depth
  | .none, _ => by simp [nk, NestedKey.depth, PyData.depth]
  | .bool b, _ => by simp [nk, NestedKey.depth, PyData.depth]
  | .int i, _ => by simp [nk, NestedKey.depth, PyData.depth]
  | .str x, _ => by simp [nk, NestedKey.depth, PyData.depth]
  | .tuple l, k => by
    rw [hk] at k
    rw [nk, NestedKey.depth, PyData.depth, depth_nks l k]
  | .list l, k => by rw [hk] at k; cases k
  | .dict l, k => by rw [hk] at k; cases k
theorem depth_nks : ∀ l : List PyData, hkAll l = true → NestedKey.depthAll (nks l) = PyData.depthAll l
  | [], _ => by simp [nks, NestedKey.depthAll, PyData.depthAll]
  | x :: xs, k => by
    rw [hkAll, Bool.and_eq_true] at k
    rw [nks, NestedKey.depthAll, PyData.depthAll, depth_nk x k.1, depth_nks xs k.2]
end
mutual
/-- == of keys is that of their kinds -/
theorem eqv_nk : ∀ p q : PyData, hk p = true → hk q = true → p.eqv q = NestedKey.beq (nk p) (nk q)
  | .none, q, _, kq => by cases q <;> simp [hk] at kq <;> simp [PyData.eqv, nk, NestedKey.beq]
  | .bool b, q, _, kq => by cases q <;> simp [hk] at kq <;> simp [PyData.eqv, nk, NestedKey.beq] <;> (try (rename_i c; cases b <;> cases c <;> simp)) <;> rfl
  | .int i, q, _, kq => by cases q <;> simp [hk] at kq <;> simp [PyData.eqv, nk, NestedKey.beq] <;> rfl
  | .str x, q, _, kq => by cases q <;> simp [hk] at kq <;> simp [PyData.eqv, nk, NestedKey.beq] <;> rfl
  | .tuple l, q, kp, kq => by
    cases q with
    | tuple m =>
      rw [hk] at kp kq
      rw [nk, nk, PyData.eqv, NestedKey.beq, eqv_nks l m kp kq]
    | list m => simp [hk] at kq
    | dict m => simp [hk] at kq
    | none => simp [PyData.eqv, nk, NestedKey.beq]
    | bool b => simp [PyData.eqv, nk, NestedKey.beq]
    | int b => simp [PyData.eqv, nk, NestedKey.beq]
    | str b => simp [PyData.eqv, nk, NestedKey.beq]
  | .list l, _, k, _ => by rw [hk] at k; cases k
  | .dict l, _, k, _ => by rw [hk] at k; cases k
theorem eqv_nks : ∀ l m : List PyData, hkAll l = true → hkAll m = true → PyData.eqvAll l m = NestedKey.beqAll (nks l) (nks m)
  | [], [], _, _ => by simp [PyData.eqvAll, nks, NestedKey.beqAll]
  | [], _ :: _, _, _ => by simp [PyData.eqvAll, nks, NestedKey.beqAll]
  | _ :: _, [], _, _ => by simp [PyData.eqvAll, nks, NestedKey.beqAll]
  | x :: xs, y :: ys, kp, kq => by
    rw [hkAll, Bool.and_eq_true] at kp kq
    rw [nks, nks, PyData.eqvAll, NestedKey.beqAll, eqv_nk x y kp.1 kq.1, eqv_nks xs ys kp.2 kq.2]
end

section
variable {w : World} {K : PySem.W.Frag} {F : Fz} {H : Hp}
theorem ent_at {es : List (Int × V × V)} {ds : List DictEntry} {kvs : List (PyData × PyData)} (pr : Paired EntR es ds) (re : RepEs w K F H es kvs) {i : Nat} {e : DictEntry} (h : ds[i]? = some e) :
    ∃ kV vV p q, es[i]? = some (e.hash, kV, vV) ∧ kvs[i]? = some (p, q) ∧ RelV kV e.key ∧ RelV vV e.val ∧ e.hash = (nk p).hash w ∧ keyOk p = true ∧ RepD w K F H kV p ∧ RepD w K F H vV q := by
  induction pr generalizing kvs i with
  | nil => simp at h
  | cons x xs ih =>
    cases re with
    | cons a b c d r =>
      cases i with
      | zero =>
        simp at h
        subst h
        obtain ⟨x1, x2, x3⟩ := x
        dsimp only at x1 x2 x3
        subst x1
        exact ⟨_, _, _, _, rfl, rfl, x2, x3, a, b, c, d⟩
      | succ i => simpa using ih r (by simpa using h)
theorem RepEs.length {es : List (Int × V × V)} {kvs : List (PyData × PyData)} (re : RepEs w K F H es kvs) : es.length = kvs.length := by
  induction es generalizing kvs with
  | nil => cases re; rfl
  | cons e es ih => cases re with | cons a b c d r => simp [ih r]
theorem ents_len {es : List (Int × V × V)} {ds : List DictEntry} (pr : Paired EntR es ds) : es.length = ds.length := Paired.length pr
theorem keyOk_hk {p : PyData} (h : keyOk p = true) : hk p = true ∧ p.depth ≤ 7 := by
  unfold keyOk at h
  rw [Bool.and_eq_true, decide_eq_true_eq] at h
  exact h
/-- the place of a key -/
def kix (kvs : List (PyData × PyData)) (k : PyData) : Option Nat := kvs.findIdx? fun p => p.1.eqv k

noncomputable def sameK (h : Heap) (k : PyData) (e : DictEntry) : Bool := @decide (NestedIs h (nk k) e.key) (Classical.propDecidable _)
theorem sameK_true {h : Heap} {k : PyData} {e : DictEntry} : sameK h k e = true ↔ NestedIs h (nk k) e.key := by unfold sameK; exact @decide_eq_true_iff _ (Classical.propDecidable _)
theorem sameK_eq {h : Heap} {k p : PyData} {e : DictEntry} (hp : NestedIs h (nk p) e.key) (h1 : hk p = true) (h2 : hk k = true) : sameK h k e = p.eqv k := by
  rw [eqv_nk p k h1 h2]
  cases hb : NestedKey.beq (nk p) (nk k) with
  | true =>
    have := NestedKey.eq_of_beq _ _ hb
    rw [sameK_true, ← this]
    exact hp
  | false =>
    cases hs : sameK h k e with
    | false => rfl
    | true =>
      have := NestedIs.inj _ _ _ hp (sameK_true.mp hs)
      rw [this, NestedKey.beq_self] at hb
      cases hb

theorem seek_of {P : Program} {A : Around} {s : Shared} (ok : HOk P w H s.heap) (kin : K.In s.heap) {es : List (Int × V × V)} {ents : Array DictEntry} {kvs : List (PyData × PyData)} (pr : Paired EntR es ents.toList) (re : RepEs w K F H es kvs)
    (pw : kvs.Pairwise (fun p q => p.1.eqv q.1 = false)) {kV : V} {k : PyData} {u : Value} (rk : RepD w K F H kV k) (hk : keyOk k = true) (ru : RelV kV u) (hu : A.units + 8 < cLine) :
    Seek P w A s ents u ((nk k).hash w) (sameK s.heap k) ∧ dix ents (sameK s.heap k) = kix kvs k := by
  obtain ⟨as, rds⟩ := rk.reads ok kin ru
  obtain ⟨hk1, hk2⟩ := keyOk_hk hk
  have nu : NestedIs s.heap (nk k) u := nested_of hk1 rds
  have du := depth_nk k hk1
  -- each entry's key
  have at_ : ∀ {i : Nat} {e : DictEntry}, ents[i]? = some e → ∃ p q, kvs[i]? = some (p, q) ∧ NestedIs s.heap (nk p) e.key ∧ (nk p).depth ≤ 7 ∧ e.hash = (nk p).hash w ∧ Z.hk p = true := fun {i e} h => by
    obtain ⟨kV', vV, p, q, e1, e2, r1, r2, hh, ho, d1, d2⟩ := ent_at pr re (i := i) (e := e) (by rw [Array.getElem?_toList]; exact h)
    obtain ⟨bs, rr⟩ := d1.reads ok kin r1
    obtain ⟨z1, z2⟩ := keyOk_hk ho
    exact ⟨p, q, e2, nested_of z1 rr, by rw [depth_nk p z1]; exact z2, hh, z1⟩
  have mem_ : ∀ e ∈ ents.toList, ∃ p, NestedIs s.heap (nk p) e.key ∧ (nk p).depth ≤ 7 ∧ e.hash = (nk p).hash w ∧ Z.hk p = true := fun e he => by
    obtain ⟨i, hi⟩ := List.mem_iff_getElem?.mp he
    obtain ⟨p, q, _, h1, h2, h3, h4⟩ := at_ (i := i) (e := e) (by rw [← Array.getElem?_toList]; exact hi)
    exact ⟨p, h1, h2, h3, h4⟩
  have un : ∀ (i j : Nat) (e e' : DictEntry), ents[i]? = some e → ents[j]? = some e' → sameK s.heap k e = true → sameK s.heap k e' = true → i = j := by
    intro i j e e' hi hj h1 h2
    obtain ⟨p, q, e2, n1, _, _, k1⟩ := at_ hi
    obtain ⟨p', q', e2', n1', _, _, k1'⟩ := at_ hj
    have z1 := NestedIs.inj _ _ _ n1 (sameK_true.mp h1)
    have z2 := NestedIs.inj _ _ _ n1' (sameK_true.mp h2)
    have z : p.eqv p' = true := by rw [eqv_nk p p' k1 k1', z1, z2, NestedKey.beq_self]
    have z' : p'.eqv p = true := by rw [eqv_nk p' p k1' k1, z1, z2, NestedKey.beq_self]
    rw [List.pairwise_iff_getElem] at pw
    obtain ⟨li, gi⟩ := List.getElem?_eq_some_iff.mp e2
    obtain ⟨lj, gj⟩ := List.getElem?_eq_some_iff.mp e2'
    rcases Nat.lt_trichotomy i j with h | h | h
    · have := pw i j li lj h
      rw [gi, gj] at this
      rw [this] at z
      cases z
    · exact h
    · have := pw j i lj li h
      rw [gi, gj] at this
      rw [this] at z'
      cases z'
  refine ⟨⟨fun e he E Q q => ?_, fun e he hs => ?_, fun E Q q => quiet_key (nk k) u 8 s nu (by omega) A E Q q, fun e he E Q q => ?_, fun a ha e he hx => ?_, un, fun x t hx e he hs => ?_⟩, ?_⟩
  · obtain ⟨p, h1, h2, h3, h4⟩ := mem_ e he
    refine eqAt_key (nk p) (nk k) A s _ _ h1 nu (by have := Nat.min_le_left (nk p).depth (nk k).depth; omega) P w E Q ?_
    rw [← eqv_nk p k h4 hk1, ← sameK_eq h1 h4 hk1]
    exact q
  · obtain ⟨p, h1, h2, h3, h4⟩ := mem_ e he
    rw [h3, NestedIs.inj _ _ _ h1 (sameK_true.mp hs)]
  · obtain ⟨p, h1, h2, h3, h4⟩ := mem_ e he
    exact quiet_key (nk p) e.key 8 s h1 (by omega) A E Q q
  · obtain ⟨p, h1, h2, h3, h4⟩ := mem_ e he
    rw [hx] at h1
    rw [h3, NestedIs.inj _ _ _ h1 nu]
  · subst hx
    obtain ⟨p, h1, h2, h3, h4⟩ := mem_ e he
    have ek : nk k = .text x := NestedIs.inj _ _ _ nu (.text x t)
    cases hky : e.key with
    | str y ty =>
      rw [hky] at h1
      have ep : nk p = .text y := NestedIs.inj _ _ _ h1 (.text y ty)
      show (y == x) = sameK s.heap k e
      cases hb : (y == x) with
      | true =>
        rw [beq_iff_eq] at hb
        symm
        rw [sameK_true, hky, ek, hb]
        exact .text _ _
      | false =>
        cases hs' : sameK s.heap k e with
        | false => rfl
        | true =>
          rw [sameK_true, hky, ek] at hs'
          have := NestedIs.inj _ _ _ hs' (.text y ty)
          cases this
          simp at hb
    | _ => rw [hky] at hs; cases hs
  · -- the place among the trees
    have hsame : ∀ {i : Nat} {e : DictEntry} {p q : PyData}, ents[i]? = some e → kvs[i]? = some (p, q) → sameK s.heap k e = p.eqv k := fun {i e p q} h h' => by
      obtain ⟨p', q', e2, n1, _, _, k1⟩ := at_ h
      rw [h'] at e2
      cases e2
      exact sameK_eq n1 k1 hk1
    have hlen : ents.size = kvs.length := by
      have h1 := ents_len pr
      have h2 := re.length
      have h3 : ents.toList.length = ents.size := Array.length_toList
      exact h3.symm.trans (h1.symm.trans h2)
    unfold kix
    cases hf : kvs.findIdx? (fun p => p.1.eqv k) with
    | none =>
      refine dix_none fun j e hj => ?_
      have hlt := (Array.getElem?_eq_some_iff.mp hj).1
      have hg : kvs[j]? = some kvs[j] := List.getElem?_eq_getElem (by omega)
      rw [hsame hj (p := kvs[j].1) (q := kvs[j].2) hg]
      rw [List.findIdx?_eq_none_iff] at hf
      exact hf kvs[j] (List.getElem_mem _)
    | some j =>
      rw [List.findIdx?_eq_some_iff_getElem] at hf
      obtain ⟨hj, h1, _⟩ := hf
      have hg : ents[j]? = some ents[j] := Array.getElem?_eq_getElem (by omega)
      exact dix_some un hg (by rw [hsame hg (p := kvs[j].1) (q := kvs[j].2) (List.getElem?_eq_getElem hj)]; exact h1)
end
end Z

/-! Zd2: look-up, store, removal over the model's heap. -/
namespace Z
open PySem PySem.Spec PyProof.Rows L2

theorem find_kix (kvs : List (PyData × PyData)) (k : PyData) : kvs.find? (fun p => p.1.eqv k) = (kix kvs k).bind fun j => kvs[j]? := by
  unfold kix
  induction kvs with
  | nil => rfl
  | cons x xs ih =>
    rw [List.find?_cons, List.findIdx?_cons]
    cases hx : x.1.eqv k with
    | true => rfl
    | false =>
      rw [ih]
      simp only [Bool.false_eq_true, if_false]
      cases xs.findIdx? (fun p => p.1.eqv k) with
      | none => rfl
      | some j => simp
theorem dget_kix (kvs : List (PyData × PyData)) (k : PyData) : dget kvs k = (kix kvs k).bind fun j => (kvs[j]?).map (·.2) := by
  unfold dget
  rw [find_kix]
  cases kix kvs k <;> rfl
theorem dhas_kix (kvs : List (PyData × PyData)) (k : PyData) : dhas kvs k = (kix kvs k).isSome := by
  unfold dhas kix
  induction kvs with
  | nil => rfl
  | cons x xs ih =>
    rw [List.any_cons, List.findIdx?_cons]
    cases hx : x.1.eqv k with
    | true => simp only [Bool.true_or, if_true, Option.isSome_some]
    | false => simp only [Bool.false_or, Bool.false_eq_true, if_false, Option.isSome_map, ih]
theorem dget_has (kvs : List (PyData × PyData)) (k : PyData) : (dget kvs k).isSome = dhas kvs k := by
  rw [dhas_kix, dget_kix]
  cases h : kix kvs k with
  | none => rfl
  | some j =>
    unfold kix at h
    rw [List.findIdx?_eq_some_iff_getElem] at h
    obtain ⟨hj, _⟩ := h
    simp [hj]
/-- a store, by the place -/
def putIx {α : Type} (l : List α) (j : Option Nat) (f : α → α) (x : α) : List α := match j with
  | some j => l.modify j f
  | none => l ++ [x]
theorem dput_kix {kvs : List (PyData × PyData)} (pw : kvs.Pairwise (fun p q => p.1.eqv q.1 = false)) {k : PyData} (hs : ∀ p q : PyData × PyData, p ∈ kvs → q ∈ kvs → p.1.eqv k = true → q.1.eqv k = true → p.1.eqv q.1 = true) (v : PyData) :
    dput kvs k v = putIx kvs (kix kvs k) (fun p => (p.1, v)) (k, v) := by
  unfold dput
  rw [dhas_kix]
  cases h : kix kvs k with
  | none => rfl
  | some j =>
    rw [if_pos (by rfl)]
    unfold kix at h
    rw [List.findIdx?_eq_some_iff_getElem] at h
    obtain ⟨hj, h1, h2⟩ := h
    unfold putIx
    dsimp only
    refine List.ext_getElem (by simp) fun i hi hi' => ?_
    rw [List.getElem_map, List.getElem_modify]
    have hik : i < kvs.length := by simpa using hi
    by_cases hij : j = i
    · subst hij
      rw [if_pos rfl, if_pos h1]
    · rw [if_neg hij]
      have : kvs[i].1.eqv k = false := by
        cases hq : kvs[i].1.eqv k with
        | false => rfl
        | true =>
          rw [List.pairwise_iff_getElem] at pw
          rcases Nat.lt_or_gt_of_ne hij with hl | hl
          · have := pw j i hj hik hl
            rw [hs _ _ (List.getElem_mem hj) (List.getElem_mem hik) h1 hq] at this
            cases this
          · have := pw i j hik hj hl
            rw [hs _ _ (List.getElem_mem hik) (List.getElem_mem hj) hq h1] at this
            cases this
      rw [this]
      rfl
theorem ddel_kix {kvs : List (PyData × PyData)} (pw : kvs.Pairwise (fun p q => p.1.eqv q.1 = false)) {k : PyData} (hs : ∀ p q : PyData × PyData, p ∈ kvs → q ∈ kvs → p.1.eqv k = true → q.1.eqv k = true → p.1.eqv q.1 = true) {j : Nat} (h : kix kvs k = some j) :
    ddel kvs k = kvs.eraseIdx j := by
  unfold ddel
  unfold kix at h
  induction kvs generalizing j with
  | nil => simp at h
  | cons x xs ih =>
    rw [List.pairwise_cons] at pw
    rw [List.findIdx?_cons] at h
    rw [List.filter_cons]
    cases hx : x.1.eqv k with
    | true =>
      rw [hx] at h
      simp at h
      subst h
      simp only [Bool.not_true, Bool.false_eq_true, if_false, List.eraseIdx_cons_zero]
      rw [List.filter_eq_self]
      intro y hy
      cases hq : y.1.eqv k with
      | false => rfl
      | true =>
        have := pw.1 y hy
        rw [hs x y (by simp) (by simp [hy]) hx hq] at this
        cases this
    | false =>
      rw [hx] at h
      simp only [Bool.false_eq_true, if_false, Option.map_eq_some_iff] at h
      obtain ⟨i, hi, rfl⟩ := h
      simp only [Bool.not_false, if_true, List.eraseIdx_cons_succ]
      rw [ih pw.2 (fun p q hp hq => hs p q (by simp [hp]) (by simp [hq])) hi]
theorem eqv_via {p q k : PyData} (h1 : hk p = true) (h2 : hk q = true) (h3 : hk k = true) (a : p.eqv k = true) (b : q.eqv k = true) : p.eqv q = true := by
  rw [eqv_nk _ _ h1 h3] at a
  rw [eqv_nk _ _ h2 h3] at b
  rw [eqv_nk _ _ h1 h2, NestedKey.eq_of_beq _ _ a, NestedKey.eq_of_beq _ _ b, NestedKey.beq_self]
section
variable {w : World} {K : PySem.W.Frag} {F : Fz} {H : Hp}
theorem RepEs.keys {es : List (Int × V × V)} {kvs : List (PyData × PyData)} (re : RepEs w K F H es kvs) : ∀ p ∈ kvs, keyOk p.1 = true := by
  induction es generalizing kvs with
  | nil => cases re; intro p hp; simp at hp
  | cons e es ih =>
    cases re with
    | cons a b c d r =>
      intro p hp
      rcases List.mem_cons.mp hp with rfl | hp
      · exact b
      · exact ih r p hp
theorem RepEs.same {es : List (Int × V × V)} {kvs : List (PyData × PyData)} (re : RepEs w K F H es kvs) {k : PyData} (hk : keyOk k = true) : ∀ p q : PyData × PyData, p ∈ kvs → q ∈ kvs → p.1.eqv k = true → q.1.eqv k = true → p.1.eqv q.1 = true :=
  fun p q hp hq a b => eqv_via (keyOk_hk (re.keys p hp)).1 (keyOk_hk (re.keys q hq)).1 (keyOk_hk hk).1 a b
theorem RepEs.get {es : List (Int × V × V)} {kvs : List (PyData × PyData)} (re : RepEs w K F H es kvs) {i : Nat} {p q : PyData} (h : kvs[i]? = some (p, q)) : ∃ hh kV vV, es[i]? = some (hh, kV, vV) ∧ RepD w K F H kV p ∧ RepD w K F H vV q := by
  induction es generalizing kvs i with
  | nil => cases re; simp at h
  | cons e es ih =>
    cases re with
    | cons a b c d r =>
      cases i with
      | zero => simp at h; obtain ⟨rfl, rfl⟩ := h; exact ⟨_, _, _, rfl, c, d⟩
      | succ i => simpa using ih r (by simpa using h)
theorem RepEs.append {es es' : List (Int × V × V)} {kvs kvs' : List (PyData × PyData)} (re : RepEs w K F H es kvs) (re' : RepEs w K F H es' kvs') : RepEs w K F H (es ++ es') (kvs ++ kvs') := by
  induction es generalizing kvs with
  | nil => cases re; exact re'
  | cons e es ih => cases re with | cons a b c d r => exact .cons a b c d (ih r)
theorem RepEs.modify {es : List (Int × V × V)} {kvs : List (PyData × PyData)} (re : RepEs w K F H es kvs) {v : V} {p : PyData} (r : RepD w K F H v p) (j : Nat) : RepEs w K F H (es.modify j fun e => (e.1, e.2.1, v)) (kvs.modify j fun q => (q.1, p)) := by
  induction es generalizing kvs j with
  | nil => cases re; simpa using RepEs.nil
  | cons e es ih =>
    cases re with
    | cons a b c d rr =>
      cases j with
      | zero => simpa using .cons a b c r rr
      | succ j => simpa using .cons a b c d (ih rr j)
theorem RepEs.eraseIdx {es : List (Int × V × V)} {kvs : List (PyData × PyData)} (re : RepEs w K F H es kvs) (j : Nat) : RepEs w K F H (es.eraseIdx j) (kvs.eraseIdx j) := by
  induction es generalizing kvs j with
  | nil => cases re; simpa using RepEs.nil
  | cons e es ih =>
    cases re with
    | cons a b c d rr =>
      cases j with
      | zero => simpa using rr
      | succ j => simpa using .cons a b c d (ih rr j)
theorem entR_modify {es : List (Int × V × V)} {ds : List DictEntry} (pr : Paired EntR es ds) {v : V} {u : Value} (r : RelV v u) (j : Nat) : Paired EntR (es.modify j fun e => (e.1, e.2.1, v)) (ds.modify j fun e => { e with val := u }) := by
  induction pr generalizing j with
  | nil => simpa using Paired.nil
  | @cons a b l m x xs ih =>
    cases j with
    | zero => simpa using Paired.cons (show EntR (a.1, a.2.1, v) { b with val := u } from ⟨x.1, x.2.1, r⟩) xs
    | succ j => simpa using Paired.cons x (ih j)
theorem entR_append {es es' : List (Int × V × V)} {ds ds' : List DictEntry} (pr : Paired EntR es ds) (pr' : Paired EntR es' ds') : Paired EntR (es ++ es') (ds ++ ds') := by
  induction pr with
  | nil => exact pr'
  | cons x xs ih => exact .cons x ih
theorem entR_erase {es : List (Int × V × V)} {ds : List DictEntry} (pr : Paired EntR es ds) (j : Nat) : Paired EntR (es.eraseIdx j) (ds.eraseIdx j) := by
  induction pr generalizing j with
  | nil => simpa using Paired.nil
  | cons x xs ih =>
    cases j with
    | zero => simpa using xs
    | succ j => simpa using Paired.cons x (ih j)
end

section
variable {X : L2.Cx} {pins : List (Addr × Obj)} {σ : L2.St} {s : Shared} {H : Hp} {F : Fz} {A : Around} {E : Value → Shared → Prop}
/-- what a look-up has found -/
def Found (w : World) (K : PySem.W.Frag) (F : Fz) (H : Hp) (p : Option PyData) (o : Option Value) : Prop := match p with
  | some p => ∃ v u, o = some u ∧ RelV v u ∧ RepD w K F H v p
  | none => o = none
theorem dGet (I : L2.Inv X pins σ H s) {d : Addr} {es : List (Int × V × V)} {kvs : List (PyData × PyData)} (hd : RdD H d es) (re : RepEs X.w X.K F H es kvs) (pw : kvs.Pairwise (fun p q => p.1.eqv q.1 = false))
    {kV : V} {k : PyData} {u : Value} (rk : RepD X.w X.K F H kV k) (hk : keyOk k = true) (ru : RelV kV u) (hu : A.units + 8 < cLine) {Q : Option Value → Shared → Prop}
    (h : ∀ tk o, Found X.w X.K F H (dget kvs k) o → Q o { s with toks := tk }) : wpAny (model X.prog X.w) A (dictGet d u) Q E s := by
  obtain ⟨⟨o, ents, ep, ho, hc, hdd, pr⟩, _⟩ := hd.ok I.hok
  obtain ⟨as, rds⟩ := rk.reads I.hok I.kIn ru
  obtain ⟨hk1, hk2⟩ := keyOk_hk hk
  unfold dictGet
  refine wpAny_holding ?_
  refine wpAny_bind (pyHash_key (nk k) u A s _ (nested_of hk1 rds) (by rw [depth_nk k hk1]; omega) ?_)
  obtain ⟨S, e⟩ := seek_of (A := A) (s := { s with toks := s.toks + (nk k).draws }) I.hok I.kIn pr re pw rk hk ru hu
  refine wpAny_bind (dfind (s := { s with toks := s.toks + (nk k).draws }) S ho hdd ?_)
  rw [e]
  cases hj : kix kvs k with
  | none =>
    refine wpAny_pure (h _ _ ?_)
    rw [dget_kix, hj]
    rfl
  | some j =>
    refine wpAny_bind (wpAny_dictEntries (s := { s with toks := s.toks + (nk k).draws }) ho hdd ?_)
    have hj' := hj
    unfold kix at hj'
    rw [List.findIdx?_eq_some_iff_getElem] at hj'
    obtain ⟨hlt, _⟩ := hj'
    have hl1 := ents_len pr
    have hl2 := re.length
    have hl3 : ents.toList.length = ents.size := Array.length_toList
    have hlt' : j < ents.size := by rw [← hl3, ← hl1, hl2]; exact hlt
    have hge : ents[j]? = some ents[j] := Array.getElem?_eq_getElem hlt'
    obtain ⟨kV', vV, p, q, e1, e2, r1, r2, _, _, _, d2⟩ := ent_at pr re (i := j) (e := ents[j]) (by rw [Array.getElem?_toList]; exact hge)
    rw [hge]
    refine wpAny_pure (h _ _ ?_)
    rw [dget_kix, hj]
    show Found X.w X.K F H ((kvs[j]?).map (·.2)) _
    rw [e2]
    exact ⟨vV, _, rfl, r2, d2⟩

/-- the entry that a store leaves -/
def putE (es : List (Int × V × V)) (j : Option Nat) (hsh : Int) (kV vV : V) : List (Int × V × V) := putIx es j (fun e => (e.1, e.2.1, vV)) (hsh, kV, vV)
theorem dSet (I : L2.Inv X pins σ H s) {d : Addr} {es : List (Int × V × V)} {kvs : List (PyData × PyData)} (hd : RdD H d es) (re : RepEs X.w X.K F H es kvs) (pw : kvs.Pairwise (fun p q => p.1.eqv q.1 = false))
    {kV vV : V} {k : PyData} {u v : Value} (rk : RepD X.w X.K F H kV k) (hk : keyOk k = true) (ru : RelV kV u) (rv : RelV vV v) (hu : A.units + 8 < cLine) (hz : kvs.length ≤ sizeLine) {Q : Unit → Shared → Prop}
    (h : ∀ h' tk, Heap.SameBut d s.heap h' → (∃ o ents ep, h'.get? d = some o ∧ o.ExactDict ∧ o.data = .dict ents ep ∧ Paired EntR (putE es (kix kvs k) ((nk k).hash X.w) kV vV) ents.toList) → Q () { s with heap := h', toks := tk }) :
    wpAny (model X.prog X.w) A (dictSet d u v) Q E s := by
  obtain ⟨⟨o, ents, ep, ho, hc, hdd, pr⟩, _⟩ := hd.ok I.hok
  obtain ⟨as, rds⟩ := rk.reads I.hok I.kIn ru
  obtain ⟨hk1, hk2⟩ := keyOk_hk hk
  have hl1 := ents_len pr
  have hl2 := re.length
  have hl3 : ents.toList.length = ents.size := Array.length_toList
  have hsz : ents.size ≤ sizeLine := by rw [← hl3, ← hl1, hl2]; exact hz
  unfold dictSet
  refine wpAny_holding ?_
  refine wpAny_bind (pyHash_key (nk k) u A s _ (nested_of hk1 rds) (by rw [depth_nk k hk1]; omega) ?_)
  unfold dictSetHashed
  refine wpAny_holding ?_
  obtain ⟨S, e⟩ := seek_of (A := A) (s := { s with toks := s.toks + (nk k).draws }) I.hok I.kIn pr re pw rk hk ru hu
  refine wpAny_bind (dfind (s := { s with toks := s.toks + (nk k).draws }) S ho hdd ?_)
  rw [e]
  cases hj : kix kvs k with
  | none =>
    refine wpAny_bind (wpAny_rule ?_)
    refine (wpAny_updateDictKeys (f := fun x => x.push ⟨(nk k).hash X.w, u, v⟩) (hz := hsz) (hf := by simp) (s := { s with toks := s.toks + (nk k).draws }) ho hdd (h _ _ (Heap.SameBut.update ..) ⟨_, _, ep + 1, Heap.get?_update_self _ ho (Obj.isFreed_of_dict (Obj.data_mapDictKeys hdd _)), hc.mapDictKeys _, Obj.data_mapDictKeys hdd _, ?_⟩))
    rw [hj, Array.toList_push]
    exact entR_append pr (.cons ⟨rfl, ru, rv⟩ .nil)
  | some j =>
    refine wpAny_bind (wpAny_rule (wpAny_bind (wpAny_updateDict (f := fun x => x.modify j fun e => { e with val := v }) (hz := by simp) (s := { s with toks := s.toks + (nk k).draws }) ho hdd (wpAny_point (h _ _ (Heap.SameBut.update ..) ⟨_, _, ep, Heap.get?_update_self _ ho (Obj.isFreed_of_dict (Obj.data_mapDict hdd _)), hc.mapDict _, Obj.data_mapDict hdd _, ?_⟩)))))
    rw [hj, Array.toList_modify]
    exact entR_modify pr rv j
end
end Z

/-! Zt0: a tuple times 1, times 0. -/
namespace Z
open PySem PySem.Spec PyProof.Rows L2
theorem tmul_same (l : Addr) (items : Array Value) (n : Nat) (x : Int) (u : Tok) (c0 : (decide (x < -(2 ^ 63)) || decide (x ≥ 2 ^ 63)) = false) (c1 : (items.isEmpty || x == 1) = true) (dd : Option Addr) (sl : Array (Option Value)) :
    Meets (Builtin.«tuple.__mul__» ⟨[.ref l, .int x u], []⟩) (fun _ R s => s.heap.get? l = some { cls := .type "tuple", dict := dd, data := .seq items n, slots := sl } ∧ R (.ok (.ret (Value.ref l))) s) :=
  .of_wp fun prog w A R s h => by
    obtain ⟨hp, g, d, tk, os⟩ := s
    obtain ⟨hl, h⟩ := h
    have f1 := AutoSeq1.idx_int
    wp_walk using wpAny_loadPart' hl
    repeat (first
      | (refine wpAny_ite_false (decide_eq_false (by rw [c0]; exact Bool.false_ne_true)) ?_; wp_walk using wpAny_loadPart' hl)
      | (refine wpAny_ite_true (decide_eq_true c1) ?_; wp_walk using wpAny_loadPart' hl))
    exact ⟨_, rfl, h⟩
theorem tmul_zero (l : Addr) (items : Array Value) (n : Nat) (x : Int) (u : Tok) (c0 : (decide (x < -(2 ^ 63)) || decide (x ≥ 2 ^ 63)) = false) (c1 : (items.isEmpty || x == 1) = false) (c2 : (decide (x ≤ 0) || items.isEmpty) = true) (dd : Option Addr) (sl : Array (Option Value)) :
    Meets (Builtin.«tuple.__mul__» ⟨[.ref l, .int x u], []⟩) (fun _ R s => s.heap.get? l = some { cls := .type "tuple", dict := dd, data := .seq items n, slots := sl } ∧
      R (.ok (.ret (Value.ref s.heap.objs.size))) { s with heap := s.heap.push { cls := Value.type "tuple", data := Data.seq #[] }, toks := s.toks }) :=
  .of_wp fun prog w A R s h => by
    obtain ⟨hp, g, d, tk, os⟩ := s
    obtain ⟨hl, h⟩ := h
    have f1 := AutoSeq1.idx_int
    wp_walk using wpAny_loadPart' hl
    repeat (first
      | (refine wpAny_ite_false (decide_eq_false (by rw [c0]; exact Bool.false_ne_true)) ?_; wp_walk using wpAny_loadPart' hl)
      | (refine wpAny_ite_false (decide_eq_false (by rw [c1]; exact Bool.false_ne_true)) ?_; wp_walk using wpAny_loadPart' hl)
      | (refine wpAny_ite_true (decide_eq_true c2) ?_; wp_walk using wpAny_loadPart' hl))
    exact ⟨_, rfl, h⟩
def rRepT1 (K : PySem.W.Frag) : R2 := fun x y H Q => ∃ l k xs, x = .ref l ∧ y = .int k ∧ SqT K H l xs ∧ -1000 ≤ k ∧ k ≤ 1000 ∧ (k ≤ 1 ∨ xs = []) ∧ (k = 1 → Q (.ref l) H) ∧ (xs = [] → Q (.ref l) H) ∧ (k ≤ 0 → ∀ p, H p = none → Q (.ref p) (upd H p (.tup [])))
section
variable {X : L2.Cx}
theorem op_repT1 : L2.OpR X (binaryOp .Mult) (rRepT1 X.K) := by
  intro pins s σ H x y v u Q I rx ry h
  obtain ⟨l, k, xs, rfl, rfl, hT, h1, h2, h3, q1, q2, q3⟩ := h
  cases rx
  obtain ⟨t, rfl⟩ := ry
  obtain ⟨its, r, ⟨⟨cls, dd, data, sl⟩, ho, hc, n, hd⟩, hs⟩ := I.tuple hT
  simp only at hc hd
  subst hc hd
  have hle : its.length = xs.length := r.length.symm
  have c0 : (decide (k < -(2 ^ 63)) || decide (k ≥ 2 ^ 63)) = false := by
    rw [decide_eq_false (by omega), decide_eq_false (by omega)] <;> rfl
  cases c1 : (its.toArray.isEmpty || k == 1) with
  | true =>
    refine wpAny_binaryOp_repeat_ref (T := "tuple") (U := "int") (by decide) ⟨_, ho, rfl⟩ (fun s' => typeIs_int s' k t) noFill_tuple_mul F.fills_int_mul F.slot_int_rmul repeat_tuple F.slot_int_index.lookup
      (call_meets F.slot_int_rmul (typeIs_int s k t) F.entry_int_rmul (F.args_int_rmul_2 _ _) (int_rmul_tuple k t l its.toArray n dd sl)
        ⟨ho, rfl, ⟨_, ho, rfl⟩, call_meets F.slot_tuple_mul ⟨_, ho, rfl⟩ F.entry_tuple_mul (F.args_tuple_mul_2 _ _) (tmul_same l its.toArray n k t c0 c1 dd sl) ⟨ho, ?_⟩⟩)
    refine ⟨.ref l, H, I, rfl, ?_⟩
    rw [Bool.or_eq_true] at c1
    rcases c1 with c1 | c1
    · refine q2 ?_
      have : its = [] := by simpa using c1
      rw [this] at hle
      exact List.eq_nil_of_length_eq_zero hle.symm
    · exact q1 (by simpa using c1)
  | false =>
    have hk : k ≤ 0 := by
      rw [Bool.or_eq_false_iff] at c1
      have : ¬ (k = 1) := by simpa using c1.2
      rcases h3 with h3 | h3
      · omega
      · subst h3
        have : its = [] := List.eq_nil_of_length_eq_zero (by simpa using hle)
        subst this
        simp at c1
    refine wpAny_binaryOp_repeat_ref (T := "tuple") (U := "int") (by decide) ⟨_, ho, rfl⟩ (fun s' => typeIs_int s' k t) noFill_tuple_mul F.fills_int_mul F.slot_int_rmul repeat_tuple F.slot_int_index.lookup
      (call_meets F.slot_int_rmul (typeIs_int s k t) F.entry_int_rmul (F.args_int_rmul_2 _ _) (int_rmul_tuple k t l its.toArray n dd sl)
        ⟨ho, rfl, ⟨_, ho, rfl⟩, call_meets F.slot_tuple_mul ⟨_, ho, rfl⟩ F.entry_tuple_mul (F.args_tuple_mul_2 _ _) (tmul_zero l its.toArray n k t c0 c1 (by rw [decide_eq_true hk]; rfl) dd sl) ⟨ho, ?_⟩⟩)
    refine ⟨.ref s.heap.objs.size, _, I.laid (t' := s.toks) (o := .tup []) (fun b ob q => Heap.get?_push_of_some _ q) (Nat.le_refl _) ?_, rfl, q3 hk _ (I.hok.fresh (Nat.le_refl _))⟩
    exact ⟨Nat.zero_le _, [], .nil, IsTup.new _ _⟩
end
end Z

/-! Z4: operations on values. -/
namespace Z
open PySem PySem.Spec PyProof.Rows L2
/-- what an operation's answer is to do -/
def Ans (w : World) (K : PySem.W.Frag) (F : Fz) (fp : List Addr) (H : Hp) (σ : L2.St) (env : Env) (x : W) (Q : VK) : Prop :=
  ∀ F' fp' H' v q, Step F fp H F' (q ++ fp') H' → R w K F' H' σ env fp' → Ow w K F' H' v x q fp' → Q v H'
section
variable {X : L2.Cx} {pins : List (Addr × Obj)} {σ : L2.St} {s : Shared} {H : Hp} {F : Fz} {fp : List Addr} {env : Env} {Q : VK}

theorem Ans.f {w : World} {K : PySem.W.Frag} (r : R w K F H σ env fp) {p : PyData} {v : V} (h : Ans w K F fp H σ env (.f p) Q) (d : RepD w K F H v p) : Q v H :=
  h F fp H v [] .refl r (.f d r.nd)
theorem Ans.int {w : World} {K : PySem.W.Frag} (r : R w K F H σ env fp) {i : Int} (h : Ans w K F fp H σ env (.f (.int i)) Q) : Q (.int i) H := h.f r (.int i)
theorem Ans.bool {w : World} {K : PySem.W.Frag} (r : R w K F H σ env fp) {i : Bool} (h : Ans w K F fp H σ env (.f (.bool i)) Q) : Q (.bl i) H := h.f r (.bool i)
theorem Ans.str {w : World} {K : PySem.W.Frag} (r : R w K F H σ env fp) {i : Str} (h : Ans w K F fp H σ env (.f (.str i)) Q) : Q (.str i) H := h.f r (.str i)
theorem Ans.non {w : World} {K : PySem.W.Frag} (r : R w K F H σ env fp) (h : Ans w K F fp H σ env (.f .none) Q) : Q .non H := h.f r .none
/-- a new tuple -/
theorem Ans.tup {w : World} {K : PySem.W.Frag} (r : R w K F H σ env fp) {ps : List PyData} {xs : List V} (h : Ans w K F fp H σ env (.f (.tuple ps)) Q) (d : RepDs w K F H xs ps) (p : Addr) (n : H p = none) : Q (.ref p) (upd H p (.tup xs)) := by
  obtain ⟨st, r', k⟩ := r.newF (o := .tup xs) n
  exact h _ fp _ _ [] st r' (.f (.tuple (.inl ⟨.inr rfl, .inl upd_same⟩) (d.mono k)) r.nd)
/-- a new list -/
theorem Ans.lst {w : World} {K : PySem.W.Frag} (r : R w K F H σ env fp) {ps : List PyData} {xs : List V} (h : Ans w K F fp H σ env (.lst ps) Q) (d : RepDs w K F H xs ps) (p : Addr) (n : H p = none) : Q (.ref p) (upd H p (.lst xs)) := by
  obtain ⟨st, r', k, nd, dj⟩ := r.newO (o := .lst xs) n
  exact h F fp _ _ [p] st r' ⟨.lst upd_same (d.mono k), nd, dj⟩

/-- looked at: what stands there -/
theorem RepV.list {w : World} {K : PySem.W.Frag} {v : V} {ps : List PyData} (h : RepV w K F H v (.list ps)) : ∃ a xs, v = .ref a ∧ LsR K H a xs ∧ RepDs w K F H xs ps := by
  rcases h with h | ⟨a, xs, ps', e, rfl, h, r⟩ | ⟨a, ep, es, kvs, e, _⟩
  · cases h with | list h r => exact ⟨_, _, rfl, h.r, r⟩
  · cases e; exact ⟨_, _, rfl, .inl (.inl h), r⟩
  · cases e
theorem RepV.d {w : World} {K : PySem.W.Frag} {v : V} {p : PyData} (h : RepV w K F H v p) (h1 : ∀ l, p ≠ .list l) (h2 : ∀ l, p ≠ .dict l) : RepD w K F H v p := by
  rcases h with h | ⟨a, xs, ps', e, rfl, h, r⟩ | ⟨a, ep, es, kvs, e, _⟩
  · exact h
  · exact absurd e (h1 _)
  · exact absurd e (h2 _)
theorem RepV.tup {w : World} {K : PySem.W.Frag} {v : V} {ps : List PyData} (h : RepV w K F H v (.tuple ps)) : ∃ a xs, v = .ref a ∧ SqT K H a xs ∧ RepDs w K F H xs ps := by
  have d := h.d (fun _ z => by cases z) fun _ z => by cases z
  cases d with | tuple h' r => exact ⟨_, _, rfl, h'.sq, r⟩
theorem RepV.int {w : World} {K : PySem.W.Frag} {v : V} {i : Int} (h : RepV w K F H v (.int i)) : v = .int i := by
  have d := h.d (fun _ z => by cases z) fun _ z => by cases z
  cases d; rfl
theorem RepV.str {w : World} {K : PySem.W.Frag} {v : V} {i : Str} (h : RepV w K F H v (.str i)) : v = .str i := by
  have d := h.d (fun _ z => by cases z) fun _ z => by cases z
  cases d; rfl
theorem RepV.bool {w : World} {K : PySem.W.Frag} {v : V} {i : Bool} (h : RepV w K F H v (.bool i)) : v = .bl i := by
  have d := h.d (fun _ z => by cases z) fun _ z => by cases z
  cases d; rfl
theorem RepV.non {w : World} {K : PySem.W.Frag} {v : V} (h : RepV w K F H v .none) : v = .non := by
  have d := h.d (fun _ z => by cases z) fun _ z => by cases z
  cases d; rfl
theorem RepV.dict {w : World} {K : PySem.W.Frag} {v : V} {kvs : List (PyData × PyData)} (h : RepV w K F H v (.dict kvs)) :
    ∃ a es, v = .ref a ∧ RdD H a es ∧ (a == sysModules) = false ∧ RepEs w K F H es kvs ∧ kvs.Pairwise (fun p q => p.1.eqv q.1 = false) := by
  rcases h with h | ⟨a, xs, ps', e, rfl, h, r⟩ | ⟨a, ep, es, kvs, e, rfl, h, z, r, n⟩
  · cases h with | dict h r n => exact ⟨_, _, rfl, h.1, h.2.2, r, n⟩
  · cases e
  · cases e; exact ⟨_, _, rfl, ⟨_, .inl h⟩, z, r, n⟩
/-- looked at, in the model's heap -/
theorem RepV.reads {w : World} {K : PySem.W.Frag} {P : Program} {hp : Heap} (ok : HOk P w H hp) (k : K.In hp) {v : V} {p : PyData} (h : RepV w K F H v p) {u : Value} (r : RelV v u) : ∃ as, Reads hp u p as := by
  rcases h with h | ⟨a, xs, ps', rfl, rfl, h, rs⟩ | ⟨a, ep, es, kvs, rfl, rfl, h, z, rs, n⟩
  · exact h.reads ok k r
  · cases r
    obtain ⟨z, its, n, rv, e⟩ := ok a _ h
    obtain ⟨as, q⟩ := RepDs.reads ok k rs rv
    exact ⟨_, .list e rfl rfl (by simpa using q)⟩
  · cases r
    obtain ⟨⟨o, ents, e, hc, hd, pr⟩, _⟩ := ok a _ h
    obtain ⟨as, bs, q1, q2⟩ := RepEs.reads ok k rs pr
    exact ⟨_, .dict e hc.1 hd q1 q2⟩

theorem lstR (I : L2.Inv X pins σ H s) {l : Addr} {xs : List V} (h : LsR X.K H l xs) : xs.length ≤ sizeLine ∧ ∃ (its : List Value) (n : Nat), Vals xs its ∧ xs.length = its.length ∧ s.heap.get? l = some { cls := .type "list", data := .seq its.toArray n } := by
  rcases h with h | ⟨its, e, z, r⟩
  · obtain ⟨z, its, n, r, e⟩ := h.ok I.hok
    exact ⟨z, its, n, r, r.length, e⟩
  · exact ⟨by rw [r.length]; exact z, its, 0, r, r.length, I.kIn _ _ e⟩
/-! ### arithmetic -/
theorem catL (I : L2.Inv X pins σ H s) {l b : Addr} {xs zs : List V} (hH : LsR X.K H l xs) (hB : LsR X.K H b zs) (hz : xs.length + zs.length ≤ sizeLine) (q : ∀ p, H p = none → Q (.ref p) (upd H p (.lst (xs ++ zs)))) :
    wpAny (model X.prog X.w) X.A (binaryOp .Add (.ref l) (.ref b)) (EP X pins σ Q) X.xe s := by
  obtain ⟨z, its, n, r, hl, e⟩ := lstR I hH
  obtain ⟨z2, its2, n2, r2, hl2, e2⟩ := lstR I hB
  refine PySem.P.add_list e e2 ?_ (by rw [List.size_toArray, List.size_toArray]; omega)
  have ea : its.toArray ++ its2.toArray = (its ++ its2).toArray := by simp
  rw [ea]
  exact ⟨.ref _, _, I.lnew (t' := s.toks) (r.append r2) (by rw [List.length_append]; omega), rfl, q _ I.fresh⟩
theorem repL (I : L2.Inv X pins σ H s) {l : Addr} {xs : List V} {k : Int} {t : Tok} (hH : LsR X.K H l xs) (h1 : -(2 ^ 63) ≤ k) (h2 : k < 2 ^ 63) (hz : xs.length * k.toNat ≤ sizeLine)
    (q : ∀ p, H p = none → Q (.ref p) (upd H p (.lst (List.replicate k.toNat xs).flatten))) : wpAny (model X.prog X.w) X.A (binaryOp .Mult (.ref l) (.int k t)) (EP X pins σ Q) X.xe s := by
  obtain ⟨z, its, n, r, hl, e⟩ := lstR I hH
  have hlen : its.toArray.size * k.toNat ≤ sizeLine := by rw [List.size_toArray, ← hl]; exact hz
  have hcap : ¬ its.toArray.size * k.toNat > (2 ^ 63 - 1) / 8 := by
    have : (sizeLine : Nat) ≤ (2 ^ 63 - 1) / 8 := by decide
    omega
  have hfit : ¬ (!Builtin.List.listFitsIndex k) = true := by
    rw [fitsIndex_both h1 h2]
    exact Bool.false_ne_true
  have hlong : ¬ Builtin.List.listTooLong (its.toArray.size * k.toNat) = true := by
    rw [notLongL hlen]
    exact Bool.false_ne_true
  have hnew : List.foldl (fun x1 x2 => x1 ++ x2) #[] (List.replicate (if its.toArray.isEmpty = true then 0 else k.toNat) its.toArray) = (List.replicate k.toNat its).flatten.toArray := by
    have f0 : ∀ m : Nat, List.foldl (fun x1 x2 => x1 ++ x2) #[] (List.replicate m its.toArray) = (List.replicate m its).flatten.toArray := fun m => by
      have := foldl_rep its m []
      rw [List.nil_append] at this
      exact this
    rw [f0]
    cases its with
    | nil => simp
    | cons a r' => rw [if_neg (by simp)]
  refine wpAny_binaryOp_repeat_ref (T := "list") (U := "int") (by decide) ⟨_, e, rfl⟩ (fun s' => typeIs_int s' k t) noFill_list_mul F.fills_int_mul F.slot_int_rmul repeat_list F.slot_int_index.lookup
    (call_meets F.slot_int_rmul (typeIs_int s k t) F.entry_int_rmul (F.args_int_rmul_2 _ _) (int___rmul___int_list k t l its.toArray n)
      ⟨e, rfl, ⟨_, e, rfl⟩, call_meets F.slot_list_mul ⟨_, e, rfl⟩ F.entry_list_mul (F.args_list_mul_2 _ _) (AutoListH.list___mul___list_int_3 l its.toArray n k t hfit hcap hlong) ⟨e, ?_⟩⟩)
  rw [hnew]
  exact ⟨.ref _, _, I.lnew (t' := s.toks) (r.rep k.toNat) (by rw [PyProof.Rows.lm_len_rep_flat, Nat.mul_comm]; exact hz), rfl, q _ I.fresh⟩
theorem RepDs.flatten {w : World} {K : PySem.W.Frag} {xs : List V} {ps : List PyData} (h : RepDs w K F H xs ps) : ∀ n, RepDs w K F H (List.replicate n xs).flatten (List.replicate n ps).flatten
  | 0 => .nil
  | n + 1 => by
    rw [List.replicate_succ, List.replicate_succ, List.flatten_cons, List.flatten_cons]
    exact h.append (RepDs.flatten h n)
theorem foldl_repA {α : Type} (its : List α) : ∀ (k : Nat) (acc : List α), List.foldl (fun x1 x2 => x1 ++ x2) acc.toArray (List.replicate k its.toArray) = (acc ++ (List.replicate k its).flatten).toArray
  | 0, acc => by simp
  | k + 1, acc => by
    have e : acc.toArray ++ its.toArray = (acc ++ its).toArray := by simp
    have e2 : (acc ++ its) ++ (List.replicate k its).flatten = acc ++ (List.replicate (k + 1) its).flatten := by
      rw [List.replicate_succ, List.flatten_cons, List.append_assoc]
    rw [← e2, ← foldl_repA its k (acc ++ its), ← e, List.replicate_succ, List.foldl_cons]
theorem mulS (I : L2.Inv X pins σ H s) {x : Str} {k : Int} {t u : Tok} (h1 : -1000 ≤ k) (h2 : k ≤ 1000) (hz : x.length ≤ 1000) (q : Q (.str ⟨(rep x.cps.toList k).toArray⟩) H) :
    wpAny (model X.prog X.w) X.A (binaryOp .Mult (.str x t) (.int k u)) (EP X pins σ Q) X.xe s := by
  have fin : ∀ z : Str, z = ⟨(rep x.cps.toList k).toArray⟩ → ∀ t' tk, EP X pins σ Q (.str z t') { s with toks := tk } := fun z e t' tk => by
    subst e
    exact ⟨.str _, H, I.tok _, ⟨_, rfl⟩, q⟩
  by_cases hk : k < 1
  · refine PySem.P.mul_str_none hk (by omega) (fin Str.empty ?_ _ _)
    have : k.toNat = 0 := by omega
    simp [rep, this, Str.empty]
  · have hr : (decide (k < -(2 ^ 63 : Int)) || decide (k ≥ 2 ^ 63)) = false := by
      rw [decide_eq_false (by omega), decide_eq_false (by omega)]
      rfl
    have hfold : ∀ m : Nat, ((List.replicate m x.cps).foldl (fun a b => a ++ b) #[]) = (List.replicate m x.cps.toList).flatten.toArray := fun m => by
      have h := foldl_repA x.cps.toList m []
      simpa using h
    refine PySem.P.mul_str hr (fun _ _ => ?_) (fun _ _ => ?_) ?_
    · have : (9223372036854775807 : Int) / k ≥ 1000 := by
        have : (1000 : Int) ≤ 9223372036854775807 / 1000 := by decide
        have := Int.ediv_le_ediv (a := 9223372036854775807) (b := 9223372036854775807) (c := k) (by omega) (Int.le_refl _)
        exact Int.le_ediv_of_mul_le (by omega) (by omega)
      have e : ((2 : Int) ^ 63 - 1) = 9223372036854775807 := by decide
      rw [e]
      omega
    · have hm : x.length * k.toNat ≤ 1000 * 1000 := Nat.mul_le_mul hz (by omega)
      unfold Builtin.Str.tooLong
      exact decide_eq_false (by rw [sizeLine_eq]; omega)
    · rw [if_neg hk]
      by_cases h1' : (k == 1 || x.length == 0) = true
      · rw [if_pos h1']
        show EP X pins σ Q (.str x t) s
        refine ⟨.str x, H, I, ⟨_, rfl⟩, ?_⟩
        have : (⟨(rep x.cps.toList k).toArray⟩ : Str) = x := by
          rw [Bool.or_eq_true, beq_iff_eq, beq_iff_eq] at h1'
          rcases h1' with rfl | h0
          · simp [rep]
          · have : x.cps = #[] := by
              simpa [Str.length] using h0
            cases x
            simp only at this
            subst this
            simp [rep]
        rw [this] at q
        exact q
      · rw [if_neg h1']
        rw [hfold]
        have hl : (⟨(List.replicate k.toNat x.cps.toList).flatten.toArray⟩ : Str).length = k.toNat * x.length := by
          show (List.replicate k.toNat x.cps.toList).flatten.toArray.size = _
          rw [List.size_toArray, PyProof.Rows.lm_len_rep_flat]
          simp [Str.length]
        refine ⟨?_, fin _ rfl _ _⟩
        rw [hl, sizeLine_eq]
        have hm : k.toNat * x.length ≤ 1000 * 1000 := Nat.mul_le_mul (by omega) hz
        omega
theorem RepDs.nil_iff {w : World} {K : PySem.W.Frag} {xs : List V} {ps : List PyData} (h : RepDs w K F H xs ps) : xs = [] ↔ ps = [] := by
  cases h with
  | nil => simp
  | cons _ _ => simp
theorem opBin {σ₂ : L2.St} (op : Operator) (I : L2.Inv X pins σ H s) (r : R X.w X.K F H σ₂ env fp) {x y : V} {u v : Value} (rx : RelV x u) (ry : RelV y v) {p q : PyData} (hx : RepV X.w X.K F H x p) (hy : RepV X.w X.K F H y q)
    {z : W} (e : binop op p q = some z) (a : Ans X.w X.K F fp H σ₂ env z Q) : wpAny (model X.prog X.w) X.A (binaryOp op u v) (EP X pins σ Q) X.xe s := by
  unfold binop at e
  split at e
  · rename_i i j
    obtain rfl := hx.int
    obtain rfl := hy.int
    cases e
    exact op_add pins s σ H _ _ u v Q I rx ry ⟨i, j, rfl, rfl, a.int r⟩
  · rename_i i j
    obtain rfl := hx.int
    obtain rfl := hy.int
    cases e
    exact op_sub pins s σ H _ _ u v Q I rx ry ⟨i, j, rfl, rfl, a.int r⟩
  · rename_i i j
    obtain rfl := hx.int
    obtain rfl := hy.int
    split at e
    · rename_i hc
      cases e
      exact op_mulW pins s σ H _ _ u v Q I rx ry ⟨i, j, rfl, rfl, hc, a.int r⟩
    · cases e
  · rename_i i j
    obtain rfl := hx.int
    obtain rfl := hy.int
    split at e
    · rename_i hc
      cases e
      obtain ⟨t, rfl⟩ := rx
      obtain ⟨t', rfl⟩ := ry
      exact floordiv_int hc.1 ⟨.int _, H, I.tok _, ⟨_, rfl⟩, a.int r⟩ (.inl (PyProof.noPylong_of_log2 hc.2))
    · cases e
  · rename_i i j
    obtain rfl := hx.int
    obtain rfl := hy.int
    split at e
    · rename_i hc
      cases e
      exact op_modN pins s σ H _ _ u v Q I rx ry ⟨i, j, rfl, rfl, hc, a.int r⟩
    · cases e
  · rename_i i j
    obtain rfl := hx.int
    obtain rfl := hy.int
    split at e
    · rename_i hc
      cases e
      exact op_pow pins s σ H _ _ u v Q I rx ry ⟨i, j, rfl, rfl, hc, a.int r⟩
    · cases e
  · rename_i i j
    obtain rfl := hx.str
    obtain rfl := hy.str
    split at e
    · rename_i hc
      cases e
      exact op_add_str pins s σ H _ _ u v Q I rx ry ⟨i, j, rfl, rfl, of_decide_eq_true hc, a.str r⟩
    · cases e
  · rename_i l m
    obtain ⟨b1, xs, rfl, h1, d1⟩ := hx.tup
    obtain ⟨b2, ys, rfl, h2, d2⟩ := hy.tup
    split at e
    · rename_i hc
      cases e
      have hc := of_decide_eq_true hc
      refine op_catA pins s σ H _ _ u v Q I rx ry ⟨b1, b2, xs, ys, rfl, rfl, h1, h2, by rw [d1.length, d2.length]; exact hc, fun e => ?_, fun _ e => ?_, fun _ _ => a.tup r (d1.append d2)⟩
      · have := d1.nil_iff.mp e
        subst this
        exact a.f r (hy.d (fun _ z => by cases z) fun _ z => by cases z)
      · have := d2.nil_iff.mp e
        subst this
        rw [List.append_nil] at a
        exact a.f r (hx.d (fun _ z => by cases z) fun _ z => by cases z)
    · cases e
  · rename_i l m
    obtain ⟨b1, xs, rfl, h1, d1⟩ := hx.list
    obtain ⟨b2, ys, rfl, h2, d2⟩ := hy.list
    cases rx
    cases ry
    split at e
    · rename_i hc
      cases e
      exact catL I h1 h2 (by rw [d1.length, d2.length]; exact of_decide_eq_true hc) (a.lst r (d1.append d2))
    · cases e
  · rename_i l k
    obtain ⟨b1, xs, rfl, h1, d1⟩ := hx.tup
    obtain rfl := hy.int
    split at e
    · rename_i hc
      cases e
      by_cases hg : xs ≠ [] ∧ 2 ≤ k
      · exact op_repT pins s σ H _ _ u v Q I rx ry ⟨b1, k, xs, rfl, rfl, h1, hg.1, hg.2, hc.2.1, by rw [d1.length]; exact hc.2.2, a.tup r (d1.flatten _)⟩
      · have dx := hx.d (fun _ z => by cases z) (fun _ z => by cases z)
        refine op_repT1 pins s σ H _ _ u v Q I rx ry ⟨b1, k, xs, rfl, rfl, h1, hc.1, hc.2.1, ?_, fun hk => ?_, fun hx0 => ?_, fun hk => ?_⟩
        · by_cases hx0 : xs = []
          · exact .inr hx0
          · exact .inl (by
              have : ¬ 2 ≤ k := fun z => hg ⟨hx0, z⟩
              omega)
        · refine a.f r ?_
          have : rep l k = l := by
            subst hk
            simp [rep]
          rw [this]
          exact dx
        · refine a.f r ?_
          have h0 : l = [] := d1.nil_iff.mp hx0
          have : rep l k = l := by
            subst h0
            simp [rep]
          rw [this]
          exact dx
        · refine a.tup r ?_
          have : rep l k = [] := by
            unfold rep
            rw [show k.toNat = 0 by omega]
            rfl
          rw [this]
          exact .nil
    · cases e
  · rename_i l k
    obtain ⟨b1, xs, rfl, h1, d1⟩ := hx.list
    obtain rfl := hy.int
    cases rx
    obtain ⟨t, rfl⟩ := ry
    split at e
    · rename_i hc
      cases e
      exact repL I h1 hc.1 hc.2.1 (by rw [d1.length]; exact hc.2.2) (a.lst r (d1.flatten _))
    · cases e
  · rename_i i k
    obtain rfl := hx.str
    obtain rfl := hy.int
    obtain ⟨t, rfl⟩ := rx
    obtain ⟨t', rfl⟩ := ry
    split at e
    · rename_i hc
      cases e
      exact mulS I hc.1 hc.2.1 hc.2.2 (a.str r)
    · cases e
  · cases e
end
end Z

/-! Zd3: d[k], k in d, d[k] = v, d.get, d.pop, by values. -/
namespace Z
open PySem PySem.Spec PyProof.Rows L2
section
variable {X : L2.Cx} {pins : List (Addr × Obj)} {σ : L2.St} {s : Shared} {H : Hp} {F : Fz} {fp : List Addr} {env : Env} {Q : VK}
theorem DO.typeIs {d : Addr} {es : List (Int × V × V)} (I : L2.Inv X pins σ H s) (hd : RdD H d es) : s.TypeIs (.ref d) "dict" := by
  obtain ⟨⟨o, ents, ep, ho, hc, hdd, pr⟩, _⟩ := hd.ok I.hok
  exact ⟨o, ho, hc.1⟩
theorem DO.ok {P : Program} {w : World} {H : Hp} {h : Heap} {d : Addr} {ep : Nat} {es : List (Int × V × V)} (x : ∃ o ents, h.get? d = some o ∧ o.ExactDict ∧ o.data = .dict ents ep ∧ Paired EntR es ents.toList) : ObjOk P w H h d (DO d ep es) := by
  obtain ⟨o, ents, ho, r⟩ := x
  exact ⟨⟨o, ents, ho, r⟩, ⟨o, ho⟩, fun h1 h2 ⟨o, ents, e, r⟩ st => ⟨o, ents, st _ e, r⟩⟩
/-- d[k], k there -/
theorem getItemD (I : L2.Inv X pins σ H s) {d : Addr} {es : List (Int × V × V)} {kvs : List (PyData × PyData)} (hd : RdD H d es) (re : RepEs X.w X.K F H es kvs) (pw : kvs.Pairwise (fun p q => p.1.eqv q.1 = false))
    {kV : V} {k p : PyData} {u : Value} (rk : RepD X.w X.K F H kV k) (hk : keyOk k = true) (ru : RelV kV u) (hu : X.A.units + 10 < cLine) (hp : dget kvs k = some p) (q : ∀ v, RepD X.w X.K F H v p → Q v H) :
    wpAny (model X.prog X.w) X.A (getItem (.ref d) u) (EP X pins σ Q) X.xe s := by
  have ty := DO.typeIs I hd
  unfold getItem
  refine wpAny_holding ?_
  refine wpAny_bind (wpAny_sequenceKey ty (by decide) ?_)
  refine wpAny_bind (wpAny_callSpecial?_slot (name := Str.ofString "__getitem__") ty slot_dict_getitem (wpAny_call_entry slot_dict_getitem ty entry_dict_getitem ?_ (args_dict_getitem _ _)))
  show wpAny _ _ (dictGet d u >>= _) _ _ s
  refine wpAny_bind (dGet I hd re pw rk hk ru (by show X.A.units + 1 + 8 < cLine; omega) fun tk o ho => ?_)
  rw [hp] at ho
  obtain ⟨v, u', rfl, r1, r2⟩ := ho
  exact wpAny_pure ⟨u', rfl, wpAny_pure ⟨v, H, I.tok _, r1, q v r2⟩⟩
/-- k in d -/
theorem inD_ok (I : L2.Inv X pins σ H s) {d : Addr} {es : List (Int × V × V)} {kvs : List (PyData × PyData)} (hd : RdD H d es) (hs : (d == sysModules) = false) (re : RepEs X.w X.K F H es kvs) (pw : kvs.Pairwise (fun p q => p.1.eqv q.1 = false))
    {kV : V} {k : PyData} {u : Value} (rk : RepD X.w X.K F H kV k) (hk : keyOk k = true) (ru : RelV kV u) (hu : X.A.units + 10 < cLine) {Q : Bool → Shared → Prop} {E : Value → Shared → Prop} (q : ∀ tk, Q (dhas kvs k) { s with toks := tk }) :
    wpAny (model X.prog X.w) X.A (contains (.ref d) u) Q E s := by
  have ty := DO.typeIs I hd
  unfold contains
  refine wpAny_holding ?_
  refine wpAny_bind (wpAny_specialOf ty slot_dict_contains.lookup ?_)
  show wpAny _ _ (if (some (Value.builtin "dict.__contains__") == some Value.none) = true then _ else _) _ E s
  rw [if_neg (by rw [beq_builtin_none]; exact Bool.false_ne_true)]
  refine wpAny_bind (wpAny_callSpecialUnlessNone?_slot (name := Str.ofString "__contains__") ty slot_dict_contains (wpAny_call_entry slot_dict_contains ty entry_dict_contains ?_ (args_dict_contains _ _)))
  show wpAny _ _ (dictGet d u >>= _) _ _ s
  refine wpAny_bind (dGet I hd re pw rk hk ru (by show X.A.units + 1 + 8 < cLine; omega) fun tk o ho => ?_)
  have hq := q tk
  rw [← dget_has] at hq
  cases hp : dget kvs k with
  | some p =>
    rw [hp] at ho hq
    obtain ⟨v, u', rfl, r1, r2⟩ := ho
    show wpAny _ _ (ret (.bool true)) _ _ _
    exact wpAny_pure ⟨_, rfl, wpAny_truthy_bool hq⟩
  | none =>
    rw [hp] at ho hq
    have ho : o = none := ho
    subst ho
    show wpAny _ _ (Builtin.Dict.pendingKey? d u >>= _) _ _ _
    exact wpAny_bind (wpAny_pendingKey_other hs (wpAny_pure ⟨_, rfl, wpAny_truthy_bool hq⟩))
/-- d[k] = v -/
theorem setItemD (I : L2.Inv X pins σ H s) {d : Addr} {ep : Nat} {es : List (Int × V × V)} {kvs : List (PyData × PyData)} (hd : H d = some (DO d ep es)) (re : RepEs X.w X.K F H es kvs) (pw : kvs.Pairwise (fun p q => p.1.eqv q.1 = false))
    {kV vV : V} {k : PyData} {u v : Value} (rk : RepD X.w X.K F H kV k) (hk : keyOk k = true) (ru : RelV kV u) (rv : RelV vV v) (hu : X.A.units + 10 < cLine) (hz : kvs.length ≤ sizeLine) {Q : Hp → Prop}
    (q : ∀ ep, Q (upd H d (DO d ep (putE es (kix kvs k) ((nk k).hash X.w) kV vV)))) : wpAny (model X.prog X.w) X.A (setItem (.ref d) u v) (fun _ s' => ∃ H', L2.Inv X pins σ H' s' ∧ Q H') X.xe s := by
  have ty := DO.typeIs I ⟨_, .inl hd⟩
  unfold setItem
  refine wpAny_holding ?_
  refine wpAny_bind (wpAny_sequenceKey ty (by decide) ?_)
  refine wpAny_bind (wpAny_callSpecial?_slot (name := Str.ofString "__setitem__") ty slot_dict_setitem (wpAny_call_entry slot_dict_setitem ty entry_dict_setitem ?_ (args_dict_setitem _ _ _)))
  show wpAny _ _ (Builtin.Dict.notOrdered "__setitem__" ⟨[.ref d, u, v], []⟩ >>= _) _ _ s
  refine wpAny_bind (wpAny_notOrdered_dict ty ?_)
  show wpAny _ _ (dictSet d u v >>= _) _ _ s
  refine wpAny_bind (dSet I ⟨_, .inl hd⟩ re pw rk hk ru rv (by show X.A.units + 1 + 8 < cLine; omega) hz fun h' tk sb ok => ?_)
  refine wpAny_pure ⟨.none, rfl, wpAny_pure ?_⟩
  obtain ⟨o, ents, ep, ho, r⟩ := ok
  exact ⟨_, I.write (t' := tk) (x := d) (e := d) (by rw [hd]; trivial) (.inl rfl) (fun b u hb e => (sb.2 b hb).trans e) ⟨o, ho⟩ (DO.ok ⟨o, ents, ho, r⟩), q ep⟩
theorem RepEs.put {w : World} {K : PySem.W.Frag} {es : List (Int × V × V)} {kvs : List (PyData × PyData)} (re : RepEs w K F H es kvs) (pw : kvs.Pairwise (fun p q => p.1.eqv q.1 = false)) {kV vV : V} {k p : PyData} (rk : RepD w K F H kV k) (hk : keyOk k = true) (rv : RepD w K F H vV p) :
    RepEs w K F H (putE es (kix kvs k) ((nk k).hash w) kV vV) (dput kvs k p) ∧ (dput kvs k p).Pairwise (fun p q => p.1.eqv q.1 = false) := by
  rw [dput_kix pw (re.same hk)]
  unfold putE
  cases hj : kix kvs k with
  | some j =>
    refine ⟨re.modify rv j, ?_⟩
    unfold putIx
    dsimp only
    rw [List.pairwise_iff_getElem] at pw ⊢
    intro a b ha hb hab
    rw [List.getElem_modify, List.getElem_modify]
    have := pw a b (by simpa using ha) (by simpa using hb) hab
    split <;> split <;> exact this
  | none =>
    refine ⟨re.append (.cons rfl hk rk rv .nil), ?_⟩
    unfold putIx
    dsimp only
    rw [List.pairwise_append]
    refine ⟨pw, by simp, fun a ha b hb => ?_⟩
    rw [List.mem_singleton] at hb
    subst hb
    unfold kix at hj
    rw [List.findIdx?_eq_none_iff] at hj
    exact hj a ha
end
end Z

/-! Z5: comparisons, truth, items, slices. -/
namespace Z
open PySem PySem.Spec PyProof.Rows L2
section
variable {X : L2.Cx} {pins : List (Addr × Obj)} {σ : L2.St} {s : Shared} {H : Hp} {F : Fz} {fp : List Addr} {env : Env} {Q : VK}
theorem plainD_ok {x : PyData} (h : plainD x = true) : x.plain = true ∧ x.depth ≤ 64 := by
  unfold plainD at h
  rw [Bool.and_eq_true, decide_eq_true_eq] at h
  exact h
theorem fin_bool (I : L2.Inv X pins σ H s) {b : Bool} (q : Q (.bl b) H) {tk : Nat} : EP X pins σ Q (.bool b) { s with toks := tk } := ⟨.bl b, H, I.tok _, rfl, q⟩
theorem fin_bool0 (I : L2.Inv X pins σ H s) {b : Bool} (q : Q (.bl b) H) : EP X pins σ Q (.bool b) s := ⟨.bl b, H, I, rfl, q⟩
theorem RepV.isNon {w : World} {K : PySem.W.Frag} {v : V} {p : PyData} (h : RepV w K F H v p) : decide (v = .non) = isNone p := by
  rcases h with h | ⟨a, xs, ps', rfl, rfl, h, r⟩ | ⟨a, ep, es, kvs, rfl, rfl, _⟩
  · cases h <;> rfl
  · rfl
  · rfl
theorem not_isNone {p : PyData} (h : (!isNone p) = true) : p ≠ .none := by
  intro e
  subst e
  cases h
theorem opIn (I : L2.Inv X pins σ H s) {x y : V} {u v : Value} (rx : RelV x u) (ry : RelV y v) {p q : PyData} (hx : RepV X.w X.K F H x p) (hy : RepV X.w X.K F H y q) (hu : X.A.units + 200 < cLine)
    {b : Bool} (e : inD p q = some b) (neg : Bool) (a : Q (.bl (if neg then !b else b)) H) : wpAny (model X.prog X.w) X.A (compareOp (if neg then .NotIn else .In) u v) (EP X pins σ Q) X.xe s := by
  obtain ⟨as, r1⟩ := hx.reads I.hok I.kIn rx
  obtain ⟨bs, r2⟩ := hy.reads I.hok I.kIn ry
  unfold inD at e
  split at e
  · rename_i l
    unfold memD at e
    split at e
    · rename_i hc
      rw [Bool.and_eq_true] at hc
      obtain ⟨p1, p2⟩ := plainD_ok hc.1
      have hm : X.A.units + 1 + min (PyData.depthAll l) p.depth < cLine := by have := Nat.min_le_right (PyData.depthAll l) p.depth; omega
      cases e
      cases neg with
      | true => exact PySem.SeqAt.notIn_list_data r2 r1 hc.2 p1 hm (fin_bool0 I a)
      | false => exact PySem.SeqAt.in_list_data r2 r1 hc.2 p1 hm (fin_bool0 I a)
    · cases e
  · rename_i l
    unfold memD at e
    split at e
    · rename_i hc
      rw [Bool.and_eq_true] at hc
      obtain ⟨p1, p2⟩ := plainD_ok hc.1
      have hm : X.A.units + 1 + min (PyData.depthAll l) p.depth < cLine := by have := Nat.min_le_right (PyData.depthAll l) p.depth; omega
      cases e
      cases neg with
      | true => exact PySem.SeqAt.notIn_tuple_data r2 r1 hc.2 p1 hm (fin_bool0 I a)
      | false => exact PySem.SeqAt.in_tuple_data r2 r1 hc.2 p1 hm (fin_bool0 I a)
    · cases e
  · rename_i l
    split at e
    · rename_i hc
      cases e
      obtain ⟨d, es, rfl, hd, hs, re, pw⟩ := hy.dict
      cases ry
      have hd1 : RepD X.w X.K F H x p := hx.d (fun l z => by subst z; cases hc) fun l z => by subst z; cases hc
      cases neg with
      | true =>
        show wpAny _ _ (do return Value.bool (!(← contains (.ref d) u))) _ _ s
        exact wpAny_bind (inD_ok I hd hs re pw hd1 hc rx (by omega) fun tk => wpAny_pure (fin_bool I a))
      | false =>
        show wpAny _ _ (do return Value.bool (← contains (.ref d) u)) _ _ s
        exact wpAny_bind (inD_ok I hd hs re pw hd1 hc rx (by omega) fun tk => wpAny_pure (fin_bool I a))
    · cases e
  · rename_i y'
    split at e
    · rename_i z
      split at e
      · rename_i hl
        cases e
        obtain rfl := hx.str
        obtain rfl := hy.str
        obtain ⟨c, rfl⟩ : ∃ c, z = ⟨#[c]⟩ := by
          obtain ⟨arr⟩ := z
          have : arr.size = 1 := hl
          obtain ⟨c, hc⟩ := Array.size_eq_one_iff.mp this
          exact ⟨c, by rw [hc]⟩
        have e2 : y'.cps.toList.contains ((#[c] : Array Nat).getD 0 0) = decide (c ∈ y'.cps.toList) := by
          show y'.cps.toList.contains c = _
          rw [Bool.eq_iff_iff]
          simp
        cases neg with
        | true => exact op_notIn_sign pins s σ H _ _ u v Q I rx ry ⟨c, y', rfl, rfl, by rw [← e2]; exact a⟩
        | false => exact op_in_sign pins s σ H _ _ u v Q I rx ry ⟨c, y', rfl, rfl, by rw [← e2]; exact a⟩
      · cases e
    · cases e
  · cases e
theorem opCmp (op : CmpOp) (I : L2.Inv X pins σ H s) {x y : V} {u v : Value} (rx : RelV x u) (ry : RelV y v) {p q : PyData} (hx : RepV X.w X.K F H x p) (hy : RepV X.w X.K F H y q) (hu : X.A.units + 200 < cLine)
    {b : Bool} (e : cmpop op p q = some b) (a : Q (.bl b) H) : wpAny (model X.prog X.w) X.A (compareOp op u v) (EP X pins σ Q) X.xe s := by
  obtain ⟨as, r1⟩ := hx.reads I.hok I.kIn rx
  obtain ⟨bs, r2⟩ := hy.reads I.hok I.kIn ry
  have ord : ∀ {p q : PyData}, ordOk p q = true → PySem.W.alike p q = true ∧ p ≠ .none ∧ X.A.units + min p.depth q.depth < cLine := fun {p q} h => by
    unfold ordOk at h
    rw [Bool.and_eq_true, Bool.and_eq_true, decide_eq_true_eq] at h
    exact ⟨h.1.1, not_isNone h.1.2, by have := Nat.min_le_left p.depth q.depth; omega⟩
  have eqq : ∀ {b : Bool}, eqD p q = some b → p.plain = true ∧ q.plain = true ∧ X.A.units + min p.depth q.depth < cLine ∧ p.eqv q = b := fun {b} h => by
    unfold eqD at h
    split at h
    · rename_i hc
      rw [Bool.and_eq_true] at hc
      obtain ⟨p1, p2⟩ := plainD_ok hc.1
      obtain ⟨q1, q2⟩ := plainD_ok hc.2
      cases h
      exact ⟨p1, q1, by have := Nat.min_le_left p.depth q.depth; omega, rfl⟩
    · cases h
  unfold cmpop at e
  split at e
  · obtain ⟨h1, h2, h3, rfl⟩ := eqq e
    exact PySem.SeqAt.eq_plain r1 r2 h1 h2 h3 (fin_bool0 I a)
  · obtain ⟨c, hc, rfl⟩ := Option.map_eq_some_iff.mp e
    obtain ⟨h1, h2, h3, rfl⟩ := eqq hc
    exact PySem.SeqAt.ne_plain r1 r2 h1 h2 h3 (fin_bool0 I a)
  · split at e
    · cases e
      exact op_isN pins s σ H _ _ u v Q I rx ry ⟨hy.non, by rw [hx.isNon]; exact a⟩
    · cases e
  · split at e
    · cases e
      exact op_notN pins s σ H _ _ u v Q I rx ry ⟨hy.non, by rw [hx.isNon]; exact a⟩
    · cases e
  · exact opIn I rx ry hx hy hu e false a
  · obtain ⟨c, hc, rfl⟩ := Option.map_eq_some_iff.mp e
    exact opIn I rx ry hx hy hu hc true a
  · obtain rfl := hx.int
    obtain rfl := hy.int
    cases e
    exact op_lt pins s σ H _ _ u v Q I rx ry ⟨_, _, rfl, rfl, a⟩
  · obtain rfl := hx.int
    obtain rfl := hy.int
    cases e
    exact op_le pins s σ H _ _ u v Q I rx ry ⟨_, _, rfl, rfl, a⟩
  · obtain rfl := hx.int
    obtain rfl := hy.int
    cases e
    exact op_gt pins s σ H _ _ u v Q I rx ry ⟨_, _, rfl, rfl, a⟩
  · obtain rfl := hx.int
    obtain rfl := hy.int
    cases e
    exact op_ge pins s σ H _ _ u v Q I rx ry ⟨_, _, rfl, rfl, a⟩
  · split at e
    · rename_i hc
      obtain ⟨h1, h2, h3⟩ := ord hc
      cases e
      exact PySem.W.lt_data r1 r2 h1 h2 h3 (fin_bool0 I a)
    · cases e
  · split at e
    · rename_i hc
      obtain ⟨h1, h2, h3⟩ := ord hc
      cases e
      exact PySem.W.le_data r1 r2 h1 h2 h3 (fin_bool0 I a)
    · cases e
  · split at e
    · rename_i hc
      obtain ⟨h1, h2, h3⟩ := ord hc
      cases e
      exact PySem.W.gt_data r1 r2 h1 h2 h3 (fin_bool0 I a)
    · cases e
  · split at e
    · rename_i hc
      obtain ⟨h1, h2, h3⟩ := ord hc
      cases e
      exact PySem.W.ge_data r1 r2 h1 h2 h3 (fin_bool0 I a)
    · cases e

/-! ### truth -/
theorem tru_ok (I : L2.Inv X pins σ H s) {x : V} {u : Value} (rx : RelV x u) {p : PyData} (hx : RepV X.w X.K F H x p) {b : Bool} (e : truthy p = some b) {Q : Bool → Hp → Prop} (q : Q b H) :
    wpAny (model X.prog X.w) X.A (PySem.truthy u) (TP X pins σ Q) X.xe s := by
  refine L2.tru_ok pins s σ H x u Q I rx ⟨b, ?_, q⟩
  cases p with
  | none => obtain rfl := hx.non; simp only [truthy] at e; cases e; rfl
  | bool c => obtain rfl := hx.bool; simp only [truthy] at e; cases e; rfl
  | int i => obtain rfl := hx.int; simp only [truthy] at e; cases e; rfl
  | str z =>
    obtain rfl := hx.str
    simp only [truthy] at e
    split at e
    · rename_i hc
      have hc := of_decide_eq_true hc
      cases e
      refine ⟨hc, ?_⟩
      rw [Bool.eq_iff_iff]
      simp
    · cases e
  | list l =>
    obtain ⟨a, xs, rfl, h1, d1⟩ := hx.list
    simp only [truthy] at e
    cases e
    refine .inl ⟨xs, h1.sq, ?_⟩
    cases d1 <;> rfl
  | tuple l =>
    obtain ⟨a, xs, rfl, h1, d1⟩ := hx.tup
    simp only [truthy] at e
    cases e
    refine .inr (.inl ⟨xs, h1, ?_⟩)
    cases d1 <;> rfl
  | dict l => simp only [truthy] at e; cases e

/-! ### items -/
theorem ix_ixN {n : Nat} {i : Int} {j : Nat} (h : ix n i = some j) : ixN n i = some j := by
  unfold ix at h
  unfold ixN
  split at h
  · rename_i h0
    rw [if_pos h0]
    split at h
    · cases h
      rw [if_pos (by omega)]
    · cases h
  · rename_i h0
    rw [if_neg h0]
    split at h
    · cases h
      rw [if_pos (by omega)]
    · cases h
theorem opItem {σ₂ : L2.St} {value slice : Expr} (I : L2.Inv X pins σ H s) (r : R X.w X.K F H σ₂ env fp) {x y : V} {u v : Value} (rx : RelV x u) (ry : RelV y v) {p q : PyData} (hx : RepV X.w X.K F H x p) (hy : RepV X.w X.K F H y q) (hu : X.A.units + 200 < cLine)
    {z : PyData} (e : item p q = some z) (a : Ans X.w X.K F fp H σ₂ env (.f z) Q) (hs : subscripted slice false u v = operate [u, v] (getItem u v)) : wpAny (model X.prog X.w) X.A (subscriptTail value slice u v) (EP X pins σ Q) X.xe s := by
  unfold item at e
  split at e
  · rename_i l i
    obtain ⟨b, xs, rfl, h1, d1⟩ := hx.list
    obtain rfl := hy.int
    obtain ⟨j, hj, hz⟩ := Option.bind_eq_some_iff.mp e
    obtain ⟨vz, e1, d2⟩ := d1.get hz
    exact ix_list value slice pins s σ H _ _ u v Q I rx ry ⟨b, xs, i, vz, rfl, rfl, h1.sq, by unfold atI; rw [d1.length, ix_ixN hj]; exact e1, a.f r d2⟩ hs
  · rename_i l i
    obtain ⟨b, xs, rfl, h1, d1⟩ := hx.tup
    obtain rfl := hy.int
    obtain ⟨j, hj, hz⟩ := Option.bind_eq_some_iff.mp e
    obtain ⟨vz, e1, d2⟩ := d1.get hz
    exact ix_tup value slice pins s σ H _ _ u v Q I rx ry ⟨b, xs, i, vz, rfl, rfl, h1, by unfold atI; rw [d1.length, ix_ixN hj]; exact e1, a.f r d2⟩ hs
  · rename_i y' i
    obtain rfl := hx.str
    obtain rfl := hy.int
    split at e
    · rename_i hsz
      obtain ⟨j, hj, hz⟩ := Option.bind_eq_some_iff.mp e
      obtain ⟨c, hc, rfl⟩ := Option.map_eq_some_iff.mp hz
      refine ix_str value slice pins s σ H _ _ u v Q I rx ry ⟨y', i, c, rfl, rfl, of_decide_eq_true hsz, ?_, a.str r⟩ hs
      have e0 : y'.cps.toList.length = y'.length := by simp [Str.length]
      unfold atI
      rw [e0, ix_ixN hj]
      simpa using hc
    · cases e
  · rename_i l _
    split at e
    · rename_i hc
      obtain ⟨d, es, rfl, hd, hs', re, pw⟩ := hx.dict
      cases rx
      have hd1 : RepD X.w X.K F H y q := hy.d (fun l z => by subst z; cases hc) fun l z => by subst z; cases hc
      exact tail_any (T := "dict") (DO.typeIs I hd) slot_dict_getitem.lookup (getItemD I hd re pw hd1 hc ry (by omega) e fun v d => a.f r d) hs
    · cases e
  · cases e
end
end Z

/-! Z6: slices. -/
namespace Z
open PySem PySem.Spec PyProof.Rows L2
theorem cut_len {α : Type} (l : List α) (lo hi : Option Int) : (cut l lo hi).length ≤ l.length := by
  unfold cut
  rw [List.length_take, List.length_drop]
  omega
section
variable {X : L2.Cx} {pins : List (Addr × Obj)} {σ : L2.St} {s : Shared} {H : Hp} {F : Fz} {fp : List Addr} {env : Env} {Q : VK}
theorem RepDs.cut {w : World} {K : PySem.W.Frag} {xs : List V} {ps : List PyData} (h : RepDs w K F H xs ps) (lo hi : Option Int) : RepDs w K F H (cutV xs lo hi) (Z.cut ps lo hi) := by
  unfold cutV Z.cut
  rw [h.length]
  exact (h.drop _).take _
/-- a slice's reading -/
def rSlZ (X : L2.Cx) : V → Option Int → Option Int → Hp → VK → Prop := fun x lo hi H Q => ∃ F fp σ env p z, R X.w X.K F H σ env fp ∧ RepV X.w X.K F H x p ∧
  slice p (match lo with | some i => .int i | none => .none) (match hi with | some i => .int i | none => .none) = some z ∧ Ans X.w X.K F fp H σ env z Q
theorem sl_Z : SlR X (rSlZ X) := by
  intro pins s σ H x v vl vu lo hi sl Q I rx hs pl pu h
  obtain ⟨F, fp, σ', env, p, z, r, hx, e, a⟩ := h
  have hb : ∀ o : Option Int, bnd? (match o with | some i => PyData.int i | none => PyData.none) = some o := fun o => by cases o <;> rfl
  unfold slice at e
  rw [hb, hb] at e
  dsimp only at e
  split at e
  · obtain ⟨b, xs, rfl, h1, d1⟩ := hx.list
    cases e
    exact sl_list pins s σ H _ v vl vu lo hi sl Q I rx hs pl pu ⟨b, xs, rfl, h1.sq, a.lst r (d1.cut lo hi)⟩
  · rename_i l
    obtain ⟨b, xs, rfl, h1, d1⟩ := hx.tup
    cases e
    refine sl_tupA pins s σ H _ v vl vu lo hi sl Q I rx hs pl pu ⟨b, xs, rfl, h1, fun hw => ?_, fun _ => a.tup r (d1.cut lo hi)⟩
    have : cut l lo hi = l := by
      unfold cut
      rw [← d1.length, hw.1, hw.2, List.drop_zero, Nat.sub_zero, d1.length, List.take_length]
    rw [this] at a
    exact a.f r (hx.d (fun _ z => by cases z) fun _ z => by cases z)
  · rename_i y
    obtain rfl := hx.str
    split at e
    · rename_i hsz
      cases e
      refine sl_str pins s σ H _ v vl vu lo hi sl Q I rx hs pl pu ⟨y, rfl, of_decide_eq_true hsz, ?_⟩
      have : cutS y lo hi = ⟨(cut y.cps.toList lo hi).toArray⟩ := by
        unfold cutS cut
        have : y.cps.toList.length = y.length := by simp [Str.length]
        rw [this]
      rw [this]
      exact a.str r
    · cases e
  · cases e

/-! ### backwards -/
theorem fm_congr {α β : Type} {f g : α → Option β} : ∀ {l : List α}, (∀ x ∈ l, f x = g x) → l.filterMap f = l.filterMap g
  | [], _ => rfl
  | x :: xs, h => by
    rw [List.filterMap_cons, List.filterMap_cons, h x (by simp), fm_congr fun y hy => h y (by simp [hy])]
theorem pick_back (items : Array Value) : ((List.range items.size).filterMap fun (k : Nat) => items[(((items.size : Int) - 1) + (k : Int) * (-1)).toNat]?) = items.toList.reverse := by
  have e1 : (List.range items.size).filterMap (fun (k : Nat) => items[(((items.size : Int) - 1) + (k : Int) * (-1)).toNat]?) = (List.range items.size).filterMap (fun k => items.toList.reverse[k]?) := by
    refine fm_congr fun k hk => ?_
    have hk := List.mem_range.mp hk
    rw [List.getElem?_reverse (by simpa using hk), Array.getElem?_toList]
    congr 1
    have : items.toList.length = items.size := Array.length_toList
    omega
  rw [e1]
  have : ∀ l : List Value, (List.range l.length).filterMap (fun k => l[k]?) = l := fun l => by
    induction l with
    | nil => rfl
    | cons x xs ih =>
      rw [List.length_cons, List.range_succ_eq_map, List.filterMap_cons]
      simp only [List.getElem?_cons_zero, List.filterMap_map]
      congr 1
  have h2 := this items.toList.reverse
  rw [List.length_reverse, Array.length_toList] at h2
  exact h2
theorem back_applied {sl : Addr} {n : Nat} {t : Tok} {A : Around} {E : Value → Shared → Prop} {Q : Int × Int × Nat → Shared → Prop} {P : Program} {w : World} (hs : s.heap.IsSliceOf sl .none .none (.int (-1) t))
    (h : Q ((n : Int) - 1, -1, n) s) : wpAny (model P w) A (Builtin.Slice.sliceApplied (.ref sl) (pure (n : Int))) Q E s := by
  obtain ⟨os, hos, hcs, hds⟩ := id hs
  unfold Builtin.Slice.sliceApplied Builtin.Slice.sliceFields
  refine wpAny_bind (wpAny_bind (wpAny_field hos hds (x := .none) rfl (wpAny_bind (wpAny_field hos hds (x := .none) rfl (wpAny_bind (wpAny_field hos hds (x := .int (-1) t) rfl (wpAny_pure ?_)))))))
  refine wpAny_bind (slicePart_int ?_)
  show wpAny _ _ (if ((-1 : Int) == 0) = true then _ else _) _ _ s
  rw [if_neg (by decide)]
  refine wpAny_bind (slicePart_none (wpAny_bind (slicePart_none (wpAny_bind (wpAny_pure ?_)))))
  have e1 : Builtin.Slice.sliceAdjust none none (-1) (n : Int) = ((n : Int) - 1, -1) := rfl
  have e2 : Builtin.Slice.slicePlaces ((n : Int) - 1) (-1) (-1) = n := by
    unfold Builtin.Slice.slicePlaces
    rw [if_neg (by decide)]
    split
    · have : (-(-1 : Int)) = 1 := by decide
      rw [this, Int.ediv_one]
      omega
    · omega
  show wpAny _ _ (match Builtin.Slice.sliceAdjust none none (-1) (n : Int) with | (lo, hi) => pure (lo, (-1 : Int), Builtin.Slice.slicePlaces lo hi (-1))) _ _ s
  rw [e1]
  show wpAny _ _ (pure ((n : Int) - 1, (-1 : Int), Builtin.Slice.slicePlaces ((n : Int) - 1) (-1) (-1))) _ _ s
  rw [e2]
  exact wpAny_pure h
theorem backT {t sl : Addr} {items : Array Value} {tk : Tok} {A : Around} {E : Value → Shared → Prop} {P : Program} {w : World} {Q : Value → Shared → Prop} (ht : IsTup s.heap t items) (hs : s.heap.IsSliceOf sl .none .none (.int (-1) tk))
    (h : Q (.ref s.heap.objs.size) { s with heap := s.heap.push { cls := .type "tuple", data := .seq items.toList.reverse.toArray } }) (hsz : items.size ≤ sizeLine) : wpAny (model P w) A (getItem (.ref t) (.ref sl)) Q E s := by
  obtain ⟨os, hos, hcs, hds⟩ := id hs
  have hTs : s.TypeIs (.ref sl) "slice" := ⟨os, hos, hcs⟩
  unfold getItem
  refine wpAny_holding ?_
  refine wpAny_bind (wpAny_sequenceKey ht.typeIs (by decide) ?_)
  refine wpAny_bind (wpAny_callSpecial?_slot (name := Str.ofString "__getitem__") ht.typeIs PyProof.Rows.slot_tuple_getitem (wpAny_call_entry PyProof.Rows.slot_tuple_getitem ht.typeIs entry_tuple_getitem ?_ (args_tuple_getitem _ _)))
  show wpAny _ _ (Builtin.Tuple.tupleItemsOf (.ref t) >>= _) _ _ s
  refine wpAny_bind (tupleItemsOf_ ht ?_)
  refine wpAny_bind (wpAny_typeOf hTs ?_)
  rw [if_pos (by decide)]
  refine wpAny_bind (back_applied hs ?_)
  show wpAny _ _ (if (((items.size : Int) - 1) == 0 && (-1 : Int) == 1 && items.size == items.size) = true then _ else _) _ _ s
  rw [if_neg (by simp), pick_back]
  have hok : PySem.sizeOk (.seq items.toList.reverse.toArray) := by
    show items.toList.reverse.toArray.size ≤ sizeLine
    rw [List.size_toArray, List.length_reverse, Array.length_toList]
    exact hsz
  first
    | exact wpAny_bind (m := Builtin.Tuple.tupleExact _) (wpAny_newObj_type (wpAny_pure ⟨_, rfl, wpAny_pure h⟩) hok)
    | exact wpAny_bind (m := Builtin.Tuple.tupleExact _) (wpAny_newObj_type (wpAny_bind (wpAny_pure (wpAny_pure ⟨_, rfl, wpAny_pure h⟩))) hok)
    | exact wpAny_bind (wpAny_bind (m := Builtin.Tuple.tupleExact _) (wpAny_newObj_type (wpAny_pure (wpAny_pure ⟨_, rfl, wpAny_pure h⟩)) hok))
    | exact wpAny_bind (wpAny_bind (m := Builtin.Tuple.tupleExact _) (wpAny_newObj_type (wpAny_pure ⟨_, rfl, wpAny_pure h⟩) hok))
/-- x[::-1] -/
def tRevZ (X : L2.Cx) (te : TE) : TE := fun σ H Q => te σ H fun x H1 => ∃ F fp σ env p z, R X.w X.K F H1 σ env fp ∧ RepV X.w X.K F H1 x p ∧ revd p = some z ∧ Ans X.w X.K F fp H1 σ env z Q
theorem pe_revZ {e : Expr} {te : TE} {k : Nat} {p1 p2 p3 pos : Pos} (he : PE X e te) : PE X (.Subscript e (.Slice none none (some (.UnaryOp .USub (.Constant (.int 1) k p1) p2)) p3) pos) (tRevZ X te) := by
  refine ⟨fun pins s σ H Q I h => ?_⟩
  refine Subscript_ (thn (he.run pins s σ H _ I h) fun v s1 ⟨x, H1, I1, r1, q1⟩ => ?_)
  obtain ⟨F, fp, σ', env, p, z, r, hx, e', a⟩ := q1
  refine wpAny_Slice (?_)
  rw [evalPart_none]
  refine wpAny_pure (wpAny_pure ?_)
  rw [evalPart_some]
  refine thn ((pe_un un_neg pe_int (pos := p2) (X := X)).run pins s1 σ H1 (fun x H2 => x = .int (-1) ∧ H2 = H1) I1 ⟨1, rfl, rfl, rfl⟩) fun vs s4 ⟨y, H4, I4, r4, ey, e4⟩ => ?_
  subst ey e4
  obtain ⟨tk, rfl⟩ := r4
  have I5 : L2.Inv X pins σ H4 { s4 with heap := s4.heap.push { cls := .type "slice", data := .fields #[.none, .none, .int (-1) tk] } } := I4.kept (t' := s4.toks) fun b ob q => Heap.get?_push_of_some _ q
  unfold revd at e'
  split at e'
  · obtain ⟨b, xs, rfl, h1, d1⟩ := hx.list
    cases e'
    cases r1
    obtain ⟨its, rv, ht, hz⟩ := I5.list h1.sq
    have hlen := rv.length
    show wpAny (model X.prog X.w) X.A (subscriptTail e (.Slice none none (some (.UnaryOp .USub (.Constant (.int 1) k p1) p2)) p3) (.ref b) (.ref s4.heap.objs.size)) (EP X pins σ Q) X.xe _
    refine tail_any (ops := [.ref b, .ref s4.heap.objs.size]) ht.isList.typeIs (PySem.slot_list_getitem.lookup) ?_ (by with_unfolding_all rfl)
    refine wpAny_getItem_list_slice ht.isList (Heap.IsSliceOf.new _ _ _ _) .none .none (.int (-1) tk) (by decide) ?_ (by rw [List.size_toArray]; omega)
    rw [PySem.W.krv_pick]
    refine ⟨.ref _, _, I5.laid (t' := s4.toks) (o := .lst xs.reverse) (fun b ob q => Heap.get?_push_of_some _ q) (Nat.le_refl _) ?_, rfl, a.lst r d1.reverse _ (I5.hok.fresh (Nat.le_refl _))⟩
    exact ⟨by rw [List.length_reverse]; exact hz, _, 0, rv.reverse, Heap.get?_push_size _ rfl⟩
  · obtain ⟨b, xs, rfl, h1, d1⟩ := hx.tup
    cases e'
    cases r1
    obtain ⟨its, rv, ht, hz⟩ := I5.tuple h1
    have hlen := rv.length
    show wpAny (model X.prog X.w) X.A (subscriptTail e (.Slice none none (some (.UnaryOp .USub (.Constant (.int 1) k p1) p2)) p3) (.ref b) (.ref s4.heap.objs.size)) (EP X pins σ Q) X.xe _
    refine tail_any (ops := [.ref b, .ref s4.heap.objs.size]) ht.typeIs PyProof.Rows.slot_tuple_getitem.lookup ?_ (by with_unfolding_all rfl)
    refine backT ht (Heap.IsSliceOf.new _ _ _ _) ?_ (by rw [List.size_toArray]; omega)
    refine ⟨.ref _, _, I5.laid (t' := s4.toks) (o := .tup xs.reverse) (fun b ob q => Heap.get?_push_of_some _ q) (Nat.le_refl _) ?_, rfl, a.tup r d1.reverse _ (I5.hok.fresh (Nat.le_refl _))⟩
    exact ⟨by rw [List.length_reverse]; exact hz, _, rv.reverse, IsTup.new _ _⟩
  · cases e'
end
end Z

/-! Z7: readings of expressions by the shallow evaluator. -/
namespace Z
open PySem PySem.Spec PyProof.Rows L2

/-- an exception in the air, by value -/
def ExR (w : World) (K : PySem.W.Frag) (mg : Str → Option Value) (F : Fz) (H : Hp) (cls : Value) (d : Option Addr) : W → Prop
  | .exc c fs => mg c = some cls ∧ ((fs = [] ∧ d = none) ∨ ∃ a vs, d = some a ∧ Rd H a (.xd vs) ∧ Paired (fun (p : Str × V) (q : Str × PyData) => p.1 = q.1 ∧ RepD w K F H p.2 q.2) vs fs)
  | _ => False

abbrev PQ (α : Type) := α → Env → Fz → List Addr → Hp → Prop
def Post (X : L2.Cx) (V : WX) (σ : L2.St) (F : Fz) (fp : List Addr) (H : Hp) {α : Type} (r : Res α) (Q : PQ α) : Prop := match r with
  | .ok a e => ∀ F' fp' H', Step F fp H F' fp' H' → Q a e F' fp' H'
  | .exc x e => ∀ F' fp' H' cls d, Step F fp H F' fp' H' → R X.w X.K F' H' σ e fp' → ExR X.w X.K X.mg F' H' cls d x → V cls d σ H'
  | .bad => False
section
variable {X : L2.Cx} {V : WX} {σ : L2.St} {F F' : Fz} {fp fp' : List Addr} {H H' : Hp} {α β : Type}
theorem Post.step {r : Res α} {Q : PQ α} (p : Post X V σ F fp H r Q) (s : Step F fp H F' fp' H') : Post X V σ F' fp' H' r Q := by
  cases r with
  | ok a e => exact fun G gp I t => p G gp I (s.trans t)
  | exc x e => exact fun G gp I cls d t => p G gp I cls d (s.trans t)
  | bad => exact p
theorem Post.bind {r : Res α} {k : α → Env → Res β} {Q : PQ β} (p : Post X V σ F fp H (r.bind k) Q) : Post X V σ F fp H r fun a e F1 fp1 H1 => Step F fp H F1 fp1 H1 ∧ Post X V σ F1 fp1 H1 (k a e) Q := by
  cases r with
  | ok a e => exact fun G gp I t => ⟨t, Post.step (r := k a e) p t⟩
  | exc x e => exact p
  | bad => exact p
theorem Post.imp {r : Res α} {Q Q' : PQ α} (p : Post X V σ F fp H r Q) (h : ∀ a e F1 fp1 H1, Q a e F1 fp1 H1 → Q' a e F1 fp1 H1) : Post X V σ F fp H r Q' := by
  cases r with
  | ok a e => exact fun G gp I t => h _ _ _ _ _ (p G gp I t)
  | exc x e => exact p
  | bad => exact p
theorem Post.of {o : Option α} {e : Env} {Q : PQ α} (p : Post X V σ F fp H (Res.of o e) Q) : ∃ a, o = some a ∧ Post X V σ F fp H (.ok a e) Q := by
  cases o with
  | none => exact False.elim p
  | some a => exact ⟨a, rfl, p⟩
theorem Post.here {a : α} {e : Env} {Q : PQ α} (p : Post X V σ F fp H (.ok a e) Q) : Q a e F fp H := p F fp H .refl
theorem Post.bnd {r : Res α} {k : α → Env → Res β} {Q : PQ β} {Q' : PQ α} (p : Post X V σ F fp H (r.bind k) Q) (h : ∀ a e F1 fp1 H1, Step F fp H F1 fp1 H1 → Post X V σ F1 fp1 H1 (k a e) Q → Q' a e F1 fp1 H1) : Post X V σ F fp H r Q' :=
  p.bind.imp fun a e F1 fp1 H1 ⟨st, q⟩ => h a e F1 fp1 H1 st q
end

/-- readings -/
abbrev TR (β : Type) := L2.St → Hp → (β → Hp → Prop) → Prop
abbrev RelT (α β : Type) := World → PySem.W.Frag → Fz → Hp → L2.St → α → β → Prop
def zG {α β : Type} (Rel : RelT α β) (X : L2.Cx) (U : WX) (m : M α) : TR β := fun σ H Q => ∃ F fp env, R X.w X.K F H σ env fp ∧
  Post X U σ F fp H (m env) fun a e F' fp' H' => ∀ v, R X.w X.K F' H' σ e fp' → Rel X.w X.K F' H' σ a v → Q v H'
def zV (X : L2.Cx) (U : WX) (m : M W) : TE := fun σ H Q => ∃ F fp env, R X.w X.K F H σ env fp ∧
  Post X U σ F fp H (m env) fun x e F' fpT H' => ∀ fp' v q, fpT = q ++ fp' → R X.w X.K F' H' σ e fp' → Ow X.w X.K F' H' v x q fp' → Q v H'
def rD : RelT PyData V := fun w K F H _ p v => RepD w K F H v p
def rDs : RelT (List PyData) (List V) := fun w K F H _ ps vs => RepDs w K F H vs ps
def OpR (w : World) (K : PySem.W.Frag) (F : Fz) (H : Hp) (σ : L2.St) : Op → V → Prop
  | .inl i, v => σ[i]? = some (some v)
  | .inr p, v => RepD w K F H v p
def rO : RelT Op V := OpR
def OpsR (w : World) (K : PySem.W.Frag) (F : Fz) (H : Hp) (σ : L2.St) : List Op → List V → Prop := Paired fun x v => OpR w K F H σ x v
def rOs : RelT (List Op) (List V) := OpsR
def rB : RelT Bool Bool := fun _ _ _ _ _ b c => c = b
def rBV : RelT Bool V := fun _ _ _ _ _ b v => v = .bl b
structure ZV (X : L2.Cx) (e : Expr) (m : M W) : Prop where
  run : ∀ U, Takes X U → PE X e (zV X U m)
structure ZD (X : L2.Cx) (e : Expr) (m : M PyData) : Prop where
  run : ∀ U, Takes X U → PE X e (zG rD X U m)
structure ZO (X : L2.Cx) (e : Expr) (m : M Op) : Prop where
  run : ∀ U, Takes X U → PE X e (zG rO X U m)
structure ZB (X : L2.Cx) (e : Expr) (m : M Bool) : Prop where
  run : ∀ U, Takes X U → PE X e (zG rBV X U m)
structure ZT (X : L2.Cx) (e : Expr) (m : M Bool) : Prop where
  run : ∀ U, Takes X U → PT X e (zG rB X U m)
structure ZW (X : L2.Cx) (e : Expr) (m : M Bool) : Prop where
  run : ∀ U, Takes X U → PW X e (zG rB X U m)
structure ZDs (X : L2.Cx) (es : List Expr) (m : M (List PyData)) : Prop where
  run : ∀ U, Takes X U → PA X es (zG rDs X U m)
structure ZOs (X : L2.Cx) (es : List Expr) (m : M (List Op)) : Prop where
  run : ∀ U, Takes X U → PA X es (zG rOs X U m)
theorem _root_.L2.PE.weak {X : L2.Cx} {e : Expr} {t t' : TE} (h : PE X e t) (i : ∀ σ H Q, t' σ H Q → t σ H Q) : PE X e t' := ⟨fun pins s σ H Q I q => h.run pins s σ H Q I (i σ H Q q)⟩
theorem _root_.L2.PT.weak {X : L2.Cx} {e : Expr} {t t' : TT} (h : PT X e t) (i : ∀ σ H Q, t' σ H Q → t σ H Q) : PT X e t' := ⟨fun pins s σ H Q I q => h.run pins s σ H Q I (i σ H Q q)⟩
theorem _root_.L2.PW.weak {X : L2.Cx} {e : Expr} {t t' : TT} (h : PW X e t) (i : ∀ σ H Q, t' σ H Q → t σ H Q) : PW X e t' := ⟨fun wh pins s σ H Q I q => h.run wh pins s σ H Q I (i σ H Q q)⟩
theorem _root_.L2.PA.weak {X : L2.Cx} {e : List Expr} {t t' : TA} (h : PA X e t) (i : ∀ σ H Q, t' σ H Q → t σ H Q) : PA X e t' := ⟨fun pos pins s σ H Q I q => h.run pos pins s σ H Q I (i σ H Q q)⟩
theorem _root_.L2.PS.weak {X : L2.Cx} {e : Stmt} {t t' : TS} (h : PS X e t) (i : ∀ D σ H, t' D σ H → t D σ H) : PS X e t' := ⟨fun pins s σ H D I q => h.run pins s σ H D I (i D σ H q)⟩
theorem _root_.L2.PSs.weak {X : L2.Cx} {e : List Stmt} {t t' : TS} (h : PSs X e t) (i : ∀ D σ H, t' D σ H → t D σ H) : PSs X e t' := ⟨fun pins s σ H D I q => h.run pins s σ H D I (i D σ H q)⟩

section
variable {w : World} {K : PySem.W.Frag} {F F' : Fz} {H H' : Hp} {fp fp' : List Addr} {σ : L2.St} {env : Env}
theorem OpR.mono {x : Op} {v : V} (h : OpR w K F H σ x v) (k : Kp F H F' H') : OpR w K F' H' σ x v := by
  cases x with
  | inl i => exact h
  | inr p => exact RepD.mono k h
theorem OpsR.mono {x : List Op} {v : List V} (h : OpsR w K F H σ x v) (k : Kp F H F' H') : OpsR w K F' H' σ x v := Paired.mapP h fun _ _ r => OpR.mono r k
theorem OpR.look {x : Op} {v : V} {p : PyData} (h : OpR w K F H σ x v) (r : R w K F H σ env fp) (e : Z.look env x = some p) : RepV w K F H v p := by
  cases x with
  | inl i => exact r.at e h
  | inr q => cases e; exact .inl h
inductive RepVs (w : World) (K : PySem.W.Frag) (F : Fz) (H : Hp) : List V → List PyData → Prop
  | nil : RepVs w K F H [] []
  | cons {v p vs ps} : RepV w K F H v p → RepVs w K F H vs ps → RepVs w K F H (v :: vs) (p :: ps)
theorem OpsR.looks {xs : List Op} {vs : List V} {ps : List PyData} (h : OpsR w K F H σ xs vs) (r : R w K F H σ env fp) (e : Z.looks env xs = some ps) : RepVs w K F H vs ps := by
  induction h generalizing ps with
  | nil => cases e; exact .nil
  | cons a b ih =>
    obtain ⟨p, e1, e2⟩ := Option.bind_eq_some_iff.mp e
    obtain ⟨q, e3, rfl⟩ := Option.map_eq_some_iff.mp e2
    exact .cons (OpR.look a r e1) (ih e3)
/-- own cells become frozen -/
theorem R.more (r : R w K F H σ env fp) {q : List Addr} {v : V} {x : W} (o : Ow w K F H v x q fp) : R w K (fun a => F a ∨ a ∈ q) H σ env fp ∧ Step F (q ++ fp) H (fun a => F a ∨ a ∈ q) fp H := by
  refine ⟨⟨fun a h => ?_, r.rep.mono .more fun _ _ _ h => h, r.nd, fun a ha h => ?_⟩, ⟨fun _ h => .inl h, fun a h => ?_, fun a h => .inl (List.mem_append_right _ h), fun _ _ h _ => h, fun _ _ h _ => h, fun _ h => h⟩⟩
  · rcases h with h | h
    · exact r.good a h
    · exact o.rep.trk a h
  · rcases h with h | h
    · exact r.dj a ha h
    · have := o.nd
      rw [List.nodup_append] at this
      exact this.2.2 a h a ha rfl
  · rcases h with h | h
    · exact .inl h
    · exact .inr (.inl (List.mem_append_left _ h))
/-- own cells of a value may be dropped -/
theorem Step.drop {q : List Addr} : Step F (q ++ fp) H F fp H := ⟨fun _ h => h, fun _ h => .inl h, fun _ h => .inl (List.mem_append_right _ h), fun _ _ h _ => h, fun _ _ h _ => h, fun _ h => h⟩
end

/-! ### the evaluator's parts -/
/-- a name: moved out, frozen, looked at -/
def vFrz (i : Nat) : M W := fun env => (freeze i env).bind fun p e => .ok (.f p) e
def vMove (i : Nat) : M W := fun env => match env[i]? with
  | some (some w) => .ok w (env.set i none)
  | _ => .bad
def oVar (i : Nat) : M Op := fun env => match peek env i with
  | some _ => .ok (.inl i) env
  | none => .bad
def vCon (p : PyData) : M W := fun env => .ok (.f p) env
def oCon (p : PyData) : M Op := fun env => .ok (.inr p) env
def dCon (p : PyData) : M PyData := fun env => .ok p env
/-- a value as frozen data; as an operand -/
def dOf (m : M W) : M PyData := fun env => (m env).bind fun w e => .of w.fz e
def oOf (m : M W) : M Op := fun env => (m env).bind fun w e => .of (w.fz.map .inr) e
def vB (m : M Bool) : M W := fun env => (m env).bind fun b e => .ok (.f (.bool b)) e

section
variable {X : L2.Cx} {e a b c : Expr} {pos : Pos}
theorem z_dOf {m : M W} (h : ZV X e m) : ZD X e (dOf m) := ⟨fun U tk => (h.run U tk).weak fun σ H Q ⟨F, fp, env, r, g⟩ => ⟨F, fp, env, r, g.bnd fun x e1 F1 fpT H1 st g1 fp' v q hq r1 o => by
  obtain ⟨p, ep, g2⟩ := g1.of
  obtain ⟨r2, s2⟩ := r1.more o
  subst hq
  exact g2 _ _ _ s2 v r2 (o.rep.freeze ep)⟩⟩
theorem z_oOf {m : M W} (h : ZV X e m) : ZO X e (oOf m) := ⟨fun U tk => (h.run U tk).weak fun σ H Q ⟨F, fp, env, r, g⟩ => ⟨F, fp, env, r, g.bnd fun x e1 F1 fpT H1 st g1 fp' v q hq r1 o => by
  obtain ⟨p, ep, g2⟩ := g1.of
  obtain ⟨p', ep', rfl⟩ := Option.map_eq_some_iff.mp ep
  obtain ⟨r2, s2⟩ := r1.more o
  subst hq
  exact g2 _ _ _ s2 v r2 (o.rep.freeze ep')⟩⟩
theorem z_vB {m : M Bool} (h : ZB X e m) : ZV X e (vB m) := ⟨fun U tk => (h.run U tk).weak fun σ H Q ⟨F, fp, env, r, g⟩ => ⟨F, fp, env, r, g.bnd fun x e1 F1 fpT H1 st g1 v r1 o => by
  subst o
  exact g1.here fpT _ [] rfl r1 (.f (.bool _) r1.nd)⟩⟩
theorem z_var {i : Nat} {x : Str} (hN : X.N[i]? = some x) (hv : Vis X.env.scope x) (hd : (x == ("__debug__" : Str)) = false := by decide) (hcd : (x == ("__classdict__" : Str)) = false := by decide) : ZV X (.Name x pos) (vFrz i) :=
  ⟨fun U tk => (pe_var hN hv hd hcd).weak fun σ H Q ⟨F, fp, env, r, g⟩ => by
    unfold vFrz freeze at g
    cases hp : peek env i with
    | none => rw [hp] at g; exact False.elim g
    | some p =>
      rw [hp] at g
      obtain ⟨F', fp', v, st, r', e, d⟩ := r.freeze hp
      exact ⟨v, e, g F' fp' H st fp' v [] rfl r' (.f d r'.nd)⟩⟩
theorem z_move {i : Nat} {x : Str} (hN : X.N[i]? = some x) (hv : Vis X.env.scope x) (hd : (x == ("__debug__" : Str)) = false := by decide) (hcd : (x == ("__classdict__" : Str)) = false := by decide) : ZV X (.Name x pos) (vMove i) :=
  ⟨fun U tk => (pe_var hN hv hd hcd).weak fun σ H Q ⟨F, fp, env, r, g⟩ => by
    unfold vMove at g
    split at g
    · rename_i wv e
      obtain ⟨l, q, rr, e1, h1, h2, h3, h4, h5⟩ := r.rep.split e
      obtain ⟨v, e2, rw'⟩ := h1 wv rfl
      subst e1
      have nd := r.nd
      have dj := r.dj
      have r' : R X.w X.K F H σ (env.set i none) (l ++ rr) := ⟨r.good, h5 F H .refl fun _ _ _ h => h, by
        rw [List.nodup_append, List.nodup_append] at nd
        rw [List.nodup_append]
        exact ⟨nd.1.1, nd.2.1, fun a ha b hb => nd.2.2 a (List.mem_append_left _ ha) b hb⟩, fun a ha => dj a (by rcases List.mem_append.mp ha with z | z <;> simp [z])⟩
      have nd2 : (q ++ (l ++ rr)).Nodup := by
        simp only [List.nodup_append, List.mem_append] at nd ⊢
        grind
      refine ⟨v, e2, g F (q ++ (l ++ rr)) H ⟨fun _ h => h, fun _ h => .inl h, fun a ha => .inl ?_, fun _ _ h _ => h, fun _ _ h _ => h, fun _ h => h⟩ (l ++ rr) v q rfl r' ⟨rw', nd2, fun a ha => dj a (by simp [ha])⟩⟩
      simp at ha ⊢
      rcases ha with z | z | z <;> simp [z]
    · exact False.elim g⟩
theorem z_ovar {i : Nat} {x : Str} (hN : X.N[i]? = some x) (hv : Vis X.env.scope x) (hd : (x == ("__debug__" : Str)) = false := by decide) (hcd : (x == ("__classdict__" : Str)) = false := by decide) : ZO X (.Name x pos) (oVar i) :=
  ⟨fun U tk => (pe_var hN hv hd hcd).weak fun σ H Q ⟨F, fp, env, r, g⟩ => by
    unfold oVar at g
    cases hp : peek env i with
    | none => rw [hp] at g; exact False.elim g
    | some p =>
      rw [hp] at g
      obtain ⟨v, e, d⟩ := r.peek hp
      exact ⟨v, e, g.here v r e⟩⟩
/-- constants -/
def cV : PyData → Option V
  | .none => some .non
  | .bool b => some (.bl b)
  | .int i => some (.int i)
  | .str x => some (.str x)
  | _ => none
theorem cV_rep {w : World} {K : PySem.W.Frag} {F : Fz} {H : Hp} {p : PyData} {v : V} (h : cV p = some v) : RepD w K F H v p := by
  cases p <;> first | (cases h; constructor) | cases h
theorem zc {p : PyData} {v : V} (h : cV p = some v) (he : PE X e (tC v)) : ZV X e (vCon p) := ⟨fun U tk => he.weak fun σ H Q ⟨F, fp, env, r, g⟩ => g.here fp v [] rfl r (.f (cV_rep h) r.nd)⟩
theorem zco {p : PyData} {v : V} (h : cV p = some v) (he : PE X e (tC v)) : ZO X e (oCon p) := ⟨fun U tk => he.weak fun σ H Q ⟨F, fp, env, r, g⟩ => g.here v r (show OpR _ _ _ _ _ (.inr p) v from cV_rep h)⟩
theorem zcd {p : PyData} {v : V} (h : cV p = some v) (he : PE X e (tC v)) : ZD X e (dCon p) := ⟨fun U tk => he.weak fun σ H Q ⟨F, fp, env, r, g⟩ => g.here v r (show RepD _ _ _ _ v p from cV_rep h)⟩
theorem z_int {i : Int} {j : Nat} : ZV X (.Constant (.int i) j pos) (vCon (.int i)) := zc rfl pe_int
theorem z_bl {i : Bool} {j : Nat} : ZV X (.Constant (.bool i) j pos) (vCon (.bool i)) := zc rfl pe_bl
theorem z_non {j : Nat} : ZV X (.Constant .none j pos) (vCon .none) := zc rfl pe_non
theorem z_str {i : Str} {j : Nat} : ZV X (.Constant (.str i) j pos) (vCon (.str i)) := zc rfl pe_str
theorem zo_int {i : Int} {j : Nat} : ZO X (.Constant (.int i) j pos) (oCon (.int i)) := zco rfl pe_int
theorem zo_bl {i : Bool} {j : Nat} : ZO X (.Constant (.bool i) j pos) (oCon (.bool i)) := zco rfl pe_bl
theorem zo_non {j : Nat} : ZO X (.Constant .none j pos) (oCon .none) := zco rfl pe_non
theorem zo_str {i : Str} {j : Nat} : ZO X (.Constant (.str i) j pos) (oCon (.str i)) := zco rfl pe_str
theorem zd_int {i : Int} {j : Nat} : ZD X (.Constant (.int i) j pos) (dCon (.int i)) := zcd rfl pe_int
theorem zd_bl {i : Bool} {j : Nat} : ZD X (.Constant (.bool i) j pos) (dCon (.bool i)) := zcd rfl pe_bl
theorem zd_non {j : Nat} : ZD X (.Constant .none j pos) (dCon .none) := zcd rfl pe_non
theorem zd_str {i : Str} {j : Nat} : ZD X (.Constant (.str i) j pos) (dCon (.str i)) := zcd rfl pe_str
end

/-! ### operators -/
def vBin (op : Operator) (a b : M Op) : M W := fun env => (a env).bind fun x e => (b e).bind fun y e => .of ((look e x).bind fun p => (look e y).bind fun q => binop op p q) e
def vNeg (a : M Op) : M W := fun env => (a env).bind fun x e => match look e x with
  | some (.int i) => .ok (.f (.int (-i))) e
  | _ => .bad
def bCmp (op : CmpOp) (a b : M Op) : M Bool := fun env => (a env).bind fun x e => (b e).bind fun y e => .of ((look e x).bind fun p => (look e y).bind fun q => cmpop op p q) e
def bChn (o o' : CmpOp) (a b c : M Op) : M Bool := fun env => (a env).bind fun x e => (b e).bind fun y e => match (look e x).bind fun p => (look e y).bind fun q => cmpop o p q with
  | some true => (c e).bind fun z e => .of ((look e y).bind fun p => (look e z).bind fun q => cmpop o' p q) e
  | some false => .ok false e
  | none => .bad
def bNot (a : M Bool) : M Bool := fun env => (a env).bind fun b e => .ok (!b) e
def bAnd (a b : M Bool) : M Bool := fun env => (a env).bind fun k e => if k = true then b e else .ok false e
def bOr (a b : M Bool) : M Bool := fun env => (a env).bind fun k e => if k = true then .ok true e else b e
def bTru (a : M Op) : M Bool := fun env => (a env).bind fun x e => .of ((look e x).bind truthy) e
/-- a value that is a truth -/
def bOf (a : M Op) : M Bool := fun env => (a env).bind fun x e => match look e x with
  | some (.bool b) => .ok b e
  | _ => .bad
def vIf (t : M Bool) (a b : M W) : M W := fun env => (t env).bind fun k e => if k = true then a e else b e
def vIdx (a i : M Op) : M W := fun env => (a env).bind fun x e => (i e).bind fun y e => .of ((look e x).bind fun p => (look e y).bind fun q => (item p q).map W.f) e
def vRev (a : M Op) : M W := fun env => (a env).bind fun x e => .of ((look e x).bind revd) e
/-- a slice's part -/
def pNo : M (Option Int) := fun env => .ok none env
def pI (a : M Op) : M (Option Int) := fun env => (a env).bind fun x e => match look e x with
  | some (.int i) => .ok (some i) e
  | _ => .bad
def oi : Option Int → PyData
  | some i => .int i
  | none => .none
def vSlc (a : M Op) (lo hi : M (Option Int)) : M W := fun env => (a env).bind fun x e => (lo e).bind fun y e => (hi e).bind fun z e => .of ((look e x).bind fun p => slice p (oi y) (oi z)) e
def dsNil : M (List PyData) := fun env => .ok [] env
def dsCons (a : M PyData) (r : M (List PyData)) : M (List PyData) := fun env => (a env).bind fun x e => (r e).bind fun xs e => .ok (x :: xs) e
def osNil : M (List Op) := fun env => .ok [] env
def osCons (a : M Op) (r : M (List Op)) : M (List Op) := fun env => (a env).bind fun x e => (r e).bind fun xs e => .ok (x :: xs) e
def vTup (m : M (List PyData)) : M W := fun env => (m env).bind fun l e => if sizeOk l.length then .ok (.f (.tuple l)) e else .bad
def vLst (m : M (List PyData)) : M W := fun env => (m env).bind fun l e => if sizeOk l.length then .ok (.lst l) e else .bad

section
variable {X : L2.Cx} {U : WX} {σ : L2.St} {F F' : Fz} {fp fp' : List Addr} {H H' : Hp} {env : Env}
/-- the wish of a value is an answer's -/
theorem Post.ans {z : W} {Q : VK} (p : Post X U σ F fp H (.ok z env) fun x e F' fpT H' => ∀ fp' v q, fpT = q ++ fp' → R X.w X.K F' H' σ e fp' → Ow X.w X.K F' H' v x q fp' → Q v H') : Ans X.w X.K F fp H σ env z Q :=
  fun F' fp' H' v q st r o => p F' (q ++ fp') H' st fp' v q rfl r o
theorem Step.kpr {w : World} {K : PySem.W.Frag} (st : Step F fp H F' fp' H') (r : R w K F H σ env fp) : Kp F H F' H' := st.kp r.dj
end
section
variable {X : L2.Cx} {a b c : Expr} {pos : Pos}
theorem look2 {e : Env} {x y : Op} {α : Type} {f : PyData → PyData → Option α} {z : α} (h : ((look e x).bind fun p => (look e y).bind fun q => f p q) = some z) : ∃ p q, look e x = some p ∧ look e y = some q ∧ f p q = some z := by
  obtain ⟨p, e1, h⟩ := Option.bind_eq_some_iff.mp h
  obtain ⟨q, e2, h⟩ := Option.bind_eq_some_iff.mp h
  exact ⟨p, q, e1, e2, h⟩
def r2Z (X : L2.Cx) (f : PyData → PyData → Option W) : R2 := fun x y H Q => ∃ F fp σ env p q z, R X.w X.K F H σ env fp ∧ RepV X.w X.K F H x p ∧ RepV X.w X.K F H y q ∧ f p q = some z ∧ Ans X.w X.K F fp H σ env z Q
theorem opR_bin (op : Operator) : L2.OpR X (binaryOp op) (r2Z X (binop op)) := fun pins s σ H x y v u Q I rx ry ⟨F, fp, σ', env, p, q, z, r, hx, hy, e, an⟩ => opBin op I r rx ry hx hy e an
theorem z_bin {op : Operator} {ma mb : M Op} (ha : ZO X a ma) (hb : ZO X b mb) : ZV X (.BinOp a op b pos) (vBin op ma mb) :=
  ⟨fun U tk => (pe_op (opR_bin op) (ha.run U tk) (hb.run U tk)).weak fun σ H Q ⟨F, fp, env, r, g⟩ => ⟨F, fp, env, r, g.bnd fun xo e1 F1 fp1 H1 st1 g1 x r1 o1 =>
    ⟨F1, fp1, e1, r1, g1.bnd fun yo e2 F2 fp2 H2 st2 g2 y r2 o2 => by
      obtain ⟨z, ez, g3⟩ := g2.of
      obtain ⟨p, q, ex, ey, ez⟩ := look2 ez
      exact ⟨F2, fp2, σ, e2, p, q, z, r2, (OpR.mono o1 (st2.kpr r1)).look r2 ex, OpR.look o2 r2 ey, ez, g3.ans⟩⟩⟩⟩
theorem z_neg {ma : M Op} (ha : ZO X a ma) : ZV X (.UnaryOp .USub a pos) (vNeg ma) :=
  ⟨fun U tk => (pe_un un_neg (ha.run U tk)).weak fun σ H Q ⟨F, fp, env, r, g⟩ => ⟨F, fp, env, r, g.bnd fun xo e1 F1 fp1 H1 st1 g1 x r1 o1 => by
    split at g1
    · rename_i i ei
      obtain rfl := (OpR.look o1 r1 ei).int
      exact ⟨i, rfl, g1.ans.int r1⟩
    · exact False.elim g1⟩⟩
def r2C (X : L2.Cx) (op : CmpOp) : R2 := fun x y H Q => X.A.units + 200 < cLine ∧ ∃ F fp σ env p q b, R X.w X.K F H σ env fp ∧ RepV X.w X.K F H x p ∧ RepV X.w X.K F H y q ∧ cmpop op p q = some b ∧ Q (.bl b) H
end
end Z

/-! Z8: comparisons, tests, items, slices, displays, arguments. -/
namespace Z
open PySem PySem.Spec PyProof.Rows L2
section
variable {X : L2.Cx} {e a b c : Expr} {es : List Expr} {pos : Pos}
theorem opR_cmp (op : CmpOp) : L2.OpR X (compareOp op) (r2C X op) := fun pins s σ H x y v u Q I rx ry ⟨hu, F, fp, σ', env, p, q, k, r, hx, hy, e, an⟩ => opCmp op I rx ry hx hy hu e an
theorem z_cmp {op : CmpOp} {ma mb : M Op} (hu : X.A.units + 200 < cLine) (ha : ZO X a ma) (hb : ZO X b mb) (hm : behindInMarks op b = false) : ZB X (.Compare a [op] [b] pos) (bCmp op ma mb) :=
  ⟨fun U tk => (pe_cmpR (opR_cmp op) (ha.run U tk) (hb.run U tk) hm).weak fun σ H Q ⟨F, fp, env, r, g⟩ => ⟨F, fp, env, r, g.bnd fun xo e1 F1 fp1 H1 st1 g1 x r1 o1 =>
    ⟨F1, fp1, e1, r1, g1.bnd fun yo e2 F2 fp2 H2 st2 g2 y r2 o2 => by
      obtain ⟨z, ez, g3⟩ := g2.of
      obtain ⟨p, q, ex, ey, ez⟩ := look2 ez
      exact ⟨hu, F2, fp2, σ, e2, p, q, z, r2, (OpR.mono o1 (st2.kpr r1)).look r2 ex, OpR.look o2 r2 ey, ez, g3.here _ r2 rfl⟩⟩⟩⟩
theorem zt_cmp {op : CmpOp} {ma mb : M Op} (hu : X.A.units + 200 < cLine) (ha : ZO X a ma) (hb : ZO X b mb) (hm : behindInMarks op b = false) : ZT X (.Compare a [op] [b] pos) (bCmp op ma mb) :=
  ⟨fun U tk => (pt_cmpR (opR_cmp op) (ha.run U tk) (hb.run U tk) hm).weak fun σ H Q ⟨F, fp, env, r, g⟩ => ⟨F, fp, env, r, g.bnd fun xo e1 F1 fp1 H1 st1 g1 x r1 o1 =>
    ⟨F1, fp1, e1, r1, g1.bnd fun yo e2 F2 fp2 H2 st2 g2 y r2 o2 => by
      obtain ⟨z, ez, g3⟩ := g2.of
      obtain ⟨p, q, ex, ey, ez⟩ := look2 ez
      exact ⟨hu, F2, fp2, σ, e2, p, q, z, r2, (OpR.mono o1 (st2.kpr r1)).look r2 ex, OpR.look o2 r2 ey, ez, z, rfl, g3.here _ r2 rfl⟩⟩⟩⟩
theorem chn_weak {op op' : CmpOp} {ma mb mc : M Op} {U : WX} {σ : L2.St} {H : Hp} {Q : VK} (hu : X.A.units + 200 < cLine) (h : zG rBV X U (bChn op op' ma mb mc) σ H Q) :
    tChain (r2C X op) (r2C X op') (zG rO X U ma) (zG rO X U mb) (zG rO X U mc) σ H Q := by
  obtain ⟨F, fp, env, r, g⟩ := h
  refine ⟨F, fp, env, r, g.bnd fun xo e1 F1 fp1 H1 st1 g1 x r1 o1 => ⟨F1, fp1, e1, r1, g1.bnd fun yo e2 F2 fp2 H2 st2 g2 y r2 o2 => ?_⟩⟩
  split at g2
  · rename_i h12
    obtain ⟨p, q, ex, ey, ez⟩ := look2 h12
    refine ⟨hu, F2, fp2, σ, e2, p, q, true, r2, (OpR.mono o1 (st2.kpr r1)).look r2 ex, OpR.look o2 r2 ey, ez, true, rfl, ?_⟩
    rw [if_pos rfl]
    refine ⟨F2, fp2, e2, r2, g2.bnd fun zo e3 F3 fp3 H3 st3 g3 z r3 o3 => ?_⟩
    obtain ⟨k, ek, g4⟩ := g3.of
    obtain ⟨p', q', ex', ey', ez'⟩ := look2 ek
    exact ⟨hu, F3, fp3, σ, e3, p', q', k, r3, (OpR.mono o2 (st3.kpr r2)).look r3 ex', OpR.look o3 r3 ey', ez', g4.here _ r3 rfl⟩
  · rename_i h12
    obtain ⟨p, q, ex, ey, ez⟩ := look2 h12
    refine ⟨hu, F2, fp2, σ, e2, p, q, false, r2, (OpR.mono o1 (st2.kpr r1)).look r2 ex, OpR.look o2 r2 ey, ez, false, rfl, ?_⟩
    rw [if_neg Bool.false_ne_true]
    exact g2.here _ r2 rfl
  · exact False.elim g2
theorem rB_bv {m : M Bool} {U : WX} {σ : L2.St} {H : Hp} {Q : Bool → Hp → Prop} (h : zG rB X U m σ H Q) : zG rBV X U m σ H (fun x H' => ∃ k, x = .bl k ∧ Q k H') := by
  obtain ⟨F, fp, env, r, g⟩ := h
  exact ⟨F, fp, env, r, g.imp fun k e1 F1 fp1 H1 q v r1 o => ⟨k, o, q k r1 rfl⟩⟩
theorem z_chn {op op' : CmpOp} {ma mb mc : M Op} (hu : X.A.units + 200 < cLine) (ha : ZO X a ma) (hb : ZO X b mb) (hc : ZO X c mc) (hm : lastMarks [op, op'] [b, c] = false := by with_unfolding_all rfl) :
    ZB X (.Compare a [op, op'] [b, c] pos) (bChn op op' ma mb mc) :=
  ⟨fun U tk => (pe_chain (opR_cmp op) (opR_cmp op') (ha.run U tk) (hb.run U tk) (hc.run U tk) hm).weak fun σ H Q h => chn_weak hu h⟩
theorem zt_chn {op op' : CmpOp} {ma mb mc : M Op} (hu : X.A.units + 200 < cLine) (ha : ZO X a ma) (hb : ZO X b mb) (hc : ZO X c mc) (hm : lastMarks [op, op'] [b, c] = false := by with_unfolding_all rfl) :
    ZT X (.Compare a [op, op'] [b, c] pos) (bChn op op' ma mb mc) :=
  ⟨fun U tk => (pt_chain (opR_cmp op) (opR_cmp op') (ha.run U tk) (hb.run U tk) (hc.run U tk) hm).weak fun σ H Q h => chn_weak hu (rB_bv h)⟩
/-- a value that is a truth, as a test -/
theorem zt_val {m : M Bool} (h : ZB X e m) (he : ∀ whole, isTrue e X.env whole = (do let v ← whole; standAt e.pos; holding [v] (PySem.truthy v)) := by intro _; rfl) : ZT X e m :=
  ⟨fun U tk => (pt_val (h.run U tk) he).weak fun σ H Q q => rB_bv q⟩
def rTr (X : L2.Cx) : V → Hp → (Bool → Hp → Prop) → Prop := fun x H Q => ∃ F fp σ env p b, R X.w X.K F H σ env fp ∧ RepV X.w X.K F H x p ∧ truthy p = some b ∧ Q b H
theorem trR : L2.TruR X (rTr X) := fun pins s σ H x v Q I rx ⟨F, fp, σ', env, p, b, r, hx, e, q⟩ => tru_ok I rx hx e q
theorem pt_truZ {a : Expr} {ta : TE} {r : V → Hp → (Bool → Hp → Prop) → Prop} (ha : PE X a ta) (hr : L2.TruR X r) (he : ∀ whole, isTrue a X.env whole = (do let v ← whole; standAt a.pos; holding [v] (PySem.truthy v))) :
    PT X a (fun σ H Q => ta σ H fun x H' => r x H' Q) :=
  ⟨fun pins s σ H Q I h => isTrue_plain (thn (ha.run pins s σ H _ I h) fun v s1 ⟨x, H1, I1, r1, q1⟩ => hr pins s1 σ H1 x v Q I1 r1 q1) (he _)⟩
theorem zt_tru {m : M Op} (h : ZO X e m) (he : ∀ whole, isTrue e X.env whole = (do let v ← whole; standAt e.pos; holding [v] (PySem.truthy v)) := by intro _; rfl) : ZT X e (bTru m) :=
  ⟨fun U tk => (pt_truZ (h.run U tk) trR he).weak fun σ H Q ⟨F, fp, env, r, g⟩ => ⟨F, fp, env, r, g.bnd fun xo e1 F1 fp1 H1 st1 g1 x r1 o1 => by
    obtain ⟨z, ez, g3⟩ := g1.of
    obtain ⟨p, ep, ez⟩ := Option.bind_eq_some_iff.mp ez
    exact ⟨F1, fp1, σ, e1, p, z, r1, OpR.look o1 r1 ep, ez, g3.here _ r1 rfl⟩⟩⟩
theorem z_bOf {m : M Op} (h : ZO X e m) : ZB X e (bOf m) :=
  ⟨fun U tk => (h.run U tk).weak fun σ H Q ⟨F, fp, env, r, g⟩ => ⟨F, fp, env, r, g.bnd fun xo e1 F1 fp1 H1 st1 g1 x r1 o1 => by
    split at g1
    · rename_i k ek
      exact g1.here _ r1 (OpR.look o1 r1 ek).bool
    · exact False.elim g1⟩⟩
theorem z_not {m : M Bool} (h : ZB X e m) : ZB X (.UnaryOp .Not e pos) (bNot m) :=
  ⟨fun U tk => (pe_not (h.run U tk)).weak fun σ H Q ⟨F, fp, env, r, g⟩ => ⟨F, fp, env, r, g.bnd fun k e1 F1 fp1 H1 st1 g1 x r1 o1 => ⟨k, o1, g1.here _ r1 rfl⟩⟩⟩
/-- not of any value -/
theorem zt_not {m : M Bool} (h : ZT X e m) : ZT X (.UnaryOp .Not e pos) (bNot m) :=
  ⟨fun U tk => (pt_not (h.run U tk)).weak fun σ H Q ⟨F, fp, env, r, g⟩ => ⟨F, fp, env, r, g.bnd fun k e1 F1 fp1 H1 st1 g1 x r1 o1 => by cases o1; exact g1.here _ r1 rfl⟩⟩
variable {rest : List Expr}
theorem z_one {op : BoolOp} {m : M Bool} (h : ZB X e m) : ZB X (.BoolOp op [e] pos) m := ⟨fun U tk => pe_one (h.run U tk)⟩
theorem z_and {m n : M Bool} (h : ZB X a m) (h2 : ZB X (.BoolOp .And (b :: rest) pos) n) : ZB X (.BoolOp .And (a :: b :: rest) pos) (bAnd m n) :=
  ⟨fun U tk => (pe_and (h.run U tk) (h2.run U tk)).weak fun σ H Q ⟨F, fp, env, r, g⟩ => ⟨F, fp, env, r, g.bnd fun k e1 F1 fp1 H1 st1 g1 x r1 o1 => ⟨k, o1, by
    cases k with
    | true => exact ⟨F1, fp1, e1, r1, g1⟩
    | false => exact g1.here _ r1 rfl⟩⟩⟩
theorem z_or {m n : M Bool} (h : ZB X a m) (h2 : ZB X (.BoolOp .Or (b :: rest) pos) n) : ZB X (.BoolOp .Or (a :: b :: rest) pos) (bOr m n) :=
  ⟨fun U tk => (pe_or (h.run U tk) (h2.run U tk)).weak fun σ H Q ⟨F, fp, env, r, g⟩ => ⟨F, fp, env, r, g.bnd fun k e1 F1 fp1 H1 st1 g1 x r1 o1 => ⟨k, o1, by
    cases k with
    | false => exact ⟨F1, fp1, e1, r1, g1⟩
    | true => exact g1.here _ r1 rfl⟩⟩⟩
theorem zw_and1 {m : M Bool} (h : ZT X a m) : ZW X (.BoolOp .And [a] pos) m := ⟨fun U tk => pw_and1 (h.run U tk)⟩
theorem zw_or1 {m : M Bool} (h : ZT X a m) : ZW X (.BoolOp .Or [a] pos) m := ⟨fun U tk => pw_or1 (h.run U tk)⟩
theorem zw_and {m n : M Bool} (h : ZT X a m) (h2 : ZW X (.BoolOp .And (b :: rest) pos) n) : ZW X (.BoolOp .And (a :: b :: rest) pos) (bAnd m n) :=
  ⟨fun U tk => (pw_and (h.run U tk) (h2.run U tk)).weak fun σ H Q ⟨F, fp, env, r, g⟩ => ⟨F, fp, env, r, g.bnd fun k e1 F1 fp1 H1 st1 g1 x r1 o1 => by
    cases o1
    cases k with
    | true => exact ⟨F1, fp1, e1, r1, g1⟩
    | false => exact g1.here _ r1 rfl⟩⟩
theorem zw_or {m n : M Bool} (h : ZT X a m) (h2 : ZW X (.BoolOp .Or (b :: rest) pos) n) : ZW X (.BoolOp .Or (a :: b :: rest) pos) (bOr m n) :=
  ⟨fun U tk => (pw_or (h.run U tk) (h2.run U tk)).weak fun σ H Q ⟨F, fp, env, r, g⟩ => ⟨F, fp, env, r, g.bnd fun k e1 F1 fp1 H1 st1 g1 x r1 o1 => by
    cases o1
    cases k with
    | false => exact ⟨F1, fp1, e1, r1, g1⟩
    | true => exact g1.here _ r1 rfl⟩⟩
theorem ZW.t {m : M Bool} (h : ZW X e m) : ZT X e m := ⟨fun U tk => (h.run U tk).pt⟩
theorem z_if {t : M Bool} {m n : M W} (h : ZT X c t) (h1 : ZV X a m) (h2 : ZV X b n) : ZV X (.IfExp c a b pos) (vIf t m n) :=
  ⟨fun U tk => (pe_ifExp (h.run U tk) (h1.run U tk) (h2.run U tk)).weak fun σ H Q ⟨F, fp, env, r, g⟩ => ⟨F, fp, env, r, g.bnd fun k e1 F1 fp1 H1 st1 g1 x r1 o1 => by
    cases o1
    cases k with
    | true => exact ⟨F1, fp1, e1, r1, g1⟩
    | false => exact ⟨F1, fp1, e1, r1, g1⟩⟩⟩

/-! ### items, slices -/
def rIxZ (X : L2.Cx) : R2 := fun x y H Q => X.A.units + 200 < cLine ∧ ∃ F fp σ env p q z, R X.w X.K F H σ env fp ∧ RepV X.w X.K F H x p ∧ RepV X.w X.K F H y q ∧ item p q = some z ∧ Ans X.w X.K F fp H σ env (.f z) Q
theorem ixR : IxR X (rIxZ X) := fun value slice pins s σ H x y v u Q I rx ry ⟨hu, F, fp, σ', env, p, q, z, r, hx, hy, e, an⟩ hs => opItem I r rx ry hx hy hu e an hs
theorem z_idx {ma mb : M Op} (hu : X.A.units + 200 < cLine) (ha : ZO X a ma) (hb : ZO X b mb) (hs : PlainIx b := by intro _ _; rfl) : ZV X (.Subscript a b pos) (vIdx ma mb) :=
  ⟨fun U tk => (pe_ix ixR (ha.run U tk) (hb.run U tk) hs).weak fun σ H Q ⟨F, fp, env, r, g⟩ => ⟨F, fp, env, r, g.bnd fun xo e1 F1 fp1 H1 st1 g1 x r1 o1 =>
    ⟨F1, fp1, e1, r1, g1.bnd fun yo e2 F2 fp2 H2 st2 g2 y r2 o2 => by
      obtain ⟨z, ez, g3⟩ := g2.of
      obtain ⟨p, q, ex, ey, ez⟩ := look2 ez
      obtain ⟨z', ez', rfl⟩ := Option.map_eq_some_iff.mp ez
      exact ⟨hu, F2, fp2, σ, e2, p, q, z', r2, (OpR.mono o1 (st2.kpr r1)).look r2 ex, OpR.look o2 r2 ey, ez', g3.ans⟩⟩⟩⟩
def rPI : RelT (Option Int) (Option Int) := fun _ _ _ _ _ a b => b = a
structure ZP (X : L2.Cx) (e : Option Expr) (m : M (Option Int)) : Prop where
  run : ∀ U, Takes X U → PO X e (zG rPI X U m)
theorem zp_no : ZP X none pNo := ⟨fun U tk => ⟨fun pins s σ H Q I ⟨F, fp, env, r, g⟩ => po_none.run pins s σ H Q I (g.here _ r rfl)⟩⟩
theorem zp_i {m : M Op} (h : ZO X e m) : ZP X (some e) (pI m) := ⟨fun U tk => ⟨fun pins s σ H Q I ⟨F, fp, env, r, g⟩ => (po_some (h.run U tk)).run pins s σ H Q I
  ⟨F, fp, env, r, g.bnd fun xo e1 F1 fp1 H1 st1 g1 x r1 o1 => by
    split at g1
    · rename_i i ei
      exact ⟨i, (OpR.look o1 r1 ei).int, g1.here _ r1 rfl⟩
    · exact False.elim g1⟩⟩⟩
theorem oi_eq (o : Option Int) : oi o = (match o with | some i => .int i | none => .none) := by cases o <;> rfl
theorem z_slc {lo hi : Option Expr} {ma : M Op} {ml mh : M (Option Int)} {p2 : Pos} (ha : ZO X a ma) (hl : ZP X lo ml) (hh : ZP X hi mh) : ZV X (.Subscript a (.Slice lo hi none p2) pos) (vSlc ma ml mh) :=
  ⟨fun U tk => (pe_slice sl_Z (ha.run U tk) (hl.run U tk) (hh.run U tk)).weak fun σ H Q ⟨F, fp, env, r, g⟩ => ⟨F, fp, env, r, g.bnd fun xo e1 F1 fp1 H1 st1 g1 x r1 o1 =>
    ⟨F1, fp1, e1, r1, g1.bnd fun yo e2 F2 fp2 H2 st2 g2 y r2 o2 => ⟨F2, fp2, e2, r2, g2.bnd fun zo e3 F3 fp3 H3 st3 g3 z r3 o3 => by
      cases o2
      cases o3
      obtain ⟨k, ek, g4⟩ := g3.of
      obtain ⟨p, ex, ek⟩ := Option.bind_eq_some_iff.mp ek
      rw [oi_eq, oi_eq] at ek
      exact ⟨F3, fp3, σ, e3, p, k, r3, (OpR.mono (OpR.mono o1 (st2.kpr r1)) (st3.kpr r2)).look r3 ex, ek, g4.ans⟩⟩⟩⟩⟩
theorem z_rev {m : M Op} {k : Nat} {p1 p2 p3 : Pos} (h : ZO X e m) : ZV X (.Subscript e (.Slice none none (some (.UnaryOp .USub (.Constant (.int 1) k p1) p2)) p3) pos) (vRev m) :=
  ⟨fun U tk => (pe_revZ (h.run U tk)).weak fun σ H Q ⟨F, fp, env, r, g⟩ => ⟨F, fp, env, r, g.bnd fun xo e1 F1 fp1 H1 st1 g1 x r1 o1 => by
    obtain ⟨z, ez, g3⟩ := g1.of
    obtain ⟨p, ep, ez⟩ := Option.bind_eq_some_iff.mp ez
    exact ⟨F1, fp1, σ, e1, p, z, r1, OpR.look o1 r1 ep, ez, g3.ans⟩⟩⟩

/-! ### argument lists, displays -/
theorem z_dsNil : ZDs X [] dsNil := ⟨fun U tk => pa_nil.weak fun σ H Q ⟨F, fp, env, r, g⟩ => g.here _ r .nil⟩
theorem z_dsCons {m : M PyData} {n : M (List PyData)} (h : ZD X e m) (h2 : ZDs X es n) (hs : starEach (e :: es) X.env = (false, eval e X.env) :: starEach es X.env := by rfl) : ZDs X (e :: es) (dsCons m n) :=
  ⟨fun U tk => (pa_cons (h.run U tk) (h2.run U tk) hs).weak fun σ H Q ⟨F, fp, env, r, g⟩ => ⟨F, fp, env, r, g.bnd fun p e1 F1 fp1 H1 st1 g1 x r1 o1 =>
    ⟨F1, fp1, e1, r1, g1.bnd fun ps e2 F2 fp2 H2 st2 g2 xs r2 o2 => g2.here _ r2 (.cons (RepD.mono (st2.kpr r1) o1) o2)⟩⟩⟩
theorem z_osNil : ZOs X [] osNil := ⟨fun U tk => pa_nil.weak fun σ H Q ⟨F, fp, env, r, g⟩ => g.here _ r .nil⟩
theorem z_osCons {m : M Op} {n : M (List Op)} (h : ZO X e m) (h2 : ZOs X es n) (hs : starEach (e :: es) X.env = (false, eval e X.env) :: starEach es X.env := by rfl) : ZOs X (e :: es) (osCons m n) :=
  ⟨fun U tk => (pa_cons (h.run U tk) (h2.run U tk) hs).weak fun σ H Q ⟨F, fp, env, r, g⟩ => ⟨F, fp, env, r, g.bnd fun p e1 F1 fp1 H1 st1 g1 x r1 o1 =>
    ⟨F1, fp1, e1, r1, g1.bnd fun ps e2 F2 fp2 H2 st2 g2 xs r2 o2 => g2.here _ r2 (.cons (OpR.mono o1 (st2.kpr r1)) o2)⟩⟩⟩
theorem z_tup {m : M (List PyData)} {x1 : Nat} (h : ZDs X es m) : ZV X (.Tuple es x1 pos) (vTup m) :=
  ⟨fun U tk => (pe_tup (h.run U tk)).weak fun σ H Q ⟨F, fp, env, r, g⟩ => ⟨F, fp, env, r, g.bnd fun ps e1 F1 fp1 H1 st1 g1 xs r1 o1 => by
    split at g1
    · rename_i hz
      have o1 : RepDs X.w X.K F1 H1 xs ps := o1
      exact ⟨by rw [o1.length]; exact of_decide_eq_true hz, fun p n => g1.ans.tup r1 o1 p n⟩
    · exact False.elim g1⟩⟩
theorem z_lst {m : M (List PyData)} (h : ZDs X es m) : ZV X (.List es pos) (vLst m) :=
  ⟨fun U tk => (pe_lst (h.run U tk)).weak fun σ H Q ⟨F, fp, env, r, g⟩ => ⟨F, fp, env, r, g.bnd fun ps e1 F1 fp1 H1 st1 g1 xs r1 o1 => by
    split at g1
    · rename_i hz
      have o1 : RepDs X.w X.K F1 H1 xs ps := o1
      exact ⟨by rw [o1.length]; exact of_decide_eq_true hz, fun p n => g1.ans.lst r1 o1 p n⟩
    · exact False.elim g1⟩⟩
end
end Z

/-! Z9: functions by values, calls. -/
namespace Z
open PySem PySem.Spec PyProof.Rows L2

inductive FR where
  | ret (w : W) (out : Env)
  | exc (x : W) (out : Env)
  | bad
/-- a function: what is lent to it, what it does -/
structure Fu where
  io : List Bool
  run : List W → FR
/-- the arguments: what is lent is taken out of its name -/
def takeA : List Bool → List Op → Env → Option (List W × Env)
  | [], [], env => some ([], env)
  | true :: bs, .inl i :: r, env => match env[i]? with
      | some (some w) => (takeA bs r (env.set i none)).map fun q => (w :: q.1, q.2)
      | _ => none
  | false :: bs, .inl i :: r, env => match peek env i with
      | some p => (takeA bs r (env.set i (some (.f p)))).map fun q => (.f p :: q.1, q.2)
      | none => none
  | _ :: bs, .inr p :: r, env => (takeA bs r env).map fun q => (.f p :: q.1, q.2)
  | _, _, _ => none
def backA : List Bool → List Op → Env → Env → Env
  | true :: bs, .inl i :: r, o :: os, env => backA bs r os (env.set i o)
  | _ :: bs, _ :: r, _ :: os, env => backA bs r os env
  | _, _, _, env => env
def mCall (f : Fu) (m : M (List Op)) : M W := fun env => (m env).bind fun xs e => match takeA f.io xs e with
  | some (ws, e1) => match f.run ws with
    | .ret w out => .ok w (backA f.io xs out e1)
    | .exc x out => .exc x (backA f.io xs out e1)
    | .bad => .bad
  | none => .bad
def mask : List Bool → Env → Env
  | [], _ => []
  | b :: bs, o :: e => (if b = true then o else none) :: mask bs e
  | _ :: bs, [] => none :: mask bs []
/-- a def's promise -/
def spZ (w : World) (K : PySem.W.Frag) (mg : Str → Option Value) (f : Fu) : Sp := fun vs H Q E => vs.length = f.io.length ∧ ∃ F ws fp, R w K F H (vs.map some) (ws.map some) fp ∧ match f.run ws with
  | .ret x out => ∀ F' fp' H' q v, Step F fp H F' (q ++ fp') H' → R w K F' H' (vs.map some) out fp' → Ow w K F' H' v x q fp' → Q v H'
  | .exc x out => ∀ F' fp' H' cls d, Step F fp H F' fp' H' → R w K F' H' (vs.map some) out fp' → ExR w K mg F' H' cls d x → E cls d H'
  | .bad => False

section
variable {w : World} {K : PySem.W.Frag} {F F' F'' : Fz} {H H' H'' : Hp} {fp fp' fp'' fpA : List Addr} {σ : L2.St} {env : Env}
/-- fewer own cells -/
theorem Step.sub (st : Step F fp H F' fp' H') (s : ∀ a ∈ fp'', a ∈ fp') : Step F fp H F' fp'' H' := ⟨st.grow, st.fr, fun a h => st.own a (s a h), st.rd, st.ex, st.dom⟩
theorem Step.more (st : Step F fp H F' fp' H') (s : ∀ a ∈ fp, a ∈ fp'') (h2 : ∀ a ∈ fp', a ∈ fp'' ∨ H a = none) : Step F fp'' H F' fp' H' := ⟨st.grow, fun a h => by
  rcases st.fr a h with z | z | z
  · exact .inl z
  · exact .inr (.inl (s a z))
  · exact .inr (.inr z), h2, fun a u h n => st.rd a u h fun z => n (s a z), fun a u h n => st.ex a u h fun z => n (s a z), st.dom⟩
theorem Step.sub2 (st : Step F fp H F' fp' H') (s : ∀ a ∈ fp'', a ∈ fp ∨ H a = none) : Step F fp H F' fp'' H' := ⟨st.grow, st.fr, s, st.rd, st.ex, st.dom⟩
theorem sublist_sub {l l' : List Addr} (h : l.Sublist l') : ∀ a ∈ l, a ∈ l' := fun a ha => h.subset ha
theorem R.sub (r : R w K F H σ env fp) {τ : L2.St} {e' : Env} (h : RepE w K F H τ e' fp') (s : fp'.Sublist fp) : R w K F H τ e' fp' := ⟨r.good, h, r.nd.sublist s, fun a ha => r.dj a (s.subset ha)⟩

/-- the caller's own things stay -/
theorem R.frame (r : R w K F H σ env fp) (st : Step F fpA H F' fp' H') (good : ∀ a, F' a → H' a ≠ none) (nd : (fpA ++ fp).Nodup) (dj : ∀ a ∈ fpA, ¬ F a) : R w K F' H' σ env fp ∧ ∀ a ∈ fp, a ∉ fp' := by
  rw [List.nodup_append] at nd
  have n1 : ∀ a ∈ fp, a ∉ fpA := fun a h h' => nd.2.2 a h' a h rfl
  refine ⟨⟨good, r.rep.mono (st.kp dj) fun a ha u h => st.ex a u h (n1 a ha), r.nd, fun a ha h => ?_⟩, fun a ha h => ?_⟩
  · rcases st.fr a h with z | z | z
    · exact r.dj a ha z
    · exact n1 a ha z
    · exact r.rep.trk a ha z
  · rcases st.own a h with z | z
    · exact n1 a ha z
    · exact r.rep.trk a ha z

/-- the arguments -/
theorem takeA_ok : ∀ {io : List Bool} {xs : List Op} {vs : List V} {ws : List W} {env e1 : Env} {F : Fz} {fp : List Addr}, R w K F H σ env fp → OpsR w K F H σ xs vs → takeA io xs env = some (ws, e1) →
    vs.length = io.length ∧ ∃ F1 fp1 fpA, Step F fp H F1 (fpA ++ fp1) H ∧ R w K F1 H σ e1 fp1 ∧ R w K F1 H (vs.map some) (ws.map some) fpA ∧ (fpA ++ fp1).Nodup
  | [], [], vs, ws, env, e1, F, fp, r, o, e => by
    unfold takeA at e
    cases e
    cases o
    exact ⟨rfl, F, fp, [], .refl, r, ⟨r.good, .nil, .nil, fun _ h => by simp at h⟩, by simpa using r.nd⟩
  | b :: bs, .inr p :: xs, vs, ws, env, e1, F, fp, r, o, e => by
    have e : (takeA bs xs env).map (fun q => (W.f p :: q.1, q.2)) = some (ws, e1) := by
      cases b <;> (unfold takeA at e; exact e)
    obtain ⟨⟨ws', e1'⟩, eq, e2⟩ := Option.map_eq_some_iff.mp e
    cases e2
    cases o with
    | cons o1 o2 =>
      obtain ⟨hl, F1, fp1, fpA, st, r1, rA, nd⟩ := takeA_ok r o2 eq
      refine ⟨by simp [hl], F1, fp1, fpA, st, r1, ⟨rA.good, ?_, rA.nd, rA.dj⟩, nd⟩
      have o1 : RepD w K F H _ p := o1
      exact .so (fp := []) (.f (o1.mono (st.kpr r))) rA.rep
  | false :: bs, .inl i :: xs, vs, ws, env, e1, F, fp, r, o, e => by
    unfold takeA at e
    split at e
    · rename_i p hp
      obtain ⟨⟨ws', e1'⟩, eq, e2⟩ := Option.map_eq_some_iff.mp e
      cases e2
      cases o with
      | cons o1 o2 =>
        obtain ⟨F0, fp0, v, st0, r0, ev, d⟩ := r.freeze hp
        have o1 : σ[i]? = some (some _) := o1
        rw [ev] at o1
        cases o1
        obtain ⟨hl, F1, fp1, fpA, st, r1, rA, nd⟩ := takeA_ok r0 (OpsR.mono o2 (st0.kpr r)) eq
        refine ⟨by simp [hl], F1, fp1, fpA, st0.trans st, r1, ⟨rA.good, ?_, rA.nd, rA.dj⟩, nd⟩
        exact .so (fp := []) (.f (d.mono (st.kpr r0))) rA.rep
    · cases e
  | true :: bs, .inl i :: xs, vs, ws, env, e1, F, fp, r, o, e => by
    unfold takeA at e
    split at e
    · rename_i wv hp
      obtain ⟨⟨ws', e1'⟩, eq, e2⟩ := Option.map_eq_some_iff.mp e
      cases e2
      cases o with
      | cons o1 o2 =>
        obtain ⟨l, q, rr, ef, h1, h2, h3, h4, h5⟩ := r.rep.split hp
        obtain ⟨v, e2, rw'⟩ := h1 wv rfl
        have o1 : σ[i]? = some (some _) := o1
        rw [e2] at o1
        cases o1
        subst ef
        have nd := r.nd
        have dj := r.dj
        have r' : R w K F H σ (env.set i none) (l ++ rr) := ⟨r.good, h5 F H .refl fun _ _ _ h => h, by
          rw [List.nodup_append, List.nodup_append] at nd
          rw [List.nodup_append]
          exact ⟨nd.1.1, nd.2.1, fun a ha b hb => nd.2.2 a (List.mem_append_left _ ha) b hb⟩, fun a ha => dj a (by rcases List.mem_append.mp ha with z | z <;> simp [z])⟩
        obtain ⟨hl, F1, fp1, fpA, st, r1, rA, nd1⟩ := takeA_ok r' o2 eq
        have nq : ∀ a ∈ q, a ∉ l ++ rr := fun a ha h => by
          simp only [List.nodup_append, List.mem_append] at nd h
          rcases h with z | z
          · exact nd.1.2.2 a z a ha rfl
          · exact nd.2.2 a (.inr ha) a z rfl
        have n2 : ∀ a ∈ q, a ∉ fpA ++ fp1 := fun a ha h => by
          rcases st.own a h with z | z
          · exact nq a ha z
          · exact rw'.trk a ha z
        have nq1 : q.Nodup := by
          simp only [List.nodup_append] at nd
          exact nd.1.2.1
        have njq : ∀ a ∈ q, ¬ F1 a := fun a ha h => by
          rcases st.fr a h with z | z | z
          · exact dj a (by simp [ha]) z
          · exact nq a ha z
          · exact rw'.trk a ha z
        have k := st.kpr r'
        refine ⟨by simp [hl], F1, fp1, q ++ fpA, ?_, r1, ⟨rA.good, .so (rw'.mono k fun _ _ _ h => h) rA.rep, ?_, fun a ha => ?_⟩, ?_⟩
        · refine ⟨st.grow, fun a h => ?_, fun a h => ?_, fun a u h n => st.rd a u h fun z => n ?_, fun a u h n => st.ex a u h fun z => n ?_, st.dom⟩
          · rcases st.fr a h with z | z | z
            · exact .inl z
            · refine .inr (.inl ?_)
              rcases List.mem_append.mp z with z | z <;> simp [z]
            · exact .inr (.inr z)
          · rw [List.append_assoc] at h
            rcases List.mem_append.mp h with z | z
            · exact .inl (by simp [z])
            · rcases st.own a z with z | z
              · refine .inl ?_
                rcases List.mem_append.mp z with z | z <;> simp [z]
              · exact .inr z
          · rcases List.mem_append.mp z with z | z <;> simp [z]
          · rcases List.mem_append.mp z with z | z <;> simp [z]
        · rw [List.nodup_append]
          rw [List.nodup_append] at nd1
          exact ⟨nq1, nd1.1, fun a ha b hb h => by subst h; exact n2 a ha (by simp [hb])⟩
        · rcases List.mem_append.mp ha with z | z
          · exact njq a z
          · exact rA.dj a z
        · rw [List.append_assoc, List.nodup_append]
          exact ⟨nq1, nd1, fun a ha b hb h => by subst h; exact n2 a ha hb⟩
    · cases e
  | [], _ :: _, _, _, _, _, _, _, _, _, e => by unfold takeA at e; cases e
  | true :: _, [], _, _, _, _, _, _, _, _, e => by unfold takeA at e; cases e
  | false :: _, [], _, _, _, _, _, _, _, _, e => by unfold takeA at e; cases e

/-- what was lent comes back -/
theorem backA_ok : ∀ {io : List Bool} {xs : List Op} {vs : List V} {out : Env} {env : Env} {fp fpO : List Addr}, R w K F H σ env fp → OpsR w K F H σ xs vs → RepE w K F H (vs.map some) out fpO → fpO.Nodup → (∀ a ∈ fpO, ¬ F a) → (∀ a ∈ fpO, a ∉ fp) →
    ∃ fp', R w K F H σ (backA io xs out env) fp' ∧ ∀ a ∈ fp', a ∈ fp ∨ a ∈ fpO
  | [], xs, vs, out, env, fp, fpO, r, o, ro, nd, dj, nf => ⟨fp, by unfold backA; exact r, fun a h => .inl h⟩
  | b :: bs, [], vs, out, env, fp, fpO, r, o, ro, nd, dj, nf => ⟨fp, by cases b <;> (unfold backA; exact r), fun a h => .inl h⟩
  | b :: bs, x :: xs, vs, [], env, fp, fpO, r, o, ro, nd, dj, nf => ⟨fp, by cases b <;> cases x <;> (unfold backA; exact r), fun a h => .inl h⟩
  | b :: bs, x :: xs, vs, oo :: out, env, fp, fpO, r, o, ro, nd, dj, nf => by
    cases o with
    | cons o1 o2 =>
      rename_i v vs
      -- the head's own cells, the rest's
      obtain ⟨qh, qt, eq, hd, tl⟩ : ∃ qh qt, fpO = qh ++ qt ∧ (∀ wv, oo = some wv → RepW w K F H v wv qh) ∧ RepE w K F H (vs.map some) out qt := by
        cases ro with
        | no r => exact ⟨[], _, rfl, (fun _ h => by cases h), r⟩
        | so a r => exact ⟨_, _, rfl, (fun _ h => by cases h; exact a), r⟩
      subst eq
      rw [List.nodup_append] at nd
      have skip : ∃ fp', R w K F H σ (backA bs xs out env) fp' ∧ ∀ a ∈ fp', a ∈ fp ∨ a ∈ qh ++ qt := by
        obtain ⟨fp', r', h'⟩ := backA_ok (io := bs) r o2 tl nd.2.1 (fun a ha => dj a (by simp [ha])) fun a ha => nf a (by simp [ha])
        exact ⟨fp', r', fun a ha => (h' a ha).elim .inl fun z => .inr (by simp [z])⟩
      cases b with
      | false => cases x <;> (unfold backA; exact skip)
      | true =>
        cases x with
        | inr p => unfold backA; exact skip
        | inl i =>
          unfold backA
          have o1 : σ[i]? = some (some v) := o1
          -- the name's slot in the state
          by_cases hi : i < env.length
          · obtain ⟨l, q, rr, ef, h1, h2, h3, h4, h5⟩ := r.rep.split (i := i) (o := env[i]) (List.getElem?_eq_getElem hi)
            have hs : σ.set i (some v) = σ := by
              obtain ⟨_, e3⟩ := List.getElem?_eq_some_iff.mp o1
              rw [← e3, List.set_getElem_self]
            subst ef
            have rnd := r.nd
            have lr : (l ++ rr).Nodup := by
              rw [List.nodup_append, List.nodup_append] at rnd
              rw [List.nodup_append]
              exact ⟨rnd.1.1, rnd.2.1, fun a ha b hb => rnd.2.2 a (List.mem_append_left _ ha) b hb⟩
            have lrs : ∀ a ∈ l ++ rr, a ∈ l ++ q ++ rr := fun a ha => by rcases List.mem_append.mp ha with z | z <;> simp [z]
            cases oo with
            | none =>
              have r' : R w K F H σ (env.set i none) (l ++ rr) := ⟨r.good, h5 F H .refl fun _ _ _ h => h, lr, fun a ha => r.dj a (lrs a ha)⟩
              obtain ⟨fp', r2, h'⟩ := backA_ok (io := bs) r' o2 tl nd.2.1 (fun a ha => dj a (by simp [ha])) fun a ha z => nf a (by simp [ha]) (lrs a z)
              exact ⟨fp', r2, fun a ha => (h' a ha).elim (fun z => .inl (lrs a z)) fun z => .inr (by simp [z])⟩
            | some wv =>
              have rw' := hd wv rfl
              have z3 := h3 F H .refl (fun _ _ _ h => h) v wv qh rw'
              rw [hs] at z3
              have n3 : ∀ a ∈ qh, a ∉ l ++ rr := fun a ha z => nf a (by simp [ha]) (lrs a z)
              have r' : R w K F H σ (env.set i (some wv)) (l ++ qh ++ rr) := by
                refine ⟨r.good, z3, ?_, fun a ha => ?_⟩
                · rw [List.nodup_append] at lr
                  rw [List.nodup_append, List.nodup_append]
                  refine ⟨⟨lr.1, nd.1, fun a ha b hb h => ?_⟩, lr.2.1, fun a ha b hb h => ?_⟩
                  · subst h; exact n3 a hb (by simp [ha])
                  · subst h
                    rcases List.mem_append.mp ha with z | z
                    · exact lr.2.2 a z a hb rfl
                    · exact n3 a z (by simp [hb])
                · rcases List.mem_append.mp ha with z | z
                  · rcases List.mem_append.mp z with z | z
                    · exact r.dj a (by simp [z])
                    · exact dj a (by simp [z])
                  · exact r.dj a (by simp [z])
              obtain ⟨fp', r2, h'⟩ := backA_ok (io := bs) r' o2 tl nd.2.1 (fun a ha => dj a (by simp [ha])) fun a ha z => by
                rcases List.mem_append.mp z with z | z
                · rcases List.mem_append.mp z with z | z
                  · exact nf a (by simp [ha]) (by simp [z])
                  · exact nd.2.2 a z a ha rfl
                · exact nf a (by simp [ha]) (by simp [z])
              refine ⟨fp', r2, fun a ha => (h' a ha).elim (fun z => ?_) fun z => .inr (by simp [z])⟩
              rcases List.mem_append.mp z with z | z
              · rcases List.mem_append.mp z with z | z
                · exact .inl (by simp [z])
                · exact .inr (by simp [z])
              · exact .inl (by simp [z])
          · have e0 : env.set i oo = env := List.set_eq_of_length_le (by omega)
            rw [e0]
            exact skip
end

section
variable {X : L2.Cx} {k : Nat} {f : Addr} {fd : FuncData} {ps : List Str} {x : Str} {p pos : Pos} {e : Expr} {es : List Expr}
theorem call_weak {fu : Fu} {m : M (List Op)} {U : WX} {σ : L2.St} {H : Hp} {Q : VK} (h : zV X U (mCall fu m) σ H Q) : zG rOs X U m σ H fun vs H1 => spZ X.w X.K X.mg fu vs H1 Q (WE U σ) := by
  obtain ⟨F, fp, env, r, g⟩ := h
  refine ⟨F, fp, env, r, g.bnd fun xs e1 F1 fp1 H1 st1 g1 vs r1 o1 => ?_⟩
  have o1 : OpsR X.w X.K F1 H1 σ xs vs := o1
  split at g1
  · rename_i ws e2 ht
    obtain ⟨hl, F2, fp2, fpA, st2, r2, rA, nd⟩ := takeA_ok r1 o1 ht
    refine ⟨hl, F2, ws, fpA, rA, ?_⟩
    have o2 := OpsR.mono o1 (st2.kpr r1)
    have nd' := nd
    rw [List.nodup_append] at nd'
    split at g1
    · rename_i wv out hf
      intro F3 fp3 H3 q v st3 r3 ow
      have fr := r2.frame st3 r3.good nd rA.dj
      have sk : ∀ a ∈ fp3, a ∈ q ++ fp3 := fun a h => by simp [h]
      obtain ⟨fp4, r4, s4⟩ := backA_ok (io := fu.io) fr.1 (OpsR.mono o2 (st3.kpr rA)) r3.rep r3.nd r3.dj fun a h z => fr.2 a z (sk a h)
      have total : Step F1 fp1 H1 F3 (q ++ fp4) H3 := by
        refine st2.trans ((st3.more (fp'' := fpA ++ fp2) (fun a h => by simp [h]) fun a h => ?_).sub2 fun a h => ?_)
        · rcases st3.own a h with z | z
          · exact .inl (by simp [z])
          · exact .inr z
        · rcases List.mem_append.mp h with z | z
          · rcases st3.own a (by simp [z]) with z | z
            · exact .inl (by simp [z])
            · exact .inr z
          · rcases s4 a z with z | z
            · exact .inl (by simp [z])
            · rcases st3.own a (sk a z) with z | z
              · exact .inl (by simp [z])
              · exact .inr z
      refine g1 F3 (q ++ fp4) H3 total fp4 v q rfl r4 ⟨ow.rep, ?_, ow.dj⟩
      have on := ow.nd
      rw [List.nodup_append] at on ⊢
      refine ⟨on.1, r4.nd, fun a ha b hb h => ?_⟩
      subst h
      rcases s4 a hb with z | z
      · exact fr.2 a z (by simp [ha])
      · exact on.2.2 a ha a z rfl
    · rename_i xv out hf
      intro F3 fp3 H3 cls d st3 r3 ex
      have fr := r2.frame st3 r3.good nd rA.dj
      obtain ⟨fp4, r4, s4⟩ := backA_ok (io := fu.io) fr.1 (OpsR.mono o2 (st3.kpr rA)) r3.rep r3.nd r3.dj fun a h z => fr.2 a z h
      have total : Step F1 fp1 H1 F3 fp4 H3 := by
        refine st2.trans ((st3.more (fp'' := fpA ++ fp2) (fun a h => by simp [h]) fun a h => ?_).sub2 fun a h => ?_)
        · rcases st3.own a h with z | z
          · exact .inl (by simp [z])
          · exact .inr z
        · rcases s4 a h with z | z
          · exact .inl (by simp [z])
          · rcases st3.own a z with z | z
            · exact .inl (by simp [z])
            · exact .inr z
      exact g1 F3 fp4 H3 cls d total r4 ex
    · exact False.elim g1
  · exact False.elim g1
/-- a def's promise where no repr runs around -/
structure FnZ (P : Program) (w : World) (K : PySem.W.Frag) (mg : Str → Option Value) (base : Heap) (k : Nat) (f : Addr) (fd : FuncData) (ps : List Str) (fu : Fu) : Prop where
  ln : fu.io.length = ps.length
  go : ∀ (A : Around) (fr : List PySem.Env) (s : Shared) (H : Hp) (args : Args) (us : List Value) (vs : List V) (Q : VK) (E : XK), Room k A → A.guards = some [] → Env0 P w K mg base A fr s H → BindsTo s fd args (ps.zip us) → Vals vs us →
    spZ w K mg fu vs H Q E → codeAny (model P w) A (.call (.ref f) args) (CR (L2.CX P w) fr P w H s Q E) s
theorem FnZ.more {P : Program} {w : World} {K : PySem.W.Frag} {mg : Str → Option Value} {base : Heap} {j k : Nat} {f : Addr} {fd : FuncData} {ps : List Str} {fu : Fu} (h : FnZ P w K mg base j f fd ps fu) (hj : j ≤ k) : FnZ P w K mg base k f fd ps fu :=
  ⟨h.ln, fun A fr s H args us vs Q E hr => h.go A fr s H args us vs Q E (hr.mono hj)⟩
theorem run_z {fu : Fu} {U : WX} {pins : List (Addr × Obj)} {σ : L2.St} {H : Hp} {s : Shared} {Q : VK} {us : List Value} {vs : List V} (Fn : FnZ X.prog X.w X.K X.mg X.base k f fd ps fu) (hr : Room k X.A) (hgd : X.A.guards = some []) (hb : Binds X.K fd ps []) (tk : Takes X U)
    (I : L2.Inv X pins σ H s) (rv : Vals vs us) (h : spZ X.w X.K X.mg fu vs H Q (WE U σ)) : wpAny (model X.prog X.w) X.A (call (.ref f) us) (EP X pins σ Q) X.xe s := by
  have hus : us.length = ps.length := rv.length ▸ (h.1.trans Fn.ln)
  have bnd : BindsTo s fd ⟨us, []⟩ (ps.zip us) := by
    have z := hb s us I.kIn (by simpa using hus)
    rwa [List.append_nil] at z
  refine wpAny_call (codeAny_mono (Fn.go X.A X.stack s H ⟨us, []⟩ us vs Q (WE U σ) hr hgd I.env0 bnd rv h) fun rr t hq => ?_)
  match rr, hq with
  | .error e, hq => exact passAt tk σ pins H s e t I hq
  | .ok (.ret u), hq => exact I.after hq
theorem z_call {fu : Fu} {m : M (List Op)} (Fn : FnZ X.prog X.w X.K X.mg X.base k f fd ps fu) (hr : Room k X.A) (hgd : X.A.guards = some []) (hg : Gl X x) (hm : X.mg x = some (.ref f)) (hk : PySem.W.keepIn X.K (.ref f) = true) (hb : Binds X.K fd ps [])
    (ha : ZOs X (e :: es) m) (hdb : (x == ("__debug__" : Str)) = false := by decide) (he : starEach (e :: es) X.env = (false, eval e X.env) :: starEach es X.env := by rfl) (hpl : (backTo pos (starEach es X.env)).any (·.1) = false := by rfl) :
    ZV X (.Call (.Name x p) (e :: es) [] pos) (mCall fu m) :=
  ⟨fun U tk => ⟨fun pins s σ H Q I h => wpAny_Call_Name_kw (ld_glob I hg hm (PySem.W.callWith_K (h₀ := X.base) I.ok.mod.kin hk
    (thn ((ha.run U tk).run pos pins s σ H _ I (call_weak h)) fun us t ⟨vs, H2, J, rv, q⟩ => ⟨J.kIn, run_z Fn hr hgd hb tk J rv q⟩) he hpl) hdb)⟩⟩
theorem z_call0 {fu : Fu} (Fn : FnZ X.prog X.w X.K X.mg X.base k f fd ps fu) (hr : Room k X.A) (hgd : X.A.guards = some []) (hg : Gl X x) (hm : X.mg x = some (.ref f)) (hk : PySem.W.keepIn X.K (.ref f) = true) (hb : Binds X.K fd ps [])
    (hdb : (x == ("__debug__" : Str)) = false := by decide) : ZV X (.Call (.Name x p) [] [] pos) (mCall fu osNil) :=
  ⟨fun U tk => ⟨fun pins s σ H Q I h => wpAny_Call_Name_kw (ld_glob I hg hm (PySem.W.callWith_K0 I.kIn hk (by
    obtain ⟨F, fp, env, r, g⟩ := call_weak h
    exact run_z (us := []) Fn hr hgd hb tk I .nil (g.here [] r .nil))) hdb)⟩⟩
end
end Z

/-! Z10: statements by values. -/
namespace Z
open PySem PySem.Spec PyProof.Rows L2

def Sm (fx : List Nat) (σ σ' : L2.St) : Prop := ∀ i ∈ fx, σ'[i]? = σ[i]?
theorem Sm.refl {fx : List Nat} {σ : L2.St} : Sm fx σ σ := fun _ _ => rfl
theorem Sm.trans {fx : List Nat} {σ σ' σ'' : L2.St} (a : Sm fx σ σ') (b : Sm fx σ' σ'') : Sm fx σ σ'' := fun i h => (b i h).trans (a i h)
theorem Sm.set {fx : List Nat} {σ : L2.St} {i : Nat} {x : Option V} (h : fx.contains i = false) : Sm fx σ (σ.set i x) := fun j hj => by
  rw [List.getElem?_set_ne]
  rintro rfl
  rw [List.contains_eq_mem, decide_eq_false_iff_not] at h
  exact h hj
/-- how a statement ends -/
def EndS (X : L2.Cx) (D : Ends) (F' : Fz) (fp' : List Addr) (H' : Hp) (σ' : L2.St) (e : Env) : Flow → Prop
  | .nx => R X.w X.K F' H' σ' e fp' → D.nx σ' H'
  | .brk => R X.w X.K F' H' σ' e fp' → D.bk σ' H'
  | .ct => R X.w X.K F' H' σ' e fp' → D.ct σ' H'
  | .ret w => ∀ v q fp2, fp' = q ++ fp2 → R X.w X.K F' H' σ' e fp2 → Ow X.w X.K F' H' v w q fp2 → D.rt v H'
def PostS (X : L2.Cx) (U : WX) (fx : List Nat) (σ : L2.St) (F : Fz) (fp : List Addr) (H : Hp) (r : Res Flow) (D : Ends) : Prop := match r with
  | .ok fl e => ∀ F' fp' H' σ', Step F fp H F' fp' H' → Sm fx σ σ' → EndS X D F' fp' H' σ' e fl
  | .exc x e => ∀ F' fp' H' σ' cls d, Step F fp H F' fp' H' → Sm fx σ σ' → R X.w X.K F' H' σ' e fp' → ExR X.w X.K X.mg F' H' cls d x → U cls d σ' H'
  | .bad => False
section
variable {X : L2.Cx} {U : WX} {fx : List Nat} {σ σ' : L2.St} {F F' : Fz} {fp fp' : List Addr} {H H' : Hp} {α : Type}
theorem PostS.step {r : Res Flow} {D : Ends} (p : PostS X U fx σ F fp H r D) (s : Step F fp H F' fp' H') (m : Sm fx σ σ') : PostS X U fx σ' F' fp' H' r D := by
  cases r with
  | ok a e => exact fun G gp I τ t n => p G gp I τ (s.trans t) (m.trans n)
  | exc x e => exact fun G gp I τ cls d t n => p G gp I τ cls d (s.trans t) (m.trans n)
  | bad => exact p
/-- an expression, then the rest -/
theorem PostS.bnd {r : Res α} {k : α → Env → Res Flow} {D : Ends} {Q' : PQ α} (p : PostS X U fx σ F fp H (r.bind k) D) (h : ∀ a e F1 fp1 H1, Step F fp H F1 fp1 H1 → PostS X U fx σ F1 fp1 H1 (k a e) D → Q' a e F1 fp1 H1) : Post X U σ F fp H r Q' := by
  cases r with
  | ok a e => exact fun G gp I t => h a e G gp I t (PostS.step (r := k a e) p t .refl)
  | exc x e => exact fun G gp I cls d t rr ex => p G gp I σ cls d t .refl rr ex
  | bad => exact p
/-- a statement, then the rest -/
theorem PostS.bndS {r : Res Flow} {k : Flow → Env → Res Flow} {D D' : Ends} (p : PostS X U fx σ F fp H (r.bind k) D)
    (h : ∀ a e F1 fp1 H1 σ1, Step F fp H F1 fp1 H1 → Sm fx σ σ1 → PostS X U fx σ1 F1 fp1 H1 (k a e) D → EndS X D' F1 fp1 H1 σ1 e a) : PostS X U fx σ F fp H r D' := by
  cases r with
  | ok a e => exact fun G gp I τ t m => h a e G gp I τ t m (PostS.step (r := k a e) p t m)
  | exc x e => exact p
  | bad => exact p
theorem PostS.here {fl : Flow} {e : Env} {D : Ends} (p : PostS X U fx σ F fp H (.ok fl e) D) : EndS X D F fp H σ e fl := p F fp H σ .refl .refl
end
def zS (X : L2.Cx) (U : WX) (fx : List Nat) (m : M Flow) : TS := fun D σ H => ∃ F fp env, R X.w X.K F H σ env fp ∧ PostS X U fx σ F fp H (m env) D
structure ZS (X : L2.Cx) (fx : List Nat) (st : Stmt) (m : M Flow) : Prop where
  run : ∀ U, Takes X U → PS X st (zS X U fx m)
structure ZSs (X : L2.Cx) (fx : List Nat) (st : List Stmt) (m : M Flow) : Prop where
  run : ∀ U, Takes X U → PSs X st (zS X U fx m)

def sNil : M Flow := fun env => .ok .nx env
def sSeq (a b : M Flow) : M Flow := fun env => (a env).bind fun fl e => match fl with
  | .nx => b e
  | fl => .ok fl e
def sSet (i : Nat) (m : M W) : M Flow := fun env => (m env).bind fun w e => if i < e.length then .ok .nx (e.set i (some w)) else .bad
abbrev Bd := PyData → Env → Option Env
def gSet (i : Nat) : Bd := fun p e => if i < e.length then some (e.set i (some (.f p))) else none
def gAll : List Bd → List PyData → Env → Option Env
  | [], [], e => some e
  | g :: gs, p :: ps, e => (g p e).bind (gAll gs ps)
  | _, _, _ => none
def gTupB (gs : List Bd) : Bd := fun p e => match p with
  | .tuple l => if l.length = gs.length then gAll gs l e else none
  | .list l => if l.length = gs.length then gAll gs l e else none
  | _ => none
def sBnd (g : Bd) (m : M PyData) : M Flow := fun env => (m env).bind fun p e => match g p e with
  | some e' => .ok .nx e'
  | none => .bad
def sEx (m : M W) : M Flow := fun env => (m env).bind fun _ e => .ok .nx e
def sRet (m : M W) : M Flow := fun env => (m env).bind fun w e => .ok (.ret w) e
def sRetN : M Flow := fun env => .ok (.ret (.f .none)) env
def sIf (t : M Bool) (a b : M Flow) : M Flow := fun env => (t env).bind fun k e => if k = true then a e else b e
def sBrk : M Flow := fun env => .ok .brk env
def sCnt : M Flow := fun env => .ok .ct env
def loopN (c : M Bool) (body : M Flow) : Nat → Env → Option (Res Flow)
  | 0, _ => none
  | n + 1, env => match c env with
    | .ok true e1 => match body e1 with
      | .ok .nx e2 => loopN c body n e2
      | .ok .ct e2 => loopN c body n e2
      | .ok .brk e2 => some (.ok .nx e2)
      | .ok (.ret w) e2 => some (.ok (.ret w) e2)
      | .exc x e2 => some (.exc x e2)
      | .bad => some .bad
    | .ok false e1 => some (.ok .nx e1)
    | .exc x e1 => some (.exc x e1)
    | .bad => some .bad
open Classical in
noncomputable def sWhl (c : M Bool) (body : M Flow) : M Flow := fun env => if h : ∃ n r, loopN c body n env = some r then (Classical.choose_spec h).choose else .bad
def sForG (g : Bd) (body : M Flow) : List PyData → M Flow
  | [], env => .ok .nx env
  | x :: xs, env => match g x env with
    | some e1 => (body e1).bind fun fl e2 => match fl with
      | .nx => sForG g body xs e2
      | .ct => sForG g body xs e2
      | .brk => .ok .nx e2
      | .ret w => .ok (.ret w) e2
    | none => .bad
def sFor (g : Bd) (it : M (List PyData)) (body : M Flow) : M Flow := fun env => (it env).bind fun l e => sForG g body l e

section
variable {w : World} {K : PySem.W.Frag} {F : Fz} {H : Hp} {fp : List Addr} {σ : L2.St} {env : Env}
theorem Ow.drop {X : L2.Cx} {v : V} {x : W} {q fp' : List Addr} (o : Ow X.w X.K F H v x q fp') : Step F (q ++ fp') H F fp' H := Step.drop
end
section
variable {X : L2.Cx} {fx : List Nat} {e : Expr} {st : Stmt} {rest : List Stmt} {pos : Pos}
theorem zs_nil : ZSs X fx [] sNil := ⟨fun U tk => pss_nil.weak fun D σ H ⟨F, fp, env, r, g⟩ => g.here r⟩
theorem zs_cons {m n : M Flow} (h : ZS X fx st m) (h2 : ZSs X fx rest n) : ZSs X fx (st :: rest) (sSeq m n) :=
  ⟨fun U tk => (pss_cons (h.run U tk) (h2.run U tk)).weak fun D σ H ⟨F, fp, env, r, g⟩ => ⟨F, fp, env, r, g.bndS fun fl e1 F1 fp1 H1 σ1 s m q => by
    cases fl with
    | nx => exact fun r1 => ⟨F1, fp1, e1, r1, q⟩
    | brk => exact q.here
    | ct => exact q.here
    | ret w => exact q.here⟩⟩
theorem zs_one {m : M Flow} (h : ZS X fx st m) : ZSs X fx [st] m := ⟨fun U tk => pss_one (h.run U tk)⟩
theorem zs_doc {x : Str} {j : Nat} {pos' : Pos} : ZS X fx (.Expr (.Constant (.str x) j pos) pos') sNil := ⟨fun U tk => ps_doc.weak fun D σ H ⟨F, fp, env, r, g⟩ => g.here r⟩
theorem zs_pass : ZS X fx (.Pass pos) sNil := ⟨fun U tk => ps_pass.weak fun D σ H ⟨F, fp, env, r, g⟩ => g.here r⟩
theorem zs_brk : ZS X fx (.Break pos) sBrk := ⟨fun U tk => ps_break.weak fun D σ H ⟨F, fp, env, r, g⟩ => g.here r⟩
theorem zs_cnt : ZS X fx (.Continue pos) sCnt := ⟨fun U tk => ps_continue.weak fun D σ H ⟨F, fp, env, r, g⟩ => g.here r⟩
theorem set_weak {i : Nat} {m : M W} {U : WX} {D : Ends} {σ : L2.St} {H : Hp} (hfx : fx.contains i = false) (h : zS X U fx (sSet i m) D σ H) : tAsg (zV X U m) (gName i) D σ H := by
  obtain ⟨F, fp, env, r, g⟩ := h
  refine ⟨F, fp, env, r, g.bnd fun x e1 F1 fpT H1 st1 g1 fp' v q hq r1 o => ?_⟩
  split at g1
  · rename_i hi
    subst hq
    obtain ⟨fp2, st2, r2⟩ := r1.store o hi
    exact g1 F1 fp2 H1 (σ.set i (some v)) st2 (.set hfx) r2
  · exact False.elim g1
theorem zs_set {i : Nat} {x : Str} {m : M W} {pos' : Pos} (h : ZV X e m) (hfx : fx.contains i = false) (hN : X.N.Nodup) (hi : X.N[i]? = some x) (hx : Loc X.env.scope x) (hs : swapsWith e (some (.Name x pos')) pos.line X.env = pure false := by rfl) (hf : X.fn x = true ∨ X.env.scope.names.lookup x = some .local := by first | exact .inl rfl | exact .inr rfl | assumption) :
    ZS X fx (.Assign [.Name x pos'] e pos) (sSet i m) :=
  ⟨fun U tk => (ps_set hN hi hx (h.run U tk) hs hf).weak fun D σ H q => set_weak hfx q⟩
theorem zs_ex {m : M W} (h : ZV X e m) (hs : swapsWith e none pos.line X.env = pure false := by rfl) : ZS X fx (.Expr e pos) (sEx m) :=
  ⟨fun U tk => (ps_expr (h.run U tk) hs).weak fun D σ H ⟨F, fp, env, r, g⟩ => ⟨F, fp, env, r, g.bnd fun x e1 F1 fpT H1 st1 g1 fp' v q hq r1 o => by
    subst hq
    exact g1 F1 fp' H1 σ Step.drop .refl r1⟩⟩
theorem zs_ret {m : M W} (h : ZV X e m) : ZS X fx (.Return (some e) pos) (sRet m) :=
  ⟨fun U tk => (ps_ret (h.run U tk)).weak fun D σ H ⟨F, fp, env, r, g⟩ => ⟨F, fp, env, r, g.bnd fun x e1 F1 fpT H1 st1 g1 fp' v q hq r1 o => g1.here v q fp' hq r1 o⟩⟩
theorem zs_retN : ZS X fx (.Return none pos) sRetN := ⟨fun U tk => ps_retN.weak fun D σ H ⟨F, fp, env, r, g⟩ => g.here .non [] fp rfl r (.f .none r.nd)⟩
theorem zs_if {c : Expr} {a b : List Stmt} {t : M Bool} {m n : M Flow} (h : ZT X c t) (h1 : ZSs X fx a m) (h2 : ZSs X fx b n) : ZS X fx (.If c a b pos) (sIf t m n) :=
  ⟨fun U tk => (ps_if (h.run U tk) (h1.run U tk) (h2.run U tk)).weak fun D σ H ⟨F, fp, env, r, g⟩ => ⟨F, fp, env, r, g.bnd fun k e1 F1 fp1 H1 st1 g1 x r1 o1 => by
    cases o1
    cases k with
    | true => exact ⟨F1, fp1, e1, r1, g1⟩
    | false => exact ⟨F1, fp1, e1, r1, g1⟩⟩⟩

/-! ### while -/
theorem zs_whl {c : Expr} {body : List Stmt} {t : M Bool} {m : M Flow} (hp : PassesOwn (model X.prog X.w) X.A X.env X.xe) (h : ZT X c t) (h1 : ZSs X fx body m) : ZS X fx (.While c body [] pos) (sWhl t m) :=
  ⟨fun U tk => (ps_while hp (h.run U tk) (h1.run U tk)).weak fun D σ H ⟨F, fp, env, r, g⟩ => by
    unfold sWhl at g
    split at g
    · rename_i hx
      have hr := (Classical.choose_spec hx).choose_spec
      generalize (Classical.choose_spec hx).choose = res at g hr
      refine ⟨fun n σ' H' => ∃ F' fp' env' r, R X.w X.K F' H' σ' env' fp' ∧ loopN t m n env' = some r ∧ PostS X U fx σ' F' fp' H' r D, ⟨_, F, fp, env, res, r, hr, g⟩, ?_⟩
      rintro n σ' H' ⟨F', fp', env', r', R', hn, p⟩
      cases n with
      | zero => simp [loopN] at hn
      | succ n =>
        unfold loopN at hn
        refine ⟨F', fp', env', R', ?_⟩
        cases ht : t env' with
        | bad =>
          rw [ht] at hn
          cases hn
          exact p
        | exc x e1 =>
          rw [ht] at hn
          cases hn
          exact fun G gp I cls d s rr ex => p G gp I σ' cls d s .refl rr ex
        | ok k e1 =>
          rw [ht] at hn
          cases k with
          | false =>
            cases hn
            intro G gp I s k2 r2 ek
            cases ek
            rw [if_neg Bool.false_ne_true]
            exact p G gp I σ' s .refl r2
          | true =>
            intro G gp I s k2 r2 ek
            cases ek
            rw [if_pos rfl]
            refine ⟨fun σ2 H2 => ∃ m', m' < n + 1 ∧ ∃ F' fp' env' r, R X.w X.K F' H2 σ2 env' fp' ∧ loopN t m m' env' = some r ∧ PostS X U fx σ2 F' fp' H2 r D, fun σ2 H2 h => h, G, gp, e1, r2, ?_⟩
            have p2 := p.step s .refl
            dsimp only at hn
            cases hb : m e1 with
            | bad => rw [hb] at hn; cases hn; exact p2
            | exc x e2 => rw [hb] at hn; cases hn; exact p2
            | ok fl e2 =>
              rw [hb] at hn
              intro F3 fp3 H3 σ3 s3 m3
              have p3 := p2.step s3 m3
              cases fl with
              | nx => exact fun r3 => ⟨n, Nat.lt_succ_self n, F3, fp3, e2, r', r3, hn, p3⟩
              | ct => exact fun r3 => ⟨n, Nat.lt_succ_self n, F3, fp3, e2, r', r3, hn, p3⟩
              | brk => cases hn; exact p3.here
              | ret w => cases hn; exact p3.here
    · exact False.elim g⟩
end
end Z

/-! Zdk: a dict is walked: its keys, its values. -/
namespace Z
open PySem PySem.Spec PyProof.Rows L2
/-- the model's entries of a dict at a -/
theorem dRaw {P : Program} {w : World} {H : Hp} {h : Heap} (ok : HOk P w H h) {d : Addr} {ep : Nat} {es : List (Int × V × V)} (r : Rd H d (DO d ep es)) :
    ∃ ents : Array DictEntry, h.DictRaw d ents ep ∧ Paired EntR es ents.toList := by
  obtain ⟨⟨o, ents, ho, hc, hd, pr⟩, _⟩ := r.ok ok
  exact ⟨ents, ⟨o, ho, hc, hd⟩, pr⟩
theorem raw_inj {h : Heap} {d : Addr} {ep ep' : Nat} {es es' : Array DictEntry} (a : h.DictRaw d es ep) (b : h.DictRaw d es' ep') : es = es' := by
  obtain ⟨o, e, _, q⟩ := a
  obtain ⟨o', e', _, q'⟩ := b
  rw [e] at e'
  cases e'
  rw [q] at q'
  cases q'
  rfl
theorem pr_len : ∀ {es : List (Int × V × V)} {l : List DictEntry}, Paired EntR es l → es.length = l.length
  | _, _, .nil => rfl
  | _, _, .cons _ r => by simp [pr_len r]
theorem pr_get : ∀ {es : List (Int × V × V)} {l : List DictEntry}, Paired EntR es l → ∀ {i : Nat} {e : Int × V × V}, es[i]? = some e → ∃ d, l[i]? = some d ∧ EntR e d
  | _, _, .nil, i, e, h => by simp at h
  | _, _, .cons a r, 0, e, h => by
    simp at h
    subst h
    exact ⟨_, rfl, a⟩
  | _, _, .cons a r, i + 1, e, h => by
    obtain ⟨d, h1, h2⟩ := pr_get r (show _ = _ by simpa using h)
    exact ⟨d, by simpa using h1, h2⟩
/-- keys (sel := the key), values -/
def ItD (sel : Int × V × V → V) (d : Addr) (ep n : Nat) : L2.It :=
  ⟨fun i H => ∃ es e, Rd H d (DO d ep es) ∧ es.length = n ∧ es[i]? = some e, fun i H x H' => H' = H ∧ ∀ es, Rd H d (DO d ep es) → ∃ e, es[i]? = some e ∧ x = sel e,
   fun i H => ∃ es, Rd H d (DO d ep es) ∧ es.length = n ∧ n ≤ i⟩
theorem turn_keys {P : Program} {w : World} {K : PySem.W.Frag} {tg : Expr} (d it : Addr) (ep n : Nat) (hne : d ≠ it) : Turn P w K tg (ItD (fun e => e.2.1) d ep n) [it] it (fun i h => h.IsKeyIter it d i n ep) where
  mem := by simp
  obj := fun i h st b hb => by
    have e : b = it := by simpa using hb
    subst e
    obtain ⟨o, e, c, d⟩ := st
    exact ⟨o, e, fun v z => by rw [d] at z; cases z⟩
  keep := fun i h h' st k => st.at fun o e => k it (by simp) o e
  item := by
    intro X hP hw hK hc i pins s σ H E I hf st hg
    subst hP hw hK
    obtain ⟨es, e, hq, hn, hx⟩ := hg
    obtain ⟨ents, raw, pr⟩ := dRaw I.hok hq
    obtain ⟨de, hu, r1, r2, r3⟩ := pr_get pr hx
    have hz : ents.size = n := by rw [← hn, pr_len pr, Array.length_toList]
    have hi : i < ents.size := by
      have := (List.getElem?_eq_some_iff.mp hu).1
      rwa [Array.length_toList] at this
    have hde : ents[i] = de := by
      rw [Array.getElem?_toList, Array.getElem?_eq_getElem hi] at hu
      exact Option.some.inj hu
    obtain ⟨f0, f1, f2, f3, f4, f5⟩ := hf it (by simp)
    subst hz
    refine wpAny_pyNext_keys_item_raw st raw hi fun h' st' sb => ?_
    have I1 : Inv X pins σ H { s with heap := h' } := I.turned (t' := s.toks) (fun b o hb e => (sb.2 b hb).trans e) f0 f1 f3 f4 f5
    obtain ⟨o, e0, c, dd⟩ := id st'
    refine ⟨_, rfl, go_of (s := { s with heap := h' }) e0 c dd (by decide) ⟨e.2.1, H, I1, by rw [hde]; exact r2, ⟨rfl, fun es2 hy => ?_⟩, st', fun b hb => (hf b hb).1⟩⟩
    obtain ⟨ents2, raw2, pr2⟩ := dRaw I.hok hy
    obtain rfl := raw_inj raw raw2
    have l2 : i < es2.length := by rw [pr_len pr2, Array.length_toList]; exact hi
    have g2 := List.getElem?_eq_getElem l2
    obtain ⟨de2, hu2, q1, q2, q3⟩ := pr_get pr2 g2
    rw [hu] at hu2
    cases hu2
    exact ⟨_, g2, r2.inj q2⟩
  done := by
    intro X hP hw hK hc i pins s σ H E I hf st hg
    subst hP hw hK
    obtain ⟨es, hq, hn, hx⟩ := hg
    obtain ⟨ents, raw, pr⟩ := dRaw I.hok hq
    have hz : ents.size = n := by rw [← hn, pr_len pr, Array.length_toList]
    obtain ⟨f0, f1, f2, f3, f4, f5⟩ := hf it (by simp)
    subst hz
    exact wpAny_pyNext_keys_end_raw (I.ok.hd hc) st raw hx fun h' eb => ⟨rfl, I.turned (t' := s.toks) (fun b o hb e => eb b o hb e) f0 f1 f3 f4 f5⟩
  self := fun _ _ _ _ _ st h => wpAny_pyIter_keyiter st h
section
variable {X : L2.Cx} {tg : Expr}
def iDic (td : TE) : TI := fun σ H R => td σ H fun x H1 => ∃ d ep es, x = .ref d ∧ (d == sysModules) = false ∧ Rd H1 d (DO d ep es) ∧ R (ItD (fun e => e.2.1) d ep es.length) H1
theorem pi_dic {l : Expr} {tl : TE} (hl : PE X l tl) : PI X tg l (iDic tl) := by
  refine ⟨fun pins s σ H R I h => ?_⟩
  refine thn (hl.run pins s σ H _ I h) fun v s1 ⟨x, H1, I1, r1, q1⟩ => ?_
  obtain ⟨d, ep, es, e, hs, hq, q⟩ := q1
  subst e
  cases r1
  obtain ⟨ents, raw, pr⟩ := dRaw I1.hok hq
  have hz : ents.size = es.length := by rw [pr_len pr, Array.length_toList]
  have hd : d ≠ s1.heap.objs.size := by
    obtain ⟨o, e, _⟩ := raw
    exact Nat.ne_of_lt (Heap.lt_size e)
  refine wpAny_pyIter_dict_raw hs raw ?_
  refine ⟨s1.heap.objs.size, [s1.heap.objs.size], _, _, H1, rfl, I1.kept (t' := s1.toks) fun b o e => Heap.get?_push_of_some _ e, turn_keys d _ ep es.length hd, ⟨_, Heap.get?_push_size _ rfl, rfl, by rw [hz]; rfl⟩, fun b hb => ?_, q⟩
  have e : b = s1.heap.objs.size := by simpa using hb
  subst e
  exact I1.fpOk (Nat.le_refl _) (I1.hok.fresh (Nat.le_refl _))
end
theorem RepEs.kds {w : World} {K : PySem.W.Frag} {F : Fz} {H : Hp} : ∀ {es : List (Int × V × V)} {kvs : List (PyData × PyData)}, RepEs w K F H es kvs → RepDs w K F H (es.map fun e => e.2.1) (kvs.map (·.1))
  | _, _, .nil => .nil
  | _, _, .cons _ _ c _ r => .cons c (RepEs.kds r)
theorem RepEs.vds {w : World} {K : PySem.W.Frag} {F : Fz} {H : Hp} : ∀ {es : List (Int × V × V)} {kvs : List (PyData × PyData)}, RepEs w K F H es kvs → RepDs w K F H (es.map fun e => e.2.2) (kvs.map (·.2))
  | _, _, .nil => .nil
  | _, _, .cons _ _ _ d r => .cons d (RepEs.vds r)
end Z

/-! Z11: targets, what is walked, for. -/
namespace Z
open PySem PySem.Spec PyProof.Rows L2

def zGt (X : L2.Cx) (fx : List Nat) (g : Bd) : TG := fun v σ H Q => ∃ F fp env p e, R X.w X.K F H σ env fp ∧ RepD X.w X.K F H v p ∧ g p env = some e ∧
  ∀ σ' fp', (∀ a ∈ fp', a ∈ fp) → R X.w X.K F H σ' e fp' → Sm fx σ σ' → Q σ' H
def zGts (X : L2.Cx) (fx : List Nat) (gs : List Bd) : TGs := fun vs σ H Q => ∃ F fp env ps e, R X.w X.K F H σ env fp ∧ RepDs X.w X.K F H vs ps ∧ gAll gs ps env = some e ∧
  ∀ σ' fp', (∀ a ∈ fp', a ∈ fp) → R X.w X.K F H σ' e fp' → Sm fx σ σ' → Q σ' H
/-- a target leaves the number of names as it is -/
def BdL (g : Bd) : Prop := ∀ p env e, g p env = some e → e.length = env.length
structure ZG (X : L2.Cx) (fx : List Nat) (tg : Expr) (g : Bd) : Prop where
  run : PG X tg (zGt X fx g)
  bl : BdL g
structure ZGs (X : L2.Cx) (fx : List Nat) (tgs : List Expr) (gs : List Bd) : Prop where
  run : PGs X tgs (zGts X fx gs)
  len : tgs.length = gs.length
  bl : ∀ g ∈ gs, BdL g
theorem gAll_len : ∀ {gs : List Bd}, (∀ g ∈ gs, BdL g) → ∀ {ps : List PyData} {env e : Env}, gAll gs ps env = some e → e.length = env.length
  | [], _, [], env, e, h => by cases h; rfl
  | [], _, _ :: _, env, e, h => by cases h
  | _ :: _, _, [], env, e, h => by cases h
  | g :: gs, hb, p :: ps, env, e, h => by
    obtain ⟨e1, g1, g2⟩ := Option.bind_eq_some_iff.mp (show (g p env).bind (gAll gs ps) = some e from h)
    rw [gAll_len (fun g hg => hb g (by simp [hg])) g2, hb g (by simp) _ _ _ g1]
section
variable {X : L2.Cx} {fx : List Nat} {e : Expr} {es : List Expr} {pos : Pos}
theorem zg_name {i : Nat} {x : Str} (hfx : fx.contains i = false) (hN : X.N.Nodup) (hi : X.N[i]? = some x) (hx : Loc X.env.scope x) (hf : X.fn x = true ∨ X.env.scope.names.lookup x = some .local := by first | exact .inl rfl | exact .inr rfl | assumption) : ZG X fx (.Name x pos) (gSet i) :=
  ⟨⟨fun pins s σ H v u Q I rv ⟨F, fp, env, p, e, r, d, ge, q⟩ => (pg_name hN hi hx hf).run pins s σ H v u Q I rv (by
    unfold gSet at ge
    split at ge
    · rename_i hi'
      cases ge
      obtain ⟨fp2, st2, r2⟩ := r.store (.f d r.nd) hi'
      refine q _ fp2 (fun a ha => ?_) r2 (.set hfx)
      rcases st2.own a ha with z | z
      · simpa using z
      · exact absurd z (r2.rep.trk a ha)
    · cases ge)⟩, fun p env e ge => by
    unfold gSet at ge
    split at ge
    · cases ge; simp
    · cases ge⟩
theorem zgs_nil : ZGs X fx [] [] := ⟨⟨fun pins s σ H vs us Q I rv ⟨F, fp, env, ps, e, r, d, ge, q⟩ => pgs_nil.run pins s σ H vs us Q I rv (by
  cases d with
  | nil => cases ge; exact ⟨rfl, q σ fp (fun _ h => h) r .refl⟩
  | cons _ _ => cases ge)⟩, rfl, fun _ h => by simp at h⟩
theorem zgs_cons {g : Bd} {gs : List Bd} (h : ZG X fx e g) (h2 : ZGs X fx es gs) (hs : (assignEach (e :: es) X.env).map (·.2) = assign e X.env :: (assignEach es X.env).map (·.2) := by rfl) : ZGs X fx (e :: es) (g :: gs) :=
  ⟨⟨fun pins s σ H vs us Q I rv ⟨F, fp, env, ps, e, r, d, ge, q⟩ => (pgs_cons h.run h2.run hs).run pins s σ H vs us Q I rv (by
    cases d with
    | nil => cases ge
    | cons d1 d2 =>
      obtain ⟨e1, g1, g2⟩ := Option.bind_eq_some_iff.mp (show (g _ env).bind (gAll gs _) = some e from ge)
      exact ⟨_, _, rfl, F, fp, env, _, e1, r, d1, g1, fun σ1 fp1 s1 r1 m1 => ⟨F, fp1, e1, _, e, r1, d2, g2, fun σ2 fp2 s2 r2 m2 => q σ2 fp2 (fun a h => s1 a (s2 a h)) r2 (m1.trans m2)⟩⟩)⟩, by simp [h2.len], fun g' hg => by
    rcases List.mem_cons.mp hg with rfl | z
    · exact h.bl
    · exact h2.bl g' z⟩
theorem zg_tup {gs : List Bd} {k : Nat} (hc : X.calm = true) (h : ZGs X fx es gs) (hn : (assignEach es X.env).length = es.length := by rfl) (hst : (assignEach es X.env).findIdx? (·.1) = none := by rfl) : ZG X fx (.Tuple es k pos) (gTupB gs) :=
  ⟨⟨fun pins s σ H v u Q I rv ⟨F, fp, env, p, e, r, d, ge, q⟩ => by
    unfold gTupB at ge
    split at ge
    · rename_i l
      split at ge
      · rename_i hl
        cases d with
        | tuple ht rs =>
          exact (pg_tup hc h.run hn hst).run pins s σ H _ u Q I rv ⟨_, _, rfl, ht.sq, by rw [rs.length, hl, h.len], F, fp, env, l, e, r, rs, ge, q⟩
      · cases ge
    · rename_i l
      split at ge
      · rename_i hl
        cases d with
        | list ht rs =>
          exact (L2.pg_lst hc h.run hn hst).run pins s σ H _ u Q I rv ⟨_, _, rfl, ht.sq, by rw [rs.length, hl, h.len], F, fp, env, l, e, r, rs, ge, q⟩
      · cases ge
    · cases ge⟩, fun p env e ge => by
    unfold gTupB at ge
    split at ge
    · split at ge
      · exact gAll_len h.bl ge
      · cases ge
    · split at ge
      · exact gAll_len h.bl ge
      · cases ge
    · cases ge⟩
theorem bnd_weak {g : Bd} {m : M PyData} {U : WX} {D : Ends} {σ : L2.St} {H : Hp} (h : zS X U fx (sBnd g m) D σ H) : tAsg (zG rD X U m) (zGt X fx g) D σ H := by
  obtain ⟨F, fp, env, r, q⟩ := h
  refine ⟨F, fp, env, r, q.bnd fun p e1 F1 fp1 H1 st1 g1 v r1 o1 => ?_⟩
  split at g1
  · rename_i e2 he
    exact ⟨F1, fp1, e1, p, e2, r1, o1, he, fun σ2 fp2 s2 r2 m2 => g1 F1 fp2 H1 σ2 (.sub2 .refl fun a h => .inl (s2 a h)) m2 r2⟩
  · exact False.elim g1
theorem zs_bnd {tg e : Expr} {g : Bd} {m : M PyData} (h : ZD X e m) (hg : ZG X fx tg g) (hs : swapsWithSole [tg] e pos.line X.env = pure false := by rfl) (hw : swappedStores [tg] e X.env = pure none := by rfl)
    (h1 : (assignEach [tg] X.env).map (·.2) = [assign tg X.env] := by rfl) : ZS X fx (.Assign [tg] e pos) (sBnd g m) :=
  ⟨fun U tk => (ps_asg (h.run U tk) hg.run hs hw h1).weak fun D σ H q => bnd_weak q⟩

/-- a, b = x, y with names -/
def sPar (i j : Nat) (m : M (List PyData)) : M Flow := fun env => (m env).bind fun l e => match l with
  | [p, q] => if i < e.length ∧ j < e.length then .ok .nx ((e.set i (some (.f p))).set j (some (.f q))) else .bad
  | _ => .bad
theorem zs_par {i j : Nat} {x y : Str} {a b : Expr} {m : M (List PyData)} {px py pt : Pos} {kt k2 : Nat} {pt2 : Pos} (ha : ZDs X [a, b] m) (hfi : fx.contains i = false) (hfj : fx.contains j = false) (hc : X.calm = true) (hN : X.N.Nodup) (hi : X.N[i]? = some x) (hj : X.N[j]? = some y) (hij : i ≠ j)
    (hx : X.env.scope.names.lookup x = some .local) (hy : X.env.scope.names.lookup y = some .local)
    (hw : swappedStores [.Tuple [.Name x px, .Name y py] kt pt] (.Tuple [a, b] k2 pt2) X.env = pure (some [x, y]))
    (hs : swapsWithSole [.Tuple [.Name x px, .Name y py] kt pt] (.Tuple [a, b] k2 pt2) pos.line X.env = pure false := by rfl) :
    ZS X fx (.Assign [.Tuple [.Name x px, .Name y py] kt pt] (.Tuple [a, b] k2 pt2) pos) (sPar i j m) :=
  ⟨fun U tk => (ps_par hc hN hi hj hij hx hy (ha.run U tk) hw hs).weak fun D σ H ⟨F, fp, env, r, g⟩ => ⟨F, fp, env, r, g.bnd fun l e1 F1 fp1 H1 st1 g1 vs r1 o1 => by
    have o1 : RepDs X.w X.K F1 H1 vs l := o1
    split at g1
    · rename_i p q
      split at g1
      · rename_i hl
        cases o1 with
        | cons d1 o1 =>
          cases o1 with
          | cons d2 o1 =>
            cases o1
            obtain ⟨fp2, st2, r2⟩ := r1.store (.f d1 r1.nd) hl.1
            obtain ⟨fp3, st3, r3⟩ := r2.store (.f d2 r2.nd) (i := j) (by rw [List.length_set]; exact hl.2)
            exact ⟨_, _, rfl, g1 F1 fp3 H1 _ ((show Step F1 fp1 H1 F1 fp2 H1 from st2).trans (show Step F1 fp2 H1 F1 fp3 H1 from st3)) ((Sm.set hfi).trans (Sm.set hfj)) r3⟩
      · exact False.elim g1
    · exact False.elim g1⟩⟩
end

/-! ### what is walked -/
def ItOk (w : World) (K : PySem.W.Frag) (F : Fz) (H : Hp) (J : L2.It) (l : List PyData) : Prop := ∀ F2 H2, Kp F H F2 H2 → ∀ i,
  (∀ p, l[i]? = some p → J.go i H2 ∧ ∀ x H3, J.yld i H2 x H3 → (H3 = H2 ∧ RepD w K F2 H2 x p) ∨ (∃ a xs ps, x = .ref a ∧ H2 a = none ∧ H3 = upd H2 a (.tup xs) ∧ p = .tuple ps ∧ RepDs w K F2 H2 xs ps)) ∧ (l.length ≤ i → J.stop i H2)
def zI (X : L2.Cx) (U : WX) (m : M (List PyData)) : TI := fun σ H Rr => ∃ F fp env, R X.w X.K F H σ env fp ∧ Post X U σ F fp H (m env) fun l e F' fp' H' => R X.w X.K F' H' σ e fp' → ∀ J, ItOk X.w X.K F' H' J l → Rr J H'
structure ZI (X : L2.Cx) (tg iter : Expr) (m : M (List PyData)) : Prop where
  run : ∀ U, Takes X U → PI X tg iter (zI X U m)
theorem _root_.L2.PI.weak {X : L2.Cx} {tg e : Expr} {t t' : TI} (h : PI X tg e t) (i : ∀ σ H Q, t' σ H Q → t σ H Q) : PI X tg e t' := ⟨fun pins s σ H Q I q => h.run pins s σ H Q I (i σ H Q q)⟩
theorem Kp.trans {F F' F'' : Fz} {H H' H'' : Hp} (a : Kp F H F' H') (b : Kp F' H' F'' H'') : Kp F H F'' H'' := ⟨fun x h => b.grow x (a.grow x h), fun x u f h => b.rd x u (a.grow x f) (a.rd x u f h)⟩
section
variable {w : World} {K : PySem.W.Frag} {F : Fz} {H : Hp}
theorem itl_ok {a : Addr} {xs : List V} {ps : List PyData} (h : LsF K F H a xs) (rs : RepDs w K F H xs ps) : ItOk w K F H (Itl K a) ps := fun F2 H2 k i => by
  have h2 := h.mono k
  refine ⟨fun p hp => ?_, fun hl => ⟨xs, h2.sq, by rw [rs.length]; exact hl⟩⟩
  obtain ⟨v, e, d⟩ := (rs.mono k).get hp
  exact ⟨⟨xs, v, h2.sq, e⟩, fun x H3 y => .inl ⟨y.1, by have := y.2 xs h2.sq; rw [e] at this; cases this; exact d⟩⟩
theorem itt_ok {a : Addr} {xs : List V} {ps : List PyData} (h : TpF K F H a xs) (rs : RepDs w K F H xs ps) : ItOk w K F H (Itt K a) ps := fun F2 H2 k i => by
  have h2 := h.mono k
  refine ⟨fun p hp => ?_, fun hl => ⟨xs, h2.sq, by rw [rs.length]; exact hl⟩⟩
  obtain ⟨v, e, d⟩ := (rs.mono k).get hp
  exact ⟨⟨xs, v, h2.sq, e⟩, fun x H3 y => .inl ⟨y.1, by have := y.2 xs h2.sq; rw [e] at this; cases this; exact d⟩⟩
theorem itd_ok {d : Addr} {ep : Nat} {es : List (Int × V × V)} {ps : List PyData} (sel : Int × V × V → V) (hf : F d) (h : Rd H d (DO d ep es)) (rs : RepDs w K F H (es.map sel) ps) : ItOk w K F H (ItD sel d ep es.length) ps := fun F2 H2 k i => by
  have h2 := k.rd d _ hf h
  have hl : ps.length = es.length := by rw [← rs.length, List.length_map]
  refine ⟨fun p hp => ?_, fun hl2 => ⟨es, h2, rfl, by omega⟩⟩
  obtain ⟨v, e, dd⟩ := (rs.mono k).get hp
  rw [List.getElem?_map] at e
  obtain ⟨en, e1, e2⟩ := Option.map_eq_some_iff.mp e
  refine ⟨⟨es, en, h2, rfl, e1⟩, fun x H3 y => .inl ⟨y.1, ?_⟩⟩
  obtain ⟨e', g1, g2⟩ := y.2 es h2
  rw [e1] at g1
  cases g1
  rw [g2, e2]
  exact dd
theorem rangeD_get : ∀ {n : Nat} {lo : Int} {i : Nat}, i < n → (rangeD lo n)[i]? = some (.int (lo + i))
  | 0, _, _, h => by omega
  | n + 1, lo, 0, _ => by simp [rangeD]
  | n + 1, lo, i + 1, h => by
    rw [rangeD, List.getElem?_cons_succ, rangeD_get (by omega)]
    congr 2
    omega
theorem rangeD_len : ∀ {n : Nat} {lo : Int}, (rangeD lo n).length = n
  | 0, _ => rfl
  | n + 1, lo => by simp [rangeD, rangeD_len]
theorem itr_ok {lo : Int} {n : Nat} : ItOk w K F H (Itr lo n) (rangeD lo n) := fun F2 H2 k i => by
  refine ⟨fun p hp => ?_, fun hl => by rw [rangeD_len] at hl; exact hl⟩
  have hi : i < n := by
    have := (List.getElem?_eq_some_iff.mp hp).1
    rw [rangeD_len] at this
    exact this
  rw [rangeD_get hi] at hp
  cases hp
  exact ⟨hi, fun x H3 y => .inl ⟨y.1, by rw [y.2]; exact .int _⟩⟩
theorem its_ok {x : Str} : ItOk w K F H (Its x) (signs x) := fun F2 H2 k i => by
  refine ⟨fun p hp => ?_, fun hl => ?_⟩
  · unfold signs at hp
    rw [List.getElem?_map] at hp
    obtain ⟨c, hc, rfl⟩ := Option.map_eq_some_iff.mp hp
    have hc' : x.cps[i]? = some c := by simpa using hc
    have hs := (Array.getElem?_eq_some_iff.mp hc').1
    refine ⟨hs, fun v H3 y => ?_⟩
    obtain ⟨e, c', hc2, rfl⟩ := y
    rw [hc'] at hc2
    cases hc2
    exact .inl ⟨e, .str _⟩
  · show x.cps.size ≤ i
    have : (signs x).length = x.cps.size := by simp [signs]
    omega
theorem enumD_get : ∀ {l : List PyData} {n i : Nat} {p : PyData}, l[i]? = some p → (enumD n l)[i]? = some (.tuple [.int ((n + i : Nat) : Int), p])
  | [], _, _, _, h => by simp at h
  | x :: xs, n, 0, p, h => by simp at h; subst h; simp [enumD]
  | x :: xs, n, i + 1, p, h => by
    rw [enumD, List.getElem?_cons_succ, enumD_get (n := n + 1) (by simpa using h)]
    have : n + 1 + i = n + (i + 1) := by omega
    rw [this]
theorem enumD_len : ∀ {l : List PyData} {n : Nat}, (enumD n l).length = l.length
  | [], _ => rfl
  | x :: xs, n => by simp [enumD, enumD_len]
theorem ite_ok {a : Addr} {xs : List V} {ps : List PyData} (h : LsF K F H a xs) (rs : RepDs w K F H xs ps) : ItOk w K F H (Ite K a) (enumD 0 ps) := fun F2 H2 k i => by
  have h2 := h.mono k
  refine ⟨fun p hp => ?_, fun hl => ⟨xs, h2.sq, by rw [rs.length]; rw [enumD_len] at hl; exact hl⟩⟩
  have hi : i < ps.length := by
    have := (List.getElem?_eq_some_iff.mp hp).1
    rw [enumD_len] at this
    exact this
  have hp0 := List.getElem?_eq_getElem hi
  rw [enumD_get hp0] at hp
  cases hp
  obtain ⟨v, e, d⟩ := (rs.mono k).get hp0
  refine ⟨⟨xs, v, h2.sq, e⟩, fun x H3 y => .inr ?_⟩
  obtain ⟨T, x', rfl, n, rfl, hx⟩ := y
  have := hx xs h2.sq
  rw [e] at this
  cases this
  exact ⟨T, _, _, rfl, n, rfl, rfl, .cons (by rw [Nat.zero_add]; exact .int _) (.cons d .nil)⟩
theorem zipD_get : ∀ {l m : List PyData} {i : Nat} {p q : PyData}, l[i]? = some p → m[i]? = some q → (zipD l m)[i]? = some (.tuple [p, q])
  | [], _, _, _, _, h, _ => by simp at h
  | x :: xs, [], _, _, _, _, h => by simp at h
  | x :: xs, y :: ys, 0, p, q, h, h2 => by simp at h h2; subst h h2; simp [zipD]
  | x :: xs, y :: ys, i + 1, p, q, h, h2 => by
    rw [zipD, List.getElem?_cons_succ]
    exact zipD_get (by simpa using h) (by simpa using h2)
theorem zipD_len : ∀ {l m : List PyData}, (zipD l m).length = min l.length m.length
  | [], m => by cases m <;> simp [zipD]
  | x :: xs, [] => by simp [zipD]
  | x :: xs, y :: ys => by simp [zipD, zipD_len]
theorem zip_ok {J : L2.It} {Sq : Hp → List V → Prop} {Sq' : Hp → List V → Prop} {xs ys : List V} {ps qs : List PyData}
    (hx : ∀ F2 H2, Kp F H F2 H2 → Sq H2 xs) (hy : ∀ F2 H2, Kp F H F2 H2 → Sq' H2 ys) (rs : RepDs w K F H xs ps) (rt : RepDs w K F H ys qs)
    (hJ : J = ⟨fun i H => ∃ (xs ys : List V) (x y : V), Sq H xs ∧ Sq' H ys ∧ xs[i]? = some x ∧ ys[i]? = some y,
      fun i H v H' => ∃ T x y, v = .ref T ∧ H T = none ∧ H' = upd H T (.tup [x, y]) ∧ (∀ xs, Sq H xs → xs[i]? = some x) ∧ ∀ ys, Sq' H ys → ys[i]? = some y,
      fun i H => ∃ xs ys : List V, Sq H xs ∧ Sq' H ys ∧ (xs.length ≤ i ∨ ys.length ≤ i)⟩) : ItOk w K F H J (zipD ps qs) := fun F2 H2 k i => by
  subst hJ
  refine ⟨fun p hp => ?_, fun hl => ⟨xs, ys, hx F2 H2 k, hy F2 H2 k, ?_⟩⟩
  · have hi := (List.getElem?_eq_some_iff.mp hp).1
    rw [zipD_len] at hi
    have h1 := List.getElem?_eq_getElem (l := ps) (i := i) (by omega)
    have h2 := List.getElem?_eq_getElem (l := qs) (i := i) (by omega)
    rw [zipD_get h1 h2] at hp
    cases hp
    obtain ⟨v, e, d⟩ := (rs.mono k).get h1
    obtain ⟨v2, e2, d2⟩ := (rt.mono k).get h2
    refine ⟨⟨xs, ys, v, v2, hx F2 H2 k, hy F2 H2 k, e, e2⟩, fun x H3 y => .inr ?_⟩
    obtain ⟨T, x', y', rfl, n, rfl, q1, q2⟩ := y
    have q1 := q1 xs (hx F2 H2 k)
    have q2 := q2 ys (hy F2 H2 k)
    rw [e] at q1
    rw [e2] at q2
    cases q1
    cases q2
    exact ⟨T, _, _, rfl, n, rfl, rfl, .cons d (.cons d2 .nil)⟩
  · rw [zipD_len] at hl
    rw [rs.length, rt.length]
    omega
end

/-! ### for -/
section
variable {X : L2.Cx} {fx : List Nat} {e : Expr} {es : List Expr} {pos : Pos}
theorem zs_for {tg iter : Expr} {body : List Stmt} {g : Bd} {mi : M (List PyData)} {m : M Flow} (hp : PassesOwn (model X.prog X.w) X.A X.env X.xe) (hc : X.calm = true) (hi : ZI X tg iter mi) (hg : ZG X fx tg g) (hb : ZSs X fx body m)
    (hs : ∀ x, foldedSetIterable iter X.env x = pure x := by intro _; rfl) : ZS X fx (.For tg iter body [] pos) (sFor g mi m) :=
  ⟨fun U tk => (ps_for hp hc (hi.run U tk) hg.run (hb.run U tk) hs).weak fun D σ H ⟨F, fp, env, r, gg⟩ => ⟨F, fp, env, r, gg.bnd fun l e1 F1 fp1 H1 st1 g1 r1 J hJ => by
    refine ⟨fun i m' σ' H' => i + m' = l.length ∧ ∃ F' fp' env', R X.w X.K F' H' σ' env' fp' ∧ Kp F1 H1 F' H' ∧ PostS X U fx σ' F' fp' H' (sForG g m (l.drop i) env') D, ⟨l.length, by omega, F1, fp1, e1, r1, .refl, by rw [List.drop_zero]; exact g1⟩, ?_⟩
    rintro i m' σ' H' ⟨him, F', fp', env', r', k, p⟩
    have jk := hJ F' H' k i
    cases hq : l[i]? with
    | none =>
      have hl : l.length ≤ i := List.getElem?_eq_none_iff.mp hq
      refine .inl ⟨jk.2 hl, ?_⟩
      rw [List.drop_eq_nil_of_le hl] at p
      exact p.here r'
    | some d =>
      have hl : i < l.length := (List.getElem?_eq_some_iff.mp hq).1
      obtain ⟨go, yl⟩ := jk.1 d hq
      refine .inr ⟨go, fun σ2 H2 => ∃ m2, m2 < m' ∧ (i + 1) + m2 = l.length ∧ ∃ F' fp' env', R X.w X.K F' H2 σ2 env' fp' ∧ Kp F1 H1 F' H2 ∧ PostS X U fx σ2 F' fp' H2 (sForG g m (l.drop (i + 1)) env') D, fun σ2 H2 ⟨m2, h1, h2, h3⟩ => ⟨m2, h1, h2, h3⟩, ?_⟩
      intro x H3 y
      have hd : l.drop i = d :: l.drop (i + 1) := by
        rw [List.drop_eq_getElem_cons hl]
        have := (List.getElem?_eq_some_iff.mp hq).2
        rw [this]
      rw [hd] at p
      unfold sForG at p
      -- the state with the item
      obtain ⟨F3, fp3, st3, r3, d3⟩ : ∃ F3 fp3, Step F' fp' H' F3 fp3 H3 ∧ R X.w X.K F3 H3 σ' env' fp3 ∧ RepD X.w X.K F3 H3 x d := by
        rcases yl x H3 y with ⟨rfl, d3⟩ | ⟨a, xs, ps, rfl, n, rfl, rfl, rs⟩
        · exact ⟨F', fp', .refl, r', d3⟩
        · obtain ⟨st, r2, k2⟩ := r'.newF (o := .tup xs) n
          exact ⟨_, fp', st, r2, .tuple (.inl ⟨.inr rfl, .inl upd_same⟩) (rs.mono k2)⟩
      have k3 : Kp F1 H1 F3 H3 := k.trans (st3.kpr r')
      split at p
      · rename_i e2 he
        refine ⟨F3, fp3, env', d, e2, r3, d3, he, fun σ4 fp4 s4 r4 m4 => ?_⟩
        have p4 := (p.step st3 .refl).step (.sub2 .refl fun a h => .inl (s4 a h)) m4
        refine ⟨F3, fp4, e2, r4, p4.bndS fun fl e5 F5 fp5 H5 σ5 s5 m5 q5 => ?_⟩
        have k5 := k3.trans (s5.kpr r4)
        cases fl with
        | nx => exact fun r5 => ⟨m' - 1, by omega, by omega, F5, fp5, e5, r5, k5, q5⟩
        | ct => exact fun r5 => ⟨m' - 1, by omega, by omega, F5, fp5, e5, r5, k5, q5⟩
        | brk => exact q5.here
        | ret w => exact q5.here
      · exact False.elim p⟩⟩

/-! ### the walked things -/
/-- list, tuple, text -/
def iOf (m : M PyData) : M (List PyData) := fun env => (m env).bind fun p e => match p with
  | .list l => .ok l e
  | .tuple l => .ok l e
  | .str x => .ok (signs x) e
  | .dict l => .ok (l.map (·.1)) e
  | _ => .bad
theorem zi_of {tg : Expr} {m : M PyData} (h : ZD X e m) : ZI X tg e (iOf m) :=
  ⟨fun U tk => ⟨fun pins s σ H Rr I ⟨F, fp, env, r, g⟩ => by
    have he := h.run U tk
    cases hm : m env with
    | bad => unfold iOf at g; rw [hm] at g; exact False.elim g
    | exc x e1 =>
      unfold iOf at g
      rw [hm] at g
      exact (pi_list he).run pins s σ H Rr I ⟨F, fp, env, r, by rw [hm]; exact g⟩
    | ok p e1 =>
      unfold iOf at g
      rw [hm] at g
      cases p with
      | list l =>
        refine (pi_list he).run pins s σ H Rr I ⟨F, fp, env, r, ?_⟩
        rw [hm]
        intro F' fp' H' st v r' d
        cases d with
        | list ht rs => exact ⟨_, rfl, ⟨_, ht.sq⟩, g F' fp' H' st r' _ (itl_ok ht rs)⟩
      | tuple l =>
        refine (pi_tup he).run pins s σ H Rr I ⟨F, fp, env, r, ?_⟩
        rw [hm]
        intro F' fp' H' st v r' d
        cases d with
        | tuple ht rs => exact ⟨_, rfl, ⟨_, ht.sq⟩, g F' fp' H' st r' _ (itt_ok ht rs)⟩
      | str x =>
        refine (pi_str he).run pins s σ H Rr I ⟨F, fp, env, r, ?_⟩
        rw [hm]
        intro F' fp' H' st v r' d
        cases d with
        | str => exact ⟨x, rfl, g F' fp' H' st r' _ its_ok⟩
      | none => exact False.elim g
      | bool b => exact False.elim g
      | int i => exact False.elim g
      | dict l =>
        refine (pi_dic he).run pins s σ H Rr I ⟨F, fp, env, r, ?_⟩
        rw [hm]
        intro F' fp' H' st v r' d
        cases d with
        | dict ht rs _ =>
          obtain ⟨⟨ep, q1⟩, q2, q3⟩ := ht
          exact ⟨_, ep, _, rfl, q3, q1, g F' fp' H' st r' _ (itd_ok _ q2 q1 rs.kds)⟩⟩⟩
/-- ranges -/
def iR1 (m : M (List PyData)) : M (List PyData) := fun env => (m env).bind fun l e => match l with
  | [.int j] => if small62 j then .ok (rangeD 0 j.toNat) e else .bad
  | _ => .bad
def iR2 (m : M (List PyData)) : M (List PyData) := fun env => (m env).bind fun l e => match l with
  | [.int i, .int j] => if small62 i && small62 j then .ok (rangeD i (j - i).toNat) e else .bad
  | _ => .bad
theorem small62_of {i : Int} (h : small62 i = true) : -(2 ^ 62) ≤ i ∧ i < 2 ^ 62 := by
  have := Nat.le_of_ble_eq_true h
  omega
theorem zi_r1 {tg a : Expr} {m : M (List PyData)} {p : Pos} (ha : ZDs X [a] m) (hg : Gl X "range") (hm : X.mg "range" = none) (hs : starEach [a] X.env = [(false, eval a X.env)] := by rfl) : ZI X tg (.Call (.Name "range" p) [a] [] pos) (iR1 m) :=
  ⟨fun U tk => (pi_range1 hg hm (ha.run U tk) hs).weak fun σ H Q ⟨F, fp, env, r, g⟩ => ⟨F, fp, env, r, g.bnd fun l e1 F1 fp1 H1 st1 g1 vs r1 o1 => by
    have o1 : RepDs X.w X.K F1 H1 vs l := o1
    split at g1
    · split at g1
      · rename_i hj
        cases o1 with
        | cons d o1 =>
          cases o1
          cases d
          exact ⟨_, rfl, (small62_of hj).1, (small62_of hj).2, g1.here r1 _ itr_ok⟩
      · exact False.elim g1
    · exact False.elim g1⟩⟩
theorem zi_r2 {tg a b : Expr} {m : M (List PyData)} {p : Pos} (ha : ZDs X [a, b] m) (hg : Gl X "range") (hm : X.mg "range" = none) (hs : starEach [a, b] X.env = [(false, eval a X.env), (false, eval b X.env)] := by rfl) (hs2 : starEach [b] X.env = [(false, eval b X.env)] := by rfl) :
    ZI X tg (.Call (.Name "range" p) [a, b] [] pos) (iR2 m) :=
  ⟨fun U tk => (pi_range2 hg hm (ha.run U tk) hs hs2).weak fun σ H Q ⟨F, fp, env, r, g⟩ => ⟨F, fp, env, r, g.bnd fun l e1 F1 fp1 H1 st1 g1 vs r1 o1 => by
    have o1 : RepDs X.w X.K F1 H1 vs l := o1
    split at g1
    · split at g1
      · rename_i hj
        rw [Bool.and_eq_true] at hj
        cases o1 with
        | cons d o1 =>
          cases o1 with
          | cons d2 o1 =>
            cases o1
            cases d
            cases d2
            exact ⟨_, _, rfl, ⟨(small62_of hj.1).1, (small62_of hj.1).2, (small62_of hj.2).1, (small62_of hj.2).2⟩, g1.here r1 _ itr_ok⟩
      · exact False.elim g1
    · exact False.elim g1⟩⟩
def iEn (m : M (List PyData)) : M (List PyData) := fun env => (m env).bind fun l e => match l with
  | [.list xs] => .ok (enumD 0 xs) e
  | _ => .bad
theorem zi_en {a : Expr} {m : M (List PyData)} {p tpos : Pos} {elts : List Expr} {kk : Nat} (ha : ZDs X [a] m) (hg : Gl X "enumerate") (hm : X.mg "enumerate" = none) (hs : starEach [a] X.env = [(false, eval a X.env)] := by rfl) :
    ZI X (.Tuple elts kk tpos) (.Call (.Name "enumerate" p) [a] [] pos) (iEn m) :=
  ⟨fun U tk => (pi_enum hg hm (ha.run U tk) hs).weak fun σ H Q ⟨F, fp, env, r, g⟩ => ⟨F, fp, env, r, g.bnd fun l e1 F1 fp1 H1 st1 g1 vs r1 o1 => by
    have o1 : RepDs X.w X.K F1 H1 vs l := o1
    split at g1
    · cases o1 with
      | cons d o1 =>
        cases o1
        cases d with
        | list ht rs => exact ⟨_, _, rfl, ht.sq, g1.here r1 _ (ite_ok ht rs)⟩
    · exact False.elim g1⟩⟩
def iZp (m : M (List PyData)) : M (List PyData) := fun env => (m env).bind fun l e => match l with
  | [.list xs, .list ys] => .ok (zipD xs ys) e
  | [.tuple xs, .tuple ys] => .ok (zipD xs ys) e
  | _ => .bad
theorem zi_zp {a b : Expr} {m : M (List PyData)} {p tpos : Pos} {elts : List Expr} {kk : Nat} (ha : ZDs X [a, b] m) (hg : Gl X "zip") (hm : X.mg "zip" = none)
    (hs : starEach [a, b] X.env = (false, eval a X.env) :: starEach [b] X.env := by rfl) (hpl : (backTo pos (starEach [b] X.env)).any (·.1) = false := by rfl) :
    ZI X (.Tuple elts kk tpos) (.Call (.Name "zip" p) [a, b] [] pos) (iZp m) :=
  ⟨fun U tk => (RZ.pi_zipA hg hm (ha.run U tk) hs hpl).weak fun σ H Q ⟨F, fp, env, r, g⟩ => ⟨F, fp, env, r, g.bnd fun l e1 F1 fp1 H1 st1 g1 vs r1 o1 => by
    have o1 : RepDs X.w X.K F1 H1 vs l := o1
    split at g1
    · cases o1 with
      | cons d o1 =>
        cases o1 with
        | cons d2 o1 =>
          cases o1
          cases d with
          | list ht rs =>
            cases d2 with
            | list ht2 rs2 =>
              rename_i a xs b ys
              exact ⟨a, b, _, _, rfl, .inl ⟨ht.sq, ht2.sq, g1.here r1 _ (zip_ok (Sq := fun H => SqL X.K H a) (Sq' := fun H => SqL X.K H b) (fun _ _ k => (ht.mono k).sq) (fun _ _ k => (ht2.mono k).sq) rs rs2 rfl)⟩⟩
    · cases o1 with
      | cons d o1 =>
        cases o1 with
        | cons d2 o1 =>
          cases o1
          cases d with
          | tuple ht rs =>
            cases d2 with
            | tuple ht2 rs2 =>
              rename_i a xs b ys
              exact ⟨a, b, _, _, rfl, .inr ⟨ht.sq, ht2.sq, g1.here r1 _ (zip_ok (Sq := fun H => SqT X.K H a) (Sq' := fun H => SqT X.K H b) (fun _ _ k => (ht.mono k).sq) (fun _ _ k => (ht2.mono k).sq) rs rs2 rfl)⟩⟩
    · exact False.elim g1⟩⟩
end
end Z

/-! Z12: a def's body keeps its promise. -/
namespace Z
open PySem PySem.Spec PyProof.Rows L2

def lentAt : List Bool → Nat → List Nat
  | [], _ => []
  | true :: r, i => i :: lentAt r (i + 1)
  | false :: r, i => lentAt r (i + 1)
/-- a def: ns slots, what is lent, the body -/
def mkFu (io : List Bool) (ns : Nat) (m : M Flow) : Fu where
  io := io
  run := fun ws => if ws.length = io.length then
      match m (ws.map some ++ List.replicate (ns - io.length) none) with
      | .ok .nx e => .ret (.f .none) (mask io e)
      | .ok (.ret w) e => .ret w (mask io e)
      | .exc x e => .exc x (mask io e)
      | _ => .bad
    else .bad
section
variable {w : World} {K : PySem.W.Frag} {F : Fz} {H : Hp}
theorem RepE.pad {σ : L2.St} {env : Env} {fp : List Addr} (h : RepE w K F H σ env fp) (n : Nat) : RepE w K F H (σ ++ List.replicate n none) (env ++ List.replicate n none) fp := by
  induction σ generalizing env fp with
  | nil =>
    cases h
    induction n with
    | zero => exact .nil
    | succ n ih => simpa [List.replicate_succ] using RepE.no (x := none) ih
  | cons x σ ih =>
    cases h with
    | no r => exact .no (ih r)
    | so a r => exact .so a (ih r)
theorem mask_nil : ∀ {io : List Bool} {τ : L2.St}, τ.length = io.length → RepE w K F H τ (mask io []) []
  | [], τ, hl => by
    have : τ = [] := List.length_eq_zero_iff.mp (by simpa using hl)
    subst this
    unfold mask
    exact .nil
  | b :: bs, [], hl => by simp at hl
  | b :: bs, t :: τ, hl => by
    unfold mask
    exact .no (mask_nil (by simpa using hl))
theorem mask_rep : ∀ {io : List Bool} {τ σ : L2.St} {env : Env} {fp : List Addr}, RepE w K F H σ env fp → τ.length = io.length → (∀ i : Nat, io[i]? = some true → σ[i]? = τ[i]?) →
    ∃ fp', fp'.Sublist fp ∧ RepE w K F H τ (mask io env) fp'
  | [], τ, σ, env, fp, r, hl, ha => by
    have : τ = [] := List.length_eq_zero_iff.mp (by simpa using hl)
    subst this
    exact ⟨[], List.nil_sublist _, by unfold mask; exact .nil⟩
  | b :: bs, τ, σ, [], fp, r, hl, ha => ⟨[], List.nil_sublist _, mask_nil hl⟩
  | b :: bs, [], σ, o :: env, fp, r, hl, ha => by simp at hl
  | b :: bs, t :: τ, σ, o :: env, fp, r, hl, ha => by
    cases r with
    | no r =>
      obtain ⟨fp', s, r'⟩ := mask_rep (io := bs) (τ := τ) r (by simpa using hl) (fun i h => by simpa using ha (i + 1) (by simpa using h))
      refine ⟨fp', s, ?_⟩
      unfold mask
      cases b <;> exact .no r'
    | so a r =>
      obtain ⟨fp', s, r'⟩ := mask_rep (io := bs) (τ := τ) r (by simpa using hl) (fun i h => by simpa using ha (i + 1) (by simpa using h))
      unfold mask
      cases b with
      | false => exact ⟨fp', s.trans (List.sublist_append_right _ _), .no r'⟩
      | true =>
        have z := ha 0 rfl
        simp at z
        subst z
        exact ⟨_, s.append_left _, .so a r'⟩
end
theorem lentAt_mem : ∀ {io : List Bool} {k i : Nat}, io[i]? = some true → k + i ∈ lentAt io k
  | b :: bs, k, 0, h => by simp at h; subst h; simp [lentAt]
  | b :: bs, k, i + 1, h => by
    have := lentAt_mem (io := bs) (k := k + 1) (i := i) (by simpa using h)
    have e : k + 1 + i = k + (i + 1) := by omega
    rw [e] at this
    cases b <;> simp [lentAt, this]
theorem body_z {P : Program} {w : World} {K : PySem.W.Frag} {mg : Str → Option Value} {base : Heap} {f : Addr} {qual : Str} {body : List Stmt} {scope : Scope} {cdv : Value} {N ps : List Str} {io : List Bool} {m : M Flow} {A : Around} {outer : List PySem.Env} {s : Shared} {H : Hp} {E : XK} {vs : List V} {Q : VK}
    (S : FnScope N ps scope) (hio : io.length = ps.length) (hb : ZSs (cxOf (L2.CX P w) P w K mg base N qual scope f cdv A outer s H E) (lentAt io 0) body m) (hsp : spZ w K mg (mkFu io N.length m) vs H Q E) :
    ∃ t, PSs (cxOf (L2.CX P w) P w K mg base N qual scope f cdv A outer s H E) body t ∧ t { nx := fun _ H' => Q .non H', rt := Q } (L2.start N vs) H := by
  obtain ⟨hl, F, ws, fp, r, hm⟩ := hsp
  have hN : io.length ≤ N.length := by
    have := congrArg List.length S.pre
    rw [List.length_take] at this
    omega
  have hl : vs.length = io.length := hl
  have hws : ws.length = io.length := by
    have := r.rep.len
    simp only [List.length_map] at this
    omega
  refine ⟨_, hb.run _ (takes_of rfl rfl rfl rfl), F, fp, ws.map some ++ List.replicate (N.length - io.length) none, ?_, ?_⟩
  · refine ⟨r.good, ?_, r.nd, r.dj⟩
    show RepE w K F H (vs.map some ++ List.replicate (N.length - vs.length) none) _ fp
    rw [hl]
    exact r.rep.pad _
  -- what is lent is at its name
  have agree : ∀ σ', Sm (lentAt io 0) (L2.start N vs) σ' → ∀ i : Nat, io[i]? = some true → σ'[i]? = (vs.map some)[i]? := fun σ' sm i hi => by
    have h1 := lentAt_mem (k := 0) hi
    rw [Nat.zero_add] at h1
    rw [sm i h1]
    unfold L2.start
    have : i < io.length := (List.getElem?_eq_some_iff.mp hi).1
    rw [List.getElem?_append_left (by simp; omega)]
  have fin : ∀ F' H' σ' e fp', R w K F' H' σ' e fp' → Sm (lentAt io 0) (L2.start N vs) σ' → ∃ fp2, fp2.Sublist fp' ∧ R w K F' H' (vs.map some) (mask io e) fp2 := fun F' H' σ' e fp' r' sm => by
    obtain ⟨fp2, s2, rr⟩ := mask_rep (τ := vs.map some) r'.rep (by simpa using hl) (agree σ' sm)
    exact ⟨fp2, s2, r'.sub rr s2⟩
  unfold mkFu at hm
  dsimp only at hm
  rw [if_pos hws] at hm
  split at hm
  · rename_i x out heq
    cases he : m (ws.map some ++ List.replicate (N.length - io.length) none) with
    | bad => rw [he] at heq; cases heq
    | exc x e => rw [he] at heq; cases heq
    | ok fl e =>
      rw [he] at heq
      cases fl with
      | nx =>
        cases heq
        intro F' fp' H' σ' st sm r'
        obtain ⟨fp2, s2, r2⟩ := fin _ _ _ _ _ r' sm
        exact hm F' fp2 H' [] .non (st.sub fun a h => s2.subset (by simpa using h)) r2 (.f .none r2.nd)
      | brk => cases heq
      | ct => cases heq
      | ret wv =>
        cases heq
        intro F' fp' H' σ' st sm v q fp3 hq r' o
        obtain ⟨fp2, s2, r2⟩ := fin _ _ _ _ _ r' sm
        subst hq
        refine hm F' fp2 H' q v (st.sub fun a h => ?_) r2 ⟨o.rep, ?_, o.dj⟩
        · rcases List.mem_append.mp h with z | z
          · simp [z]
          · simp [s2.subset z]
        · exact o.nd.sublist (s2.append_left _)
  · rename_i x out heq
    cases he : m (ws.map some ++ List.replicate (N.length - io.length) none) with
    | bad => rw [he] at heq; cases heq
    | exc x e =>
      rw [he] at heq
      cases heq
      intro F' fp' H' σ' cls d st sm r' ex
      obtain ⟨fp2, s2, r2⟩ := fin _ _ _ _ _ r' sm
      exact hm F' fp2 H' cls d (st.sub fun a h => s2.subset h) r2 ex
    | ok fl e =>
      rw [he] at heq
      cases fl <;> cases heq
  · exact hm.elim

theorem z_fn {P : Program} {w : World} {K : PySem.W.Frag} {mg : Str → Option Value} {base : Heap} {k : Nat} {f : Addr} {name qual : Str} {params : Arguments} {body : List Stmt} {scope : Scope} {dV kV doc pm cdv ct oc : Value} {an od : Option Addr}
    {osl : Array (Option Value)} {N ps : List Str} {io : List Bool} {m : M Flow} (lk : K.lookup f = some ⟨oc, od, .func (PySem.W.fnOf name qual params body scope dV kV doc pm an cdv ct), osl⟩) (hcd : PySem.W.codeIn K cdv qual = true) (S : FnScope N ps scope) (hio : io.length = ps.length)
    (hb : ∀ (A : Around) (outer : List PySem.Env) (s : Shared) (H : Hp) (E : XK), Room k (A.deeper (envOfC qual scope s.heap.objs.size f cdv)) → A.guards = some [] →
      ZSs (cxOf (L2.CX P w) P w K mg base N qual scope f cdv A outer s H E) (lentAt io 0) body m) :
    FnZ P w K mg base (k + 1) f (PySem.W.fnOf name qual params body scope dV kV doc pm an cdv ct) ps (mkFu io N.length m) := by
  refine ⟨hio, fun A fr s H args us vs Q E hr hgd e0 bnd rv hsp => ?_⟩
  have big : ∀ b o, base.get? b = some o → s.heap.get? b = some o := fun b o q => (e0.bs b o q).1
  have kin : K.In s.heap := e0.mod.kin.keeps big
  have lim : s.heap.NoLimit := e0.mod.nolimit.keeps big
  have hlv : vs.length = ps.length := hsp.1.trans hio
  have kinds : ∀ y ∈ ps.zip us, scope.names.lookup y.1 = some .local ∨ (scope.names.lookup y.1 = some .cell ∧ ((cellsFrom (s.heap.objs.size + 1) scope.names []).lookup y.1).isSome = true) := by
    rintro ⟨n, v⟩ hy
    exact (S.par n (List.of_mem_zip hy).1).imp id fun c => ⟨c, PySem.W.cellsFrom_some _ _ _ (.inl c)⟩
  obtain ⟨t, ht, hq⟩ := body_z S hio (hb A fr s H E (hr.deeper _) hgd) hsp
  refine codeAny_call_function hr.depth (kin _ _ lk) rfl S.co S.gen rfl (PySem.W.codeRec_of kin hcd) (bnd _ _ _ _ (wpAny_newFunctionEnv_cells S.kind kinds fun env he s1 x => ?_))
  subst he
  refine ⟨lim.keeps x.toInCall.keep, codeAny_func (wpAny_mono (ht.run [] s1 _ H _ (inv_start S hr.hd e0 hlv rv x) hq) (fun fl t hs => ?_) fun _ _ hs => hs)⟩
  match fl, hs with
  | .ret u, ⟨v, τ, J', I', rv', q⟩ => exact ⟨v, J', I'.os, I'.bare, I'.base, I'.hok, rv', q⟩
  | .next, ⟨τ, J', I', q⟩ => exact ⟨.non, J', I'.os, I'.bare, I'.base, I'.hok, rfl, q⟩
  | .brk, ⟨_, _, _, q⟩ => exact q.elim
  | .cont, ⟨_, _, _, q⟩ => exact q.elim
end Z

/-! Z13: a law's end. -/
namespace Z
open PySem PySem.Spec PyProof.Rows L2
/-- a law's promise by values -/
def LawZ (n : Nat) (fu : Fu) : Prop := fu.io = [false] ∧ ∀ ns : List Int, ns.length ≤ n → ∃ out, fu.run [.f (.list (ns.map .int))] = .ret (.f (.bool true)) out
theorem reps_ints {w : World} {K : PySem.W.Frag} {F : Fz} {H : Hp} : ∀ ns : List Int, RepDs w K F H (ns.map V.int) (ns.map .int)
  | [] => .nil
  | n :: ns => .cons (.int n) (reps_ints ns)
theorem law_sp {w : World} {K : PySem.W.Frag} {mg : Str → Option Value} {n : Nat} {fu : Fu} (L : LawZ n fu) {H : Hp} {a : Addr} {ns : List Int} (hn : ns.length ≤ n) (h : LsF K (fun b => H b ≠ none) H a (ns.map V.int)) {E : XK} :
    spZ w K mg fu [.ref a] H (fun v _ => v = .bl true) E := by
  obtain ⟨hio, hl⟩ := L
  obtain ⟨out, e⟩ := hl ns hn
  refine ⟨by rw [hio]; rfl, fun b => H b ≠ none, [.f (.list (ns.map .int))], [], ⟨fun _ h => h, .so (fp := []) (.f (.list h (reps_ints ns))) .nil, .nil, fun _ h => by simp at h⟩, ?_⟩
  rw [e]
  intro F' fp' H' q v _ _ o
  cases o.rep with
  | f r => cases r; rfl
theorem law_end {P : Program} {w : World} {K : PySem.W.Frag} {mg mb : Str → Option Value} {k n : Nat} {fa a : Addr} {fd : FuncData} {x : Str} {fu : Fu} {s : Shared} {vs : List Value} {ns : List Int} (L : LawZ n fu)
    (kin : K.In s.heap) (gl : s.heap.Ns mainGlobals mg) (bl : s.heap.Ns builtinsNs mb) (blv : ∀ y : Str, y ≠ "__name__" → mb y = bootBuiltins y) (nl : s.heap.NoLimit) (ng : s.gens = #[])
    (obj : s.heap.get? a = some { cls := .type "list", data := .seq vs.toArray }) (iv : IntsAre vs ns) (hn : ns.length ≤ n) (hz : n ≤ sizeLine) (hr : Room k callerA)
    (Fn : ∀ base : Heap, K.In base → base.Ns mainGlobals mg → FnZ P w K mg base k fa fd [x] fu) (bd : ∀ (t : Shared) (u : Value), BindsTo t fd ⟨[u], []⟩ [(x, u)]) :
    codeAny (model P w) callerA (.call (.ref fa) ⟨[.ref a], []⟩) (fun r t => r = .ok (.ret (.bool true)) ∧ OldK s.heap t.heap ∧ t.os = s.os ∧ AllBare t.gens) s := by
  have rv := vals_ints iv
  -- one abstract heap for both places of the script
  obtain ⟨H, hH, hL, hk⟩ : ∃ H : Hp, (∀ b, H b = none ∨ (b = a ∧ H b = some (.frz { cls := .type "list", data := .seq vs.toArray } (.lst (ns.map V.int))))) ∧ LsF K (fun b => H b ≠ none) H a (ns.map V.int) ∧ (H a ≠ none → K.lookup a = none) := by
    cases q : K.lookup a with
    | some o =>
      have e := kin a o q
      rw [obj] at e
      cases e
      exact ⟨fun _ => none, fun _ => .inl rfl, .inr ⟨vs, q, by rw [iv.length]; omega, rv⟩, fun z => absurd rfl z⟩
    | none =>
      refine ⟨fun b => if b = a then some (.frz { cls := .type "list", data := .seq vs.toArray } (.lst (ns.map V.int))) else none, fun b => ?_, .inl ⟨?_, .inr ⟨_, if_pos rfl⟩⟩, fun _ => rfl⟩
      · by_cases hb : b = a
        · exact .inr ⟨hb, if_pos hb⟩
        · exact .inl (if_neg hb)
      · show (if a = a then _ else _) ≠ none
        rw [if_pos rfl]
        simp
  have hok : HOk P w H s.heap := fun b o e => by
    rcases hH b with z | ⟨rfl, z⟩
    · rw [z] at e; cases e
    · rw [z] at e
      cases e
      exact ⟨obj, by rw [List.length_map]; omega, vs, 0, rv, obj⟩
  have lay : ∀ {b : Addr} {o : Obj}, s.heap.get? b = some o → H b = none → (hidT s.heap H).get? b = some o := fun e z => hidT_get e z
  have dic : ∀ {b : Addr} {m : Str → Option Value}, s.heap.Ns b m → (hidT s.heap H).Ns b m := fun {b m} h => by
    obtain ⟨o, es, ep, e, d, r⟩ := h
    refine ⟨o, es, ep, lay e ?_, d, r⟩
    rcases hH b with z | ⟨rfl, _⟩
    · exact z
    · rw [obj] at e
      cases e
      cases d
  have kb : K.In (hidT s.heap H) := fun b o e => lay (kin b o e) (by
    rcases hH b with z | ⟨rfl, z⟩
    · exact z
    · rw [hk (by rw [z]; simp)] at e
      cases e)
  have e0 : Env0 P w K mg (hidT s.heap H) callerA [] s H := by
    refine ⟨rfl, ⟨kb, dic gl, ⟨mb, dic bl, blv⟩, ?_⟩, fun b o e => of_hidT e, Nat.le_of_eq (hidT_size _ _), trivial, fun b hb => (nomatch hb), hok, .of_eq ng⟩
    obtain ⟨mc, h1, h2⟩ := nl
    exact ⟨mc, dic h1, h2⟩
  refine codeAny_mono ((Fn _ kb (dic gl)).go callerA [] s H _ [.ref a] [.ref a] _ (fun _ _ _ => False) hr rfl e0 (bd s (.ref a)) (.cons rfl .nil) (law_sp L hn hL)) fun rr t hq => ?_
  match rr, hq with
  | .error e, ⟨_, _, _, _, _, _, _, _, _, _, _, _, hf⟩ => exact hf.elim
  | .ok (.ret u), ⟨v, H', os, ag, un, hk2, r', q⟩ =>
    subst q
    cases r'
    refine ⟨rfl, OldK.of_keep fun b o e => ?_, os, ag⟩
    rcases hH b with z | ⟨rfl, z⟩
    · exact un.keep b o e z (fun q => nomatch q) fun q => nomatch q
    · rw [obj] at e
      cases e
      exact (hk2 b _ (un.frzs b _ _ z)).1
theorem z_walk {l : PySem.W.OpenLaw} {n k : Nat} {q : Program} {loose : List Str} {XP : (Str → Option Value) → Heap → Prop} {YP : World → Heap → Prop} {d : DefRec} {K : Params → PySem.W.Frag} {x : Str} {fu : Fu} (L : LawZ n fu)
    (hn : l.most = some n) (hz : n ≤ sizeLine) (hdf : d.params.defaults = []) (hr : Room k callerA) (hY : ∀ (w : World) (h : Heap), YP w h → (K w.params).In h)
    (Fn : ∀ (w : World) (mg : Str → Option Value) (fa : Addr) (h : Heap), (K w.params).In h → h.Ns mainGlobals mg → mg d.name = some (.ref fa) →
      ∃ fd : FuncData, (∀ (s : Shared) (u : Value), BindsTo s fd ⟨[u], []⟩ [(x, u)]) ∧ ∀ base : Heap, (K w.params).In base → base.Ns mainGlobals mg → FnZ l.prog w (K w.params) mg base k fa fd [x] fu) :
    PySem.W.WalkO q loose XP YP l.row.toRowW d [] (fun f vs => PySem.call f vs) :=
  Att.attach_call hn hdf fun w s₀ s₁ mg mb fa o pm cd doc a vs ns G Y ho hd hcd hmg hobj hints hlen hg => by
    obtain ⟨fd, hb, hF⟩ := Fn w mg fa _ (hY w _ Y) G.T.g hmg
    exact law_end L (hY w _ Y) G.T.g G.T.b G.T.builtins G.T.nolimit hg hobj hints hlen hz hr hF hb
end Z

/-! Z14: built-in calls. -/
namespace Z
open PySem PySem.Spec PyProof.Rows L2

abbrev BiF := List PyData → Option W
def vBi (f : BiF) (m : M (List Op)) : M W := fun env => (m env).bind fun xs e => .of ((looks e xs).bind f) e
def rBi (X : L2.Cx) (f : BiF) : List V → Hp → VK → Prop := fun vs H Q => X.A.units + 200 < cLine ∧ X.calm = true ∧ X.A.guards = some [] ∧ ∃ F fp σ env ps z, R X.w X.K F H σ env fp ∧ RepVs X.w X.K F H vs ps ∧ f ps = some z ∧ Ans X.w X.K F fp H σ env z Q
section
variable {X : L2.Cx} {e : Expr} {es : List Expr} {x : Str} {p pos : Pos}
theorem bi_weak {f : BiF} {m : M (List Op)} {U : WX} {σ : L2.St} {H : Hp} {Q : VK} (hu : X.A.units + 200 < cLine) (hc : X.calm = true) (hgd : X.A.guards = some []) (h : zV X U (vBi f m) σ H Q) : tCB (rBi X f) (zG rOs X U m) σ H Q := by
  obtain ⟨F, fp, env, r, g⟩ := h
  refine ⟨F, fp, env, r, g.bnd fun xs e1 F1 fp1 H1 st1 g1 vs r1 o1 => ?_⟩
  have o1 : OpsR X.w X.K F1 H1 σ xs vs := o1
  obtain ⟨z, ez, g2⟩ := g1.of
  obtain ⟨ps, ep, ez⟩ := Option.bind_eq_some_iff.mp ez
  exact ⟨hu, hc, hgd, F1, fp1, σ, e1, ps, z, r1, o1.looks r1 ep, ez, g2.ans⟩
theorem z_biB {f : BiF} {id : String} {m : M (List Op)} (hu : X.A.units + 200 < cLine) (hc : X.calm = true) (hgd : X.A.guards = some []) (hr : CallR X (.builtin id) (rBi X f)) (ha : ZOs X (e :: es) m) (hg : Gl X x) (hm : X.mg x = none) (hv : bootBuiltins x = some (.builtin id))
    (hn : x ≠ "__name__" := by decide) (hdb : (x == ("__debug__" : Str)) = false := by decide) (he : starEach (e :: es) X.env = (false, eval e X.env) :: starEach es X.env := by rfl) (hpl : (backTo pos (starEach es X.env)).any (·.1) = false := by rfl) :
    ZV X (.Call (.Name x p) (e :: es) [] pos) (vBi f m) :=
  ⟨fun U tk => (pe_callB hr hg hm hv (ha.run U tk) hn hdb he hpl).weak fun σ H Q h => bi_weak hu hc hgd h⟩
theorem z_biT {f : BiF} {id : String} {m : M (List Op)} (hu : X.A.units + 200 < cLine) (hc : X.calm = true) (hgd : X.A.guards = some []) (hr : CallR X (.type id) (rBi X f)) (ha : ZOs X (e :: es) m) (hg : Gl X x) (hm : X.mg x = none) (hv : bootBuiltins x = some (.type id))
    (hn : x ≠ "__name__" := by decide) (hdb : (x == ("__debug__" : Str)) = false := by decide) (he : starEach (e :: es) X.env = (false, eval e X.env) :: starEach es X.env := by rfl) (hpl : (backTo pos (starEach es X.env)).any (·.1) = false := by rfl) :
    ZV X (.Call (.Name x p) (e :: es) [] pos) (vBi f m) :=
  ⟨fun U tk => (pe_callTy hr hg hm hv (ha.run U tk) hn hdb he hpl).weak fun σ H Q h => bi_weak hu hc hgd h⟩
end

section
variable {X : L2.Cx} {pins : List (Addr × Obj)} {σ : L2.St} {s : Shared} {H : Hp} {F : Fz} {fp : List Addr} {env : Env} {Q : VK} {w : World} {K : PySem.W.Frag}
theorem RepVs.one {vs : List V} {p : PyData} (h : RepVs w K F H vs [p]) : ∃ v, vs = [v] ∧ RepV w K F H v p := by
  cases h with
  | cons a b => cases b; exact ⟨_, rfl, a⟩
theorem RepVs.two {vs : List V} {p q : PyData} (h : RepVs w K F H vs [p, q]) : ∃ v u, vs = [v, u] ∧ RepV w K F H v p ∧ RepV w K F H u q := by
  cases h with
  | cons a b =>
    cases b with
    | cons c d => cases d; exact ⟨_, _, rfl, a, c⟩
theorem vals1 {v : V} {us : List Value} (r : Vals [v] us) : ∃ u, us = [u] ∧ RelV v u := by
  cases r with
  | cons a b => cases b; exact ⟨_, rfl, a⟩
theorem vals2 {v v' : V} {us : List Value} (r : Vals [v, v'] us) : ∃ u u', us = [u, u'] ∧ RelV v u ∧ RelV v' u' := by
  cases r with
  | cons a b =>
    cases b with
    | cons c d => cases d; exact ⟨_, _, rfl, a, c⟩
/-- the items of a list, a tuple, in the model's heap -/
theorem RepV.seq (I : L2.Inv X pins σ H s) {v : V} {p : PyData} {l : List PyData} (h : RepV X.w X.K F H v p) (e : seqOf p = some l) :
    ∃ a xs its T o n, v = .ref a ∧ RepDs X.w X.K F H xs l ∧ Vals xs its ∧ (T = "list" ∨ T = "tuple") ∧ s.heap.get? a = some o ∧ o.cls = .type T ∧ o.data = .seq its.toArray n ∧ its.length ≤ sizeLine := by
  cases p with
  | list l' =>
    cases e
    obtain ⟨a, xs, rfl, h1, d⟩ := h.list
    obtain ⟨z, its, n, rv, hl, ho⟩ := lstR I h1
    exact ⟨a, xs, its, "list", _, n, rfl, d, rv, .inl rfl, ho, rfl, rfl, by omega⟩
  | tuple l' =>
    cases e
    obtain ⟨a, xs, rfl, h1, d⟩ := h.tup
    obtain ⟨its, rv, ht, hz⟩ := I.tuple h1
    obtain ⟨o, ho, hc, n, hd⟩ := ht
    exact ⟨a, xs, its, "tuple", o, n, rfl, d, rv, .inr rfl, ho, hc, hd, by rw [← rv.length]; exact hz⟩
  | _ => cases e
theorem col_seq {A : Around} {E : Value → Shared → Prop} (I : L2.Inv X pins σ H s) {v : V} {u : Value} {p : PyData} {l : List PyData} (rv : RelV v u) (h : RepV X.w X.K F H v p) (e : seqOf p = some l) :
    wpAny (model X.prog X.w) A (collect u) (fun us t => ∃ xs, Vals xs us ∧ RepDs X.w X.K F H xs l ∧ L2.Inv X pins σ H t ∧ us.length ≤ sizeLine) E s := by
  obtain ⟨a, xs, its, T, o, n, rfl, d, rv', hT, ho, hc, hd, hz⟩ := h.seq I e
  cases rv
  exact wpAny_collect_seq a hT ho hc hd (fun h' k => ⟨xs, by simpa using rv', d, I.kept (t' := s.toks) k, by simpa using hz⟩) (by simpa using hz)
theorem paired_of {α β : Type} {P : α → β → Prop} : ∀ {l : List α} {m : List β}, l.length = m.length → (∀ (i : Nat) a b, l[i]? = some a → m[i]? = some b → P a b) → Paired P l m
  | [], [], _, _ => .nil
  | [], _ :: _, h, _ => by simp at h
  | _ :: _, [], h, _ => by simp at h
  | x :: l, y :: m, h, k => .cons (k 0 x y rfl rfl) (paired_of (by simpa using h) fun i a b ha hb => k (i + 1) a b (by simpa using ha) (by simpa using hb))
theorem col_str {A : Around} {E : Value → Shared → Prop} (hh : A.handled = none) (I : L2.Inv X pins σ H s) {u : Value} {x : Str} (rv : RelV (.str x) u) (hz : x.length ≤ sizeLine) :
    wpAny (model X.prog X.w) A (collect u) (fun us t => ∃ xs, Vals xs us ∧ RepDs X.w X.K F H xs (signs x) ∧ L2.Inv X pins σ H t ∧ us.length ≤ sizeLine) E s := by
  obtain ⟨t, rfl⟩ := rv
  refine wpAny_collect_str hh x t (fun s' acc k g d os hi => ?_) hz
  have I' : L2.Inv X pins σ H s' := by
    have := I.kept (t' := s'.toks) k
    obtain ⟨h', g', d', tk', os'⟩ := s'
    cases g
    cases d
    cases os
    exact this
  obtain ⟨hn, hi⟩ := hi
  refine ⟨x.cps.toList.map fun c => .str ⟨#[c]⟩, ?_, ?_, I', by simpa [hn, Str.length] using hz⟩
  · refine paired_of (by simp [hn]) fun i a b ha hb => ?_
    rw [List.getElem?_map] at ha
    obtain ⟨c, hc, rfl⟩ := Option.map_eq_some_iff.mp ha
    have hb' : acc[i]? = some b := by simpa using hb
    have := hi i b hb'
    obtain ⟨c', t', hc', rfl⟩ := this
    have : x.cps[i]? = some c := by simpa using hc
    rw [this] at hc'
    cases hc'
    exact ⟨t', rfl⟩
  · unfold signs
    generalize x.cps.toList = l
    induction l with
    | nil => exact .nil
    | cons c l ih => exact .cons (.str _) ih
/-- a dict's keys, one by one -/
theorem src_raw {prog : Program} {d : Addr} {es : Array DictEntry} {ep : Nat} (lo : (d == sysModules) = false) :
    PySem.W.KdlSrc prog w "dict" d d es.size (fun i v => ∃ hi : i < es.size, v = es[i].key) (fun h => h.DictRaw d es ep) where
  type := fun _ x => x.typeIs
  there := fun h ⟨o, e, _⟩ => ⟨Heap.lt_size e, Heap.lt_size e⟩
  keep := fun _ _ x k => x.at fun o e => k d (.inl rfl) o e
  notList := by decide
  notTuple := by decide
  hint := fun _ _ _ _ x q => PySem.W.kdl_hint_dict x.typeIs q
  iter := fun A s hh x => by
    have ne : d ≠ s.heap.objs.size := by
      obtain ⟨o, e, _⟩ := x
      exact Nat.ne_of_lt (Heap.lt_size e)
    obtain ⟨o, e, c, dt⟩ := id x
    exact ⟨_, _, fun E Q q => iter_keys lo e c dt q, PySem.Walks.rawKeys hh _ d ne es ep, ⟨⟨_, Heap.get?_push_size _ rfl, rfl, rfl⟩, x.at fun o e => Heap.get?_push_of_some _ e⟩⟩
theorem col_raw {prog : Program} {A : Around} {E : Value → Shared → Prop} {d : Addr} {es : Array DictEntry} {ep : Nat} {Q : List Value → Shared → Prop} (hh : A.handled = none) (lo : (d == sysModules) = false) (x : s.heap.DictRaw d es ep) (hn : es.size ≤ sizeLine)
    (h : ∀ h' tk acc, (∀ b o, s.heap.get? b = some o → h'.get? b = some o) → ItemsOf (fun i v => ∃ hi : i < es.size, v = es[i].key) acc es.size → Q acc.toList { s with heap := h', toks := tk }) :
    wpAny (model prog w) A (collect (.ref d)) Q E s := by
  have hd : d < s.heap.objs.size := by
    obtain ⟨o, e, _⟩ := x
    exact Heap.lt_size e
  have new : (s.heap.push { cls := .type "list", data := .seq ([] : List Value).toArray }).get? s.heap.objs.size = some { cls := .type "list", data := .seq #[] 0 } := Heap.get?_push_size _ rfl
  have old : ∀ b o, s.heap.get? b = some o → (s.heap.push { cls := .type "list", data := .seq ([] : List Value).toArray }).get? b = some o := fun b o e => Heap.get?_push_of_some _ e
  -- the end: the list's items are read
  have fin : ∀ h' tk acc c, (∀ b o, s.heap.get? b = some o → h'.get? b = some o) → h'.get? s.heap.objs.size = some { cls := .type "list", dict := none, data := .seq acc c, slots := #[] } → ItemsOf (fun i v => ∃ hi : i < es.size, v = es[i].key) acc es.size →
      wpAny (model prog w) A (do match Value.ref s.heap.objs.size with
        | .ref a => match (← load a).data with
          | .seq xs _ => pure xs.toList
          | _ => unsupported "internal:collect"
        | _ => unsupported "internal:collect") Q E { s with heap := h', toks := tk } := fun h' tk acc c k e i => wpAny_bind (wpAny_load e (wpAny_pure (h h' tk acc k i)))
  unfold collect
  refine wpAny_bind (wpAny_runValue (codeAny_builtin F.entry_proto_collect (by
    rw [Around.under_plainId F.plain_proto_collect _]
    show wpAny _ A.in1 (newList [] >>= fun l => again (.builtin "list.__iadd__" ⟨[l, .ref d], []⟩)) _ _ s
    refine wpAny_bind (wpAny_newObj_type (wpAny_pure ⟨plainId_quiet F.plain_list_iadd _, codeAny_builtin F.entry_list_iadd ?_⟩))
    rw [Around.under_plainId F.plain_list_iadd _]
    show wpAny _ A.in1 (Builtin.List.listExtendWith (.ref s.heap.objs.size) (.ref d) (.ref s.heap.objs.size)) _ _ _
    refine wpAny_mono (PySem.W.kdl_extend (A := A) (R := fun r t => ∃ h' tk acc c, r = .ok (.ret (.ref s.heap.objs.size)) ∧ t = { s with heap := h', toks := tk } ∧ (∀ b o, s.heap.get? b = some o → h'.get? b = some o) ∧
      h'.get? s.heap.objs.size = some { cls := .type "list", dict := none, data := .seq acc c, slots := #[] } ∧ ItemsOf (fun i v => ∃ hi : i < es.size, v = es[i].key) acc es.size) (src_raw lo) hh (x.at fun o e => old d o e) s.heap.objs.size (Nat.ne_of_gt hd) (Nat.ne_of_gt hd) (.ref s.heap.objs.size) 0 new
      (fun h' tk acc c k e i => ⟨h', tk, acc, c, rfl, rfl, fun b o q => k b o (Nat.ne_of_lt (Heap.lt_size q)) (old b o q), e, i⟩) hn) (fun f t hf => ?_) fun e t he => absurd he (by rintro ⟨_, _, _, _, q, _⟩; cases q)
    cases f with
    | done fl =>
      obtain ⟨h', tk, acc, c, e, rfl, k, e2, i⟩ := hf
      cases e
      exact fin h' tk acc c k e2 i
    | again c' =>
      refine ⟨hf.1, codeAny_mono hf.2 fun r t hr => ?_⟩
      obtain ⟨h', tk, acc, c, rfl, rfl, k, e2, i⟩ := hr
      exact fin h' tk acc c k e2 i)))
theorem RepEs.keyVals {es : List (Int × V × V)} {kvs : List (PyData × PyData)} {ds : List DictEntry} (re : RepEs w K F H es kvs) (pr : Paired EntR es ds) : Vals (es.map (·.2.1)) (ds.map (·.key)) ∧ RepDs w K F H (es.map (·.2.1)) (kvs.map (·.1)) := by
  induction es generalizing kvs ds with
  | nil => cases re; cases pr; exact ⟨.nil, .nil⟩
  | cons e es ih =>
    cases re with
    | cons a b c d r =>
      cases pr with
      | cons p q =>
        obtain ⟨i1, i2⟩ := ih r q
        exact ⟨.cons p.2.1 i1, .cons c i2⟩
theorem Paired.len {α β : Type} {P : α → β → Prop} {l : List α} {m : List β} (h : Paired P l m) : l.length = m.length := by
  induction h with
  | nil => rfl
  | cons _ _ ih => simp [ih]
theorem RepEs.len {es : List (Int × V × V)} {kvs : List (PyData × PyData)} (h : RepEs w K F H es kvs) : es.length = kvs.length := by
  induction es generalizing kvs with
  | nil => cases h; rfl
  | cons e es ih => cases h with | cons _ _ _ _ r => simp [ih r]
/-- the dict in the model's heap -/
theorem RepV.raw (I : L2.Inv X pins σ H s) {v : V} {kvs : List (PyData × PyData)} (h : RepV X.w X.K F H v (.dict kvs)) :
    ∃ a es ents ep, v = .ref a ∧ (a == sysModules) = false ∧ RepEs X.w X.K F H es kvs ∧ Paired EntR es ents.toList ∧ s.heap.DictRaw a ents ep ∧ ents.size = kvs.length := by
  obtain ⟨a, es, rfl, h1, hs, re, pw⟩ := h.dict
  obtain ⟨o, ents, ep, ho, hx, hd, pr⟩ := (h1.ok I.hok).1
  refine ⟨a, es, ents, ep, rfl, hs, re, pr, ⟨o, ho, hx, hd⟩, ?_⟩
  have := Paired.len pr
  rw [re.len] at this
  simpa using this.symm
theorem items_keys {ents : Array DictEntry} {acc : Array Value} (h : ItemsOf (fun i v => ∃ hi : i < ents.size, v = ents[i].key) acc ents.size) : acc.toList = ents.toList.map (·.key) := by
  refine List.ext_getElem? fun i => ?_
  obtain ⟨hn, hi⟩ := h
  by_cases hlt : i < acc.size
  · have e1 : acc[i]? = some acc[i] := Array.getElem?_eq_getElem hlt
    obtain ⟨h2, e2⟩ := hi i _ e1
    rw [Array.getElem?_toList, e1, List.getElem?_map, Array.getElem?_toList, Array.getElem?_eq_getElem h2, e2]
    rfl
  · rw [List.getElem?_eq_none (by simpa using hlt), List.getElem?_eq_none (by simp; omega)]
theorem col_ok {A : Around} {E : Value → Shared → Prop} (hh : A.handled = none) (I : L2.Inv X pins σ H s) {v : V} {u : Value} {p : PyData} {l : List PyData} (rv : RelV v u) (h : RepV X.w X.K F H v p) (e : colOf p = some l) :
    wpAny (model X.prog X.w) A (collect u) (fun us t => ∃ xs, Vals xs us ∧ RepDs X.w X.K F H xs l ∧ L2.Inv X pins σ H t ∧ us.length ≤ sizeLine) E s := by
  unfold colOf at e
  split at e
  · exact col_seq I rv h e
  · exact col_seq I rv h e
  · split at e
    · rename_i hz
      cases e
      obtain rfl := h.str
      exact col_str hh I rv (of_decide_eq_true hz)
    · cases e
  · split at e
    · rename_i hz
      cases e
      obtain ⟨a, es, ents, ep, rfl, hs, re, pr, raw, hn⟩ := h.raw I
      cases rv
      have hz := of_decide_eq_true hz
      obtain ⟨k1, k2⟩ := re.keyVals pr
      exact col_raw hh hs raw (by omega) fun h' tk acc k i => ⟨_, by rw [items_keys i]; exact k1, k2, I.kept k, by rw [items_keys i]; simp; omega⟩
    · cases e
  · cases e

/-! ### sorted -/
theorem eachV {vs : List V} {us : List Value} {l : List PyData} (hp : Heap) (P : Program) (ok : HOk P w H hp) (k : K.In hp) (rv : Vals vs us) (d : RepDs w K F H vs l) :
    PySem.W.EachIs (fun u b => RelV b.1 u ∧ RepD w K F H b.1 b.2) us (vs.zip l) ∧ PySem.W.EachIs (fun u b => ∃ as, Reads hp u b.2 as) us (vs.zip l) := by
  induction vs generalizing us l with
  | nil => cases rv; cases d; exact ⟨.nil, .nil⟩
  | cons v vs ih =>
    cases rv with
    | cons r1 r2 =>
      cases d with
      | cons d1 d2 =>
        obtain ⟨a, b⟩ := ih r2 d2
        exact ⟨.cons ⟨r1, d1⟩ a, .cons (d1.reads ok k r1) b⟩
theorem unEach {us : List Value} {bs : List (V × PyData)} (h : PySem.W.EachIs (fun u b => RelV b.1 u ∧ RepD w K F H b.1 b.2) us bs) : Vals (bs.map (·.1)) us ∧ RepDs w K F H (bs.map (·.1)) (bs.map (·.2)) := by
  induction h with
  | nil => exact ⟨.nil, .nil⟩
  | cons a b ih => exact ⟨.cons a.1 ih.1, .cons a.2 ih.2⟩
theorem zip_snd {vs : List V} {l : List PyData} (h : vs.length = l.length) : (vs.zip l).map (·.2) = l := by
  induction vs generalizing l with
  | nil => cases l <;> simp_all
  | cons v vs ih =>
    cases l with
    | nil => simp at h
    | cons x l => simp [ih (by simpa using h)]
theorem sort_snd (bs : List (V × PyData)) : (bs.mergeSort (PySem.W.dataLe false (·.2))).map (·.2) = sortD (bs.map (·.2)) := by
  unfold sortD
  exact List.map_mergeSort (fun a _ b _ => rfl)
theorem sortable_of {l : List PyData} (h : sortable l = true) : PySem.W.Sortable l := by
  unfold sortable at h
  rw [Bool.or_eq_true] at h
  rcases h with h | h
  · refine .inl fun d hd => ?_
    have := List.all_eq_true.mp h d hd
    split at this
    · exact ⟨_, _, rfl⟩
    · cases this
  · refine .inr fun d hd => ?_
    have := List.all_eq_true.mp h d hd
    split at this
    · cases this
    · cases this
    · rename_i h1 h2
      exact ⟨h1, h2⟩
theorem alike_of {l : List PyData} (h : allAlike l = true) : PySem.W.AllAlike l := fun d hd d' hd' => List.all_eq_true.mp (List.all_eq_true.mp h d hd) d' hd'
def bSorted : BiF
  | [p] => (colOf p).bind sorted?
  | _ => none
theorem cr_sorted : CallR X (.builtin "sorted") (rBi X bSorted) := by
  intro pins s σ H vs us Q I rv ⟨hu, hc, hgd, F, fp, σ', env, ps, z, r, d, e, an⟩
  unfold bSorted at e
  split at e
  · rename_i p
    obtain ⟨v, rfl, dv⟩ := d.one
    obtain ⟨u, rfl, ru⟩ := vals1 rv
    obtain ⟨l, el, ez⟩ := Option.bind_eq_some_iff.mp e
    unfold sorted? at ez
    split at ez
    · rename_i hs
      cases ez
      rw [Bool.and_eq_true, Bool.and_eq_true, Bool.and_eq_true] at hs
      obtain ⟨⟨⟨h1, h2⟩, h3⟩, h4⟩ := hs
      refine Calls.call_function_entry kind_sorted plain_sorted entry_sorted (args_sorted1 _) ((wpAny_bind (m := checkCount "sorted" 1 1 1) (wpAny_pure (wpAny_bind (thn (col_ok (A := X.A.in1) (I.ok.hd hc) I ru dv el) fun us t ht => ?_)))))
      obtain ⟨xs, rxs, dxs, I1, hz⟩ := ht
      refine wpAny_bind (wpAny_newList ?_ hz)
      -- the new list and what it stands over
      generalize ha : t.heap.objs.size = a
      have ho : (t.heap.push (seqObj "list" us.toArray 0)).get? a = some (seqObj "list" us.toArray 0) := by rw [← ha]; exact Heap.get?_push_size _ rfl
      have hk : ∀ b o, t.heap.get? b = some o → (t.heap.push (seqObj "list" us.toArray 0)).get? b = some o := fun b o q => Heap.get?_push_of_some _ q
      obtain ⟨e1, e2⟩ := eachV t.heap X.prog I1.hok I1.kIn rxs dxs
      have e3 : PySem.W.EachIs (fun u b => ∃ as, Reads (t.heap.push (seqObj "list" us.toArray 0)) u b.2 as ∧ a ∉ as) us (xs.zip l) := e2.mono fun u b ⟨as, q⟩ => ⟨as, PyProof.Rows.Reads.keeps hk q, fun hm => by
        obtain ⟨o, q⟩ := PyProof.On.reads_mem_get q a hm
        have := Heap.lt_size q
        rw [ha] at this
        exact Nat.lt_irrefl _ this⟩
      have hl : (xs.zip l).map (·.2) = l := zip_snd (by rw [dxs.length])
      refine wpAny_bind (wpAny_holding (PySem.W.list_sort_data (s := { t with heap := t.heap.push (seqObj "list" us.toArray 0) }) (enc := fun b : V × PyData => b.2) (n := 0) ho e1 e3 (by rw [hl]; exact alike_of h1) (by rw [hl]; exact sortable_of h2) ?_ (fun b hb => ?_) fun out hout eo => ?_))
      · have := e1.length
        omega
      · have hm := (List.of_mem_zip (show (b.1, b.2) ∈ xs.zip l from hb)).2
        have := of_decide_eq_true (List.all_eq_true.mp h3 b.2 hm)
        show X.A.units + 1 + 1 + b.2.depth < cLine
        omega
      · obtain ⟨r1, r2⟩ := unEach eo
        have hs2 := sort_snd (xs.zip l)
        rw [hl] at hs2
        rw [hs2] at r2
        obtain ⟨ep, hat⟩ := sortedHeap_at (h := t.heap.push (seqObj "list" us.toArray 0)) (out := out.toArray) ho
        have hz2 : out.length ≤ sizeLine := by
          rw [hout]
          have := e1.length
          omega
        refine wpAny_pure ⟨_, rfl, .ref a, upd H a (.lst _), I1.laid (t' := t.toks) (fun b o q => ?_) (by omega) ⟨by rw [r1.length]; exact hz2, out, ep, r1, hat⟩, rfl, ?_⟩
        · rw [sortedHeap_old (fun z => ?_) ?_]
          · exact hk b o q
          · have := Heap.lt_size q
            rw [Heap.size_push]
            exact Nat.lt_succ_of_lt this
          · have := Heap.lt_size q
            rw [z, ← ha] at this
            exact Nat.lt_irrefl _ this
        · exact an.lst r r2 a (I1.hok.fresh (by omega))
    · cases ez
  · cases e
end
end Z

/-! Z15: more built-in calls. -/
namespace Z
open PySem PySem.Spec PyProof.Rows L2
section
variable {X : L2.Cx} {pins : List (Addr × Obj)} {σ : L2.St} {s : Shared} {H : Hp} {F : Fz} {fp : List Addr} {env : Env} {Q : VK} {w : World} {K : PySem.W.Frag}
def bLen : BiF
  | [.str x] => if sizeOk x.length then some (.f (.int x.length)) else none
  | [.list l] => some (.f (.int l.length))
  | [.tuple l] => some (.f (.int l.length))
  | [.dict l] => if sizeOk l.length then some (.f (.int l.length)) else none
  | _ => none
theorem cr_len : CallR X (.builtin "len") (rBi X bLen) := by
  intro pins s σ H vs us Q I rv ⟨hu, hc, hgd, F, fp, σ', env, ps, z, r, d, e, an⟩
  unfold bLen at e
  split at e
  · rename_i x
    obtain ⟨v, rfl, dv⟩ := d.one
    obtain rfl := dv.str
    split at e
    · rename_i hz
      cases e
      exact call_len_str pins s σ H _ us Q I rv ⟨x, rfl, of_decide_eq_true hz, an.int r⟩
    · cases e
  · obtain ⟨v, rfl, dv⟩ := d.one
    obtain ⟨a, xs, rfl, h1, d1⟩ := dv.list
    cases e
    exact call_len_seq pins s σ H _ us Q I rv ⟨a, xs, rfl, .inl h1.sq, by rw [d1.length]; exact an.int r⟩
  · obtain ⟨v, rfl, dv⟩ := d.one
    obtain ⟨a, xs, rfl, h1, d1⟩ := dv.tup
    cases e
    exact call_len_seq pins s σ H _ us Q I rv ⟨a, xs, rfl, .inr h1, by rw [d1.length]; exact an.int r⟩
  · obtain ⟨v, rfl, dv⟩ := d.one
    split at e
    · rename_i l hz
      cases e
      obtain ⟨a, es, ents, ep, rfl, hs, re, pr, raw, hn⟩ := dv.raw I
      obtain ⟨u, rfl, ru⟩ := vals1 rv
      cases ru
      have hbig := line63
      have hz := of_decide_eq_true hz
      refine PyProof.Rows.call_len_slot (n := (ents.size : Int)) raw.typeIs PySem.F.slot_dict_len (fun Q' hq => PySem.call_len_raw hs raw hq) (by omega) (by omega) ⟨.int ents.size, H, I.tok _, ⟨_, rfl⟩, ?_⟩
      rw [hn]
      exact an.int r
    · cases e
  · cases e
def bList : BiF
  | [p] => (colOf p).map .lst
  | _ => none
theorem cr_list : CallR X (.type "list") (rBi X bList) := by
  intro pins s σ H vs us Q I rv ⟨hu, hc, hgd, F, fp, σ', env, ps, z, r, d, e, an⟩
  unfold bList at e
  split at e
  · rename_i p
    obtain ⟨v, rfl, dv⟩ := d.one
    obtain ⟨l, el, rfl⟩ := Option.map_eq_some_iff.mp e
    unfold colOf at el
    split at el
    · cases el
      obtain ⟨a, xs, rfl, h1, d1⟩ := dv.list
      exact call_list_of pins s σ H _ us Q I rv ⟨a, xs, rfl, .inl h1.sq, fun l n => an.lst r d1 l n⟩
    · cases el
      obtain ⟨a, xs, rfl, h1, d1⟩ := dv.tup
      exact call_list_of pins s σ H _ us Q I rv ⟨a, xs, rfl, .inr h1, fun l n => an.lst r d1 l n⟩
    · split at el
      · rename_i x hz
        cases el
        obtain rfl := dv.str
        obtain ⟨u, rfl, ru⟩ := vals1 rv
        obtain ⟨t, rfl⟩ := ru
        refine call_list_str (I.ok.hd hc) x t (fun h' tk acc c k ho hi => ?_) (of_decide_eq_true hz)
        obtain ⟨hn, hi⟩ := hi
        have hsg : RepDs X.w X.K F H (x.cps.toList.map fun c => V.str ⟨#[c]⟩) (signs x) := by
          unfold signs
          generalize x.cps.toList = l
          induction l with
          | nil => exact .nil
          | cons c l ih => exact .cons (.str _) ih
        have hv : Vals (x.cps.toList.map fun c => V.str ⟨#[c]⟩) acc.toList := paired_of (by simp [hn]) fun i a b ha hb => by
          rw [List.getElem?_map] at ha
          obtain ⟨c, hc, rfl⟩ := Option.map_eq_some_iff.mp ha
          obtain ⟨c', t', hc', rfl⟩ := hi i b (by simpa using hb)
          have : x.cps[i]? = some c := by simpa using hc
          rw [this] at hc'
          cases hc'
          exact ⟨t', rfl⟩
        have hz' : x.length ≤ sizeLine := of_decide_eq_true hz
        exact ⟨.ref _, _, I.laid (t' := tk) (o := .lst (x.cps.toList.map fun c => V.str ⟨#[c]⟩)) k (Nat.le_refl _) ⟨by simpa [Str.length] using hz', acc.toList, c, hv, by simpa using ho⟩, rfl, an.lst r hsg _ I.fresh⟩
      · cases el
    · split at el
      · rename_i l' hz
        cases el
        obtain ⟨a, es, ents, ep, rfl, hs, re, pr, raw, hn⟩ := dv.raw I
        obtain ⟨u, rfl, ru⟩ := vals1 rv
        cases ru
        have hz := of_decide_eq_true hz
        obtain ⟨k1, k2⟩ := re.keyVals pr
        refine PySem.W.kdl_call (src_raw hs) (I.ok.hd hc) raw (by omega) fun h' tk acc c k ho hi => ?_
        rw [← items_keys hi] at k1
        exact ⟨.ref _, _, I.laid (t' := tk) (o := .lst (es.map (·.2.1))) k (Nat.le_refl _) ⟨by rw [k2.length]; simpa using hz, acc.toList, c, k1, by simpa using ho⟩, rfl, an.lst r k2 _ I.fresh⟩
      · cases el
    · cases el
  · cases e
def bTup : BiF
  | [.list l] => some (.f (.tuple l))
  | [.tuple l] => some (.f (.tuple l))
  | _ => none
theorem cr_tup : CallR X (.type "tuple") (rBi X bTup) := by
  intro pins s σ H vs us Q I rv ⟨hu, hc, hgd, F, fp, σ', env, ps, z, r, d, e, an⟩
  unfold bTup at e
  split at e
  · obtain ⟨v, rfl, dv⟩ := d.one
    obtain ⟨u, rfl, ru⟩ := vals1 rv
    obtain ⟨a, xs, rfl, h1, d1⟩ := dv.list
    cases e
    exact rl_tuple pins s σ H _ u Q I ru (.inl ⟨a, xs, rfl, h1.sq, fun q n => an.tup r d1 q n⟩)
  · obtain ⟨v, rfl, dv⟩ := d.one
    obtain ⟨u, rfl, ru⟩ := vals1 rv
    have d0 := dv.d (fun _ z => by cases z) fun _ z => by cases z
    obtain ⟨a, xs, rfl, h1, d1⟩ := dv.tup
    cases e
    exact rl_tuple pins s σ H _ u Q I ru (.inr ⟨a, xs, rfl, h1, an.f r d0⟩)
  · cases e
theorem reps_of_ints {xs : List V} {ps : List PyData} {ns : List Int} (h : RepDs w K F H xs ps) (e : ints? ps = some ns) : xs = ns.map V.int := by
  induction xs generalizing ps ns with
  | nil => cases h; cases e; rfl
  | cons x xs ih =>
    cases h with
    | cons a b =>
      rename_i p ps
      cases p <;> first
        | (obtain ⟨m, hm, rfl⟩ := Option.map_eq_some_iff.mp e; cases a; rw [ih b hm]; rfl)
        | cases e
theorem reps_of_bools {xs : List V} {ps : List PyData} {ns : List Bool} (h : RepDs w K F H xs ps) (e : bools? ps = some ns) : xs = ns.map V.bl := by
  induction xs generalizing ps ns with
  | nil => cases h; cases e; rfl
  | cons x xs ih =>
    cases h with
    | cons a b =>
      rename_i p ps
      cases p <;> first
        | (obtain ⟨m, hm, rfl⟩ := Option.map_eq_some_iff.mp e; cases a; rw [ih b hm]; rfl)
        | cases e
def bSum : BiF
  | [.list l] => (ints? l).map fun ns => .f (.int ns.sum)
  | _ => none
theorem cr_sum : CallR X (.builtin "sum") (rBi X bSum) := by
  intro pins s σ H vs us Q I rv ⟨hu, hc, hgd, F, fp, σ', env, ps, z, r, d, e, an⟩
  unfold bSum at e
  split at e
  · obtain ⟨v, rfl, dv⟩ := d.one
    obtain ⟨a, xs, rfl, h1, d1⟩ := dv.list
    obtain ⟨ns, hn, rfl⟩ := Option.map_eq_some_iff.mp e
    obtain rfl := reps_of_ints d1 hn
    exact L2.cr_sum hc pins s σ H _ us Q I rv ⟨a, ns, rfl, h1.sq, an.int r⟩
  · cases e
def bAny : BiF
  | [.list l] => (bools? l).map fun ns => .f (.bool (ns.any id))
  | _ => none
def bAll : BiF
  | [.list l] => (bools? l).map fun ns => .f (.bool (ns.all id))
  | _ => none
theorem cr_any : CallR X (.builtin "any") (rBi X bAny) := by
  intro pins s σ H vs us Q I rv ⟨hu, hc, hgd, F, fp, σ', env, ps, z, r, d, e, an⟩
  unfold bAny at e
  split at e
  · obtain ⟨v, rfl, dv⟩ := d.one
    obtain ⟨a, xs, rfl, h1, d1⟩ := dv.list
    obtain ⟨ns, hn, rfl⟩ := Option.map_eq_some_iff.mp e
    obtain rfl := reps_of_bools d1 hn
    exact L2.cr_any hc pins s σ H _ us Q I rv ⟨a, ns, rfl, h1.sq, an.bool r⟩
  · cases e
theorem cr_all : CallR X (.builtin "all") (rBi X bAll) := by
  intro pins s σ H vs us Q I rv ⟨hu, hc, hgd, F, fp, σ', env, ps, z, r, d, e, an⟩
  unfold bAll at e
  split at e
  · obtain ⟨v, rfl, dv⟩ := d.one
    obtain ⟨a, xs, rfl, h1, d1⟩ := dv.list
    obtain ⟨ns, hn, rfl⟩ := Option.map_eq_some_iff.mp e
    obtain rfl := reps_of_bools d1 hn
    exact L2.cr_all hc pins s σ H _ us Q I rv ⟨a, ns, rfl, h1.sq, an.bool r⟩
  · cases e
def bMax2 : BiF
  | [.int i, .int j] => some (.f (.int (if j > i then j else i)))
  | _ => none
def bMin2 : BiF
  | [.int i, .int j] => some (.f (.int (if j < i then j else i)))
  | _ => none
def bAbs : BiF
  | [.int i] => some (.f (.int (if i < 0 then -i else i)))
  | _ => none
def bInt : BiF
  | [.int i] => some (.f (.int i))
  | [.bool b] => some (.f (.int (if b then 1 else 0)))
  | _ => none
def bStr : BiF
  | [.int i] => if log2i i < 1920 then some (.f (.str (toString i : String))) else none
  | _ => none
theorem cr_max2 : CallR X (.builtin "max") (rBi X bMax2) := by
  intro pins s σ H vs us Q I rv ⟨hu, hc, hgd, F, fp, σ', env, ps, z, r, d, e, an⟩
  unfold bMax2 at e
  split at e
  · obtain ⟨v, v', rfl, dv, dv'⟩ := d.two
    obtain rfl := dv.int
    obtain rfl := dv'.int
    cases e
    exact call_max2 hc pins s σ H _ us Q I rv ⟨_, _, rfl, an.int r⟩
  · cases e
theorem cr_min2 : CallR X (.builtin "min") (rBi X bMin2) := by
  intro pins s σ H vs us Q I rv ⟨hu, hc, hgd, F, fp, σ', env, ps, z, r, d, e, an⟩
  unfold bMin2 at e
  split at e
  · obtain ⟨v, v', rfl, dv, dv'⟩ := d.two
    obtain rfl := dv.int
    obtain rfl := dv'.int
    cases e
    exact call_min2 hc pins s σ H _ us Q I rv ⟨_, _, rfl, an.int r⟩
  · cases e
theorem cr_abs : CallR X (.builtin "abs") (rBi X bAbs) := by
  intro pins s σ H vs us Q I rv ⟨hu, hc, hgd, F, fp, σ', env, ps, z, r, d, e, an⟩
  unfold bAbs at e
  split at e
  · obtain ⟨v, rfl, dv⟩ := d.one
    obtain rfl := dv.int
    cases e
    exact call_abs pins s σ H _ us Q I rv ⟨_, rfl, an.int r⟩
  · cases e
theorem cr_int : CallR X (.type "int") (rBi X bInt) := by
  intro pins s σ H vs us Q I rv ⟨hu, hc, hgd, F, fp, σ', env, ps, z, r, d, e, an⟩
  unfold bInt at e
  split at e
  · obtain ⟨v, rfl, dv⟩ := d.one
    obtain rfl := dv.int
    cases e
    exact call_int1 pins s σ H _ us Q I rv (.inl ⟨_, rfl, an.int r⟩)
  · obtain ⟨v, rfl, dv⟩ := d.one
    obtain rfl := dv.bool
    cases e
    exact call_int1 pins s σ H _ us Q I rv (.inr ⟨_, rfl, an.int r⟩)
  · cases e
theorem cr_str : CallR X (.type "str") (rBi X bStr) := by
  intro pins s σ H vs us Q I rv ⟨hu, hc, hgd, F, fp, σ', env, ps, z, r, d, e, an⟩
  unfold bStr at e
  split at e
  · obtain ⟨v, rfl, dv⟩ := d.one
    obtain rfl := dv.int
    split at e
    · rename_i hz
      cases e
      exact call_str_int pins s σ H _ us Q I rv ⟨_, rfl, hz, an.str r⟩
    · cases e
  · cases e

/-! ### isinstance -/
def isD (t : String) (d : PyData) : Bool := match t with
  | "int" => d.isInt
  | "bool" => d.isBool
  | "str" => d.isStr
  | "list" => d.isList
  | "tuple" => d.isTuple
  | "dict" => d.isDict
  | _ => false
def tyOk (t : String) : Bool := ["int", "bool", "str", "list", "tuple", "dict"].contains t
def vIsi (t : String) (m : M Op) : M Bool := fun env => (m env).bind fun x e => .of ((look e x).map (isD t)) e
theorem isi_ok (I : L2.Inv X pins σ H s) {v : V} {u : Value} {p : PyData} (ru : RelV v u) (d : RepV X.w X.K F H v p) {t : String} (ht : tyOk t = true) {Q : VK} (q : Q (.bl (isD t p)) H) :
    wpAny (model X.prog X.w) X.A (call (.builtin "isinstance") [u, .type t]) (EP X pins σ Q) X.xe s := by
  obtain ⟨as, r⟩ := d.reads I.hok I.kIn ru
  have fin : ∀ b, b = isD t p → ∀ tk, s.toks ≤ tk → EP X pins σ Q (.bool b) { s with toks := tk } := fun b e tk _ => ⟨.bl b, H, I.tok _, rfl, e ▸ q⟩
  have hm : t ∈ ["int", "bool", "str", "list", "tuple", "dict"] := by simpa [tyOk] using ht
  simp only [List.mem_cons, List.not_mem_nil, or_false] at hm
  rcases hm with rfl | rfl | rfl | rfl | rfl | rfl
  · exact PySem.W.isinstance_int_data r (fin _ rfl)
  · exact PySem.W.isinstance_bool_data r (fin _ rfl)
  · exact PySem.W.isinstance_str_data r (fin _ rfl)
  · exact PySem.W.isinstance_list_data r (fin _ rfl)
  · exact PySem.W.isinstance_tuple_data r (fin _ rfl)
  · exact PySem.W.isinstance_dict_data r (fin _ rfl)
def rIsi (X : L2.Cx) : List V → Hp → VK → Prop := fun vs H Q => ∃ F v p t, vs = [v, .ty t] ∧ tyOk t = true ∧ RepV X.w X.K F H v p ∧ Q (.bl (isD t p)) H
theorem cr_isi : CallR X (.builtin "isinstance") (rIsi X) := by
  intro pins s σ H vs us Q I rv ⟨F, v, p, t, e, ht, d, q⟩
  subst e
  obtain ⟨u, u', rfl, r1, r2⟩ := vals2 rv
  cases r2
  exact isi_ok I r1 d ht q
theorem z_isi {a : Expr} {t : String} {y : Str} {m : M Op} {p p2 pos : Pos} (h : ZO X a m) (ht : tyOk t = true) (hg : Gl X "isinstance") (hm : X.mg "isinstance" = none) (hg2 : Gl X y) (hm2 : X.mg y = none) (hv2 : bootBuiltins y = some (.type t)) (hn2 : y ≠ "__name__" := by decide) (hd2 : (y == ("__debug__" : Str)) = false := by decide)
    (he : starEach [a, .Name y p2] X.env = (false, eval a X.env) :: starEach [.Name y p2] X.env := by rfl) (hpl : (backTo pos (starEach [.Name y p2] X.env)).any (·.1) = false := by rfl) (he2 : starEach [.Name y p2] X.env = (false, eval (.Name y p2) X.env) :: starEach [] X.env := by rfl) :
    ZB X (.Call (.Name "isinstance" p) [a, .Name y p2] [] pos) (vIsi t m) :=
  ⟨fun U tk => (pe_callB cr_isi hg hm (by rfl) (pa_cons (h.run U tk) (pa_cons (pe_bltn (v := .ty t) hg2 hm2 hv2 rfl hn2 hd2) pa_nil he2) he) (by decide) (by decide) he hpl).weak fun σ H Q ⟨F, fp, env, r, g⟩ => ⟨F, fp, env, r, g.bnd fun xo e1 F1 fp1 H1 st1 g1 x r1 o1 => by
    obtain ⟨z, ez, g2⟩ := g1.of
    obtain ⟨d, ed, rfl⟩ := Option.map_eq_some_iff.mp ez
    exact ⟨F1, x, d, t, rfl, ht, OpR.look o1 r1 ed, g2.here _ r1 rfl⟩⟩⟩
end
end Z

/-! Z16: repr. -/
namespace Z
open PySem PySem.Spec PyProof.Rows L2

mutual
/-- no less signs than repr has -/
def wt : PyData → Nat
  | .none => 5
  | .bool _ => 5
  | .int _ => 1921
  | .str x => 10 * x.length + 2
  | .list l => wtAll l + 2
  | .tuple l => wtAll l + 3
  | .dict l => wtKv l + 2
def wtAll : List PyData → Nat
  | [] => 0
  | x :: xs => wt x + 2 + wtAll xs
def wtKv : List (PyData × PyData) → Nat
  | [] => 0
  | (k, v) :: r => wt k + wt v + 4 + wtKv r
end
mutual
/-- whole numbers of few figures, signs that are some -/
def shw : PyData → Bool
  | .none | .bool _ => true
  | .int i => decide (i.natAbs.log2 < 1920)
  | .str x => x.cps.toList.all fun c => decide (c < 4294967296)
  | .list l => shwAll l
  | .tuple l => shwAll l
  | .dict l => shwKv l
def shwAll : List PyData → Bool
  | [] => true
  | x :: xs => shw x && shwAll xs
def shwKv : List (PyData × PyData) → Bool
  | [] => true
  | (k, v) :: r => shw k && shw v && shwKv r
end
mutual
def noLst : PyData → Bool
  | .list _ => false
  | .tuple l => noLsts l
  | .dict l => noLstKv l
  | _ => true
def noLsts : List PyData → Bool
  | [] => true
  | x :: xs => noLst x && noLsts xs
def noLstKv : List (PyData × PyData) → Bool
  | [] => true
  | (k, v) :: r => noLst k && noLst v && noLstKv r
end
theorem textFrom_le : ∀ (ts : List Str) (k : Nat) (acc : Str), (textFrom k acc ts).length ≤ acc.length + piled ts
  | [], k, acc => by simp [textFrom, piled]
  | t :: r, k, acc => by
    have h := textFrom_le r (k + 1) (acc ++ (if k > 0 then ", " else "" : String) ++ t)
    rw [piled_cons]
    unfold textFrom
    rw [strLen_append, strLen_append] at h
    have : ((if k > 0 then ", " else "" : String) : Str).length ≤ 2 := by split <;> decide +kernel
    omega
theorem listText_le (ts : List Str) : (listText ts).length ≤ piled ts + 2 := by
  unfold listText
  rw [strLen_append]
  have h := textFrom_le ts 0 "["
  have e1 : ((("[" : String) : Str)).length = 1 := rfl
  have e2 : ((("]" : String) : Str)).length = 1 := rfl
  omega
theorem tupleText_le (ts : List Str) : (tupleText ts).length ≤ piled ts + 3 := by
  have e3 : (((if ts.length == 1 then ",)" else ")" : String) : Str)).length ≤ 2 := by split <;> decide +kernel
  unfold tupleText
  have e1 : ((("(" : String) : Str)).length = 1 := rfl
  by_cases h : ts = []
  · subst h
    decide +kernel
  · have := join_length_add ts h
    rw [strLen_append, strLen_append]
    omega
theorem dictText_le (ts : List Str) : (dictText ts).length ≤ piled ts + 2 := by
  unfold dictText
  rw [strLen_append, strLen_append]
  have e1 : ((("{" : String) : Str)).length = 1 := rfl
  have e2 : ((("}" : String) : Str)).length = 1 := rfl
  by_cases h : ts = []
  · subst h
    have : (Str.join ", " []).length = 0 := rfl
    omega
  · have := join_length_add ts h
    omega
mutual
theorem shown_le : ∀ {p : PyData}, shw p = true → p.shown.length ≤ wt p ∧ p.showable = true
  | .none, _ => ⟨by decide +kernel, rfl⟩
  | .bool b, _ => ⟨by cases b <;> decide +kernel, rfl⟩
  | .int i, h => ⟨by
      have h' : i.natAbs.log2 < 1920 := by simpa [shw] using h
      show (Str.ofString (toString i)).length ≤ 1921
      rw [PySem.ofString_length]
      exact int_text_length_le (k := 1920) (by decide) h', by simpa [shw, PyData.showable] using h⟩
  | .str x, h => ⟨StrLaws.reprText_len x fun c hc => by
      have := List.all_eq_true.mp (show x.cps.toList.all _ = true from h) c hc
      simpa using this, rfl⟩
  | .list l, h => by
    obtain ⟨a, b⟩ := shownAll_le (l := l) (by simpa [shw] using h)
    refine ⟨?_, by simpa [PyData.showable] using b⟩
    have := listText_le (PyData.shownAll l)
    simp only [PyData.shown, wt]
    omega
  | .tuple l, h => by
    obtain ⟨a, b⟩ := shownAll_le (l := l) (by simpa [shw] using h)
    refine ⟨?_, by simpa [PyData.showable] using b⟩
    have := tupleText_le (PyData.shownAll l)
    simp only [PyData.shown, wt]
    omega
  | .dict l, h => by
    obtain ⟨a, b⟩ := shownKv_le (l := l) (by simpa [shw] using h)
    refine ⟨?_, by simpa [PyData.showable] using b⟩
    have := dictText_le (PyData.shownKv l)
    simp only [PyData.shown, wt]
    omega
theorem shownAll_le : ∀ {l : List PyData}, shwAll l = true → piled (PyData.shownAll l) ≤ wtAll l ∧ PyData.showableAll l = true
  | [], _ => ⟨by simp [PyData.shownAll, piled], rfl⟩
  | x :: xs, h => by
    have h : shw x = true ∧ shwAll xs = true := by simpa [shwAll] using h
    obtain ⟨a, b⟩ := shown_le h.1
    obtain ⟨c, d⟩ := shownAll_le h.2
    refine ⟨?_, by simp [PyData.showableAll, b, d]⟩
    simp only [PyData.shownAll, wtAll]
    rw [piled_cons]
    omega
theorem shownKv_le : ∀ {l : List (PyData × PyData)}, shwKv l = true → piled (PyData.shownKv l) ≤ wtKv l ∧ PyData.showableKv l = true
  | [], _ => ⟨by simp [PyData.shownKv, piled], rfl⟩
  | (k, v) :: r, h => by
    have h : (shw k = true ∧ shw v = true) ∧ shwKv r = true := by simpa [shwKv] using h
    obtain ⟨a, b⟩ := shown_le h.1.1
    obtain ⟨c, d⟩ := shown_le h.1.2
    obtain ⟨e, f⟩ := shownKv_le h.2
    refine ⟨?_, by simp [PyData.showableKv, b, d, f]⟩
    simp only [PyData.shownKv, wtKv]
    rw [piled_cons, strLen_append, strLen_append]
    have : (((": " : String) : Str)).length = 2 := rfl
    omega
end
section
variable {X : L2.Cx} {pins : List (Addr × Obj)} {σ : L2.St} {s : Shared} {H : Hp} {F : Fz} {fp : List Addr} {env : Env} {Q : VK} {w : World} {K : PySem.W.Frag}
mutual
theorem RepD.reads2 {P : Program} {hp : Heap} (ok : HOk P w H hp) (k : K.In hp) : ∀ {v : V} {p : PyData}, RepD w K F H v p → noLst p = true → ∀ {u : Value}, RelV v u → ∃ as, Reads hp u p as ∧ sysModules ∉ as
  | _, _, .none, _, _, r => by cases r; exact ⟨_, .none, by simp⟩
  | _, _, .bool b, _, _, r => by cases r; exact ⟨_, .bool b, by simp⟩
  | _, _, .int i, _, _, r => by obtain ⟨t, rfl⟩ := r; exact ⟨_, .int i t, by simp⟩
  | _, _, .str x, _, _, r => by obtain ⟨t, rfl⟩ := r; exact ⟨_, .str x t, by simp⟩
  | _, _, .list h rs, n, _, r => by simp [noLst] at n
  | _, _, .tuple h rs, n, _, r => by
    cases r
    rcases h with ⟨_, h⟩ | ⟨o, its, m, hk, hc, hs, hz, rv⟩
    · obtain ⟨z, its, rv, o, e, hc, m, hd⟩ := h.ok ok
      obtain ⟨as, q, q2⟩ := RepDs.reads2 ok k rs (by simpa [noLst] using n) rv
      exact ⟨_, .tuple e hc hd (by simpa using q), q2⟩
    · obtain ⟨as, q, q2⟩ := RepDs.reads2 ok k rs (by simpa [noLst] using n) rv
      exact ⟨_, .tuple (k _ o hk) hc hs q, q2⟩
  | _, _, .dict h rs _, n, _, r => by
    cases r
    obtain ⟨⟨o, ents, ep, e, hc, hd, pr⟩, _⟩ := h.1.ok ok
    obtain ⟨as, bs, q1, q2, q3, q4⟩ := RepEs.reads2 ok k rs (by simpa [noLst] using n) pr
    refine ⟨_, .dict e hc.1 hd q1 q2, ?_⟩
    have := beq_eq_false_iff_ne.mp h.2.2
    simp [q3, q4, Ne.symm this]
theorem RepDs.reads2 {P : Program} {hp : Heap} (ok : HOk P w H hp) (k : K.In hp) : ∀ {vs : List V} {ps : List PyData}, RepDs w K F H vs ps → noLsts ps = true → ∀ {us : List Value}, Vals vs us → ∃ as, ReadsAll hp us ps as ∧ sysModules ∉ as
  | _, _, .nil, _, _, r => by cases r; exact ⟨_, .nil, by simp⟩
  | _, _, .cons h rs, n, _, r => by
    cases r with
    | cons r1 r2 =>
      simp only [noLsts, Bool.and_eq_true] at n
      obtain ⟨as, q1, q2⟩ := RepD.reads2 ok k h n.1 r1
      obtain ⟨bs, q3, q4⟩ := RepDs.reads2 ok k rs n.2 r2
      exact ⟨_, .cons q1 q3, by simp [q2, q4]⟩
theorem RepEs.reads2 {P : Program} {hp : Heap} (ok : HOk P w H hp) (k : K.In hp) : ∀ {es : List (Int × V × V)} {kvs : List (PyData × PyData)}, RepEs w K F H es kvs → noLstKv kvs = true → ∀ {ds : List DictEntry}, Paired EntR es ds →
    ∃ as bs, ReadsAll hp (ds.map (·.key)) (kvs.map (·.1)) as ∧ ReadsAll hp (ds.map (·.val)) (kvs.map (·.2)) bs ∧ sysModules ∉ as ∧ sysModules ∉ bs
  | _, _, .nil, _, _, r => by cases r; exact ⟨_, _, .nil, .nil, by simp, by simp⟩
  | _, _, .cons _ _ h1 h2 rs, n, _, r => by
    cases r with
    | cons e r2 =>
      simp only [noLstKv, Bool.and_eq_true] at n
      obtain ⟨as, q1, z1⟩ := RepD.reads2 ok k h1 n.1.1 e.2.1
      obtain ⟨bs, q2, z2⟩ := RepD.reads2 ok k h2 n.1.2 e.2.2
      obtain ⟨as', bs', q3, q4, z3, z4⟩ := RepEs.reads2 ok k rs n.2 r2
      exact ⟨_, _, .cons q1 q3, .cons q2 q4, by simp [z1, z3], by simp [z2, z4]⟩
end
def reprOk (p : PyData) : Bool := shw p && decide (wt p ≤ sizeLine) && decide (p.depth ≤ 64) && (noLst p || !p.hasDict)
def bRepr : BiF
  | [p] => if reprOk p then some (.f (.str p.shown)) else none
  | _ => none
theorem RepV.reads3 {P : Program} {hp : Heap} (ok : HOk P w H hp) (k : K.In hp) {v : V} {p : PyData} (h : RepV w K F H v p) {u : Value} (r : RelV v u) (n : (noLst p || !p.hasDict) = true) : ∃ as, Reads hp u p as ∧ (p.hasDict = true → sysModules ∉ as) := by
  cases hd : p.hasDict with
  | false =>
    obtain ⟨as, q⟩ := h.reads ok k r
    exact ⟨as, q, fun z => by cases z⟩
  | true =>
    rw [hd] at n
    have n : noLst p = true := by simpa using n
    rcases h with h | ⟨a, xs, ps', rfl, rfl, h, rs⟩ | ⟨a, ep, es, kvs, rfl, rfl, h, z, rs, nn⟩
    · obtain ⟨as, q, q2⟩ := h.reads2 ok k n r
      exact ⟨as, q, fun _ => q2⟩
    · simp [noLst] at n
    · cases r
      obtain ⟨⟨o, ents, e, hc, hd, pr⟩, _⟩ := ok a _ h
      obtain ⟨as, bs, q1, q2, q3, q4⟩ := RepEs.reads2 ok k rs (by simpa [noLst] using n) pr
      refine ⟨_, .dict e hc.1 hd q1 q2, fun _ => ?_⟩
      have := beq_eq_false_iff_ne.mp z
      simp [q3, q4, Ne.symm this]
theorem cr_repr : CallR X (.builtin "repr") (rBi X bRepr) := by
  intro pins s σ H vs us Q I rv ⟨hu, hc, hgd, F, fp, σ', env, ps, z, r, d, e, an⟩
  unfold bRepr at e
  split at e
  · rename_i p
    split at e
    · rename_i hk
      cases e
      unfold reprOk at hk
      rw [Bool.and_eq_true, Bool.and_eq_true, Bool.and_eq_true, decide_eq_true_eq, decide_eq_true_eq] at hk
      obtain ⟨⟨⟨k1, k2⟩, k3⟩, k4⟩ := hk
      obtain ⟨sh1, sh2⟩ := shown_le k1
      obtain ⟨v, rfl, dv⟩ := d.one
      obtain ⟨u, rfl, ru⟩ := vals1 rv
      obtain ⟨as, rd, hs⟩ := dv.reads3 I.hok I.kIn ru k4
      have fin : ∀ tk t', EP X pins σ Q (.str p.shown t') { s with toks := tk } := fun tk t' => ⟨.str _, H, I.tok _, ⟨_, rfl⟩, an.str r⟩
      have sz : p.shown.length ≤ sizeLine := by omega
      have big : ∀ {a : Addr}, Reads s.heap (.ref a) p as → wpAny (model X.prog X.w) X.A (call (.builtin "repr") [.ref a]) (EP X pins σ Q) X.xe s := fun {a} rd =>
        repr_of_reads' rd sh2 hs hgd (by omega) (fun _ _ q => q) (fun h' u tk k => ⟨.str _, H, I.kept k, ⟨_, rfl⟩, an.str r⟩) sz
      cases rd with
      | none => exact PySem.P.repr_of_none (fin _ _)
      | bool b => exact PySem.P.repr_of_bool (by cases b <;> exact fin _ _)
      | int i t => exact PySem.P.repr_of_int (by simpa [shw] using k1) (fin _ _)
      | str x t => exact PySem.P.repr_of_str (fin _ _) sz
      | list a b c g => exact big (.list a b c g)
      | tuple a b c g => exact big (.tuple a b c g)
      | dict a b c g j => exact big (.dict a b c g j)
    · cases e
  · cases e
end
end Z

/-! Z17: containers at names are changed. -/
namespace Z
open PySem PySem.Spec PyProof.Rows L2
/-- x.append(e) -/
def vApp (i : Nat) (m : M PyData) : M W := fun env => match env[i]? with
  | some (some (.lst _)) => (m env).bind fun p e => match e[i]? with
    | some (some (.lst l)) => if l.length < sizeLine then .ok (.f .none) (e.set i (some (.lst (l ++ [p])))) else .bad
    | _ => .bad
  | _ => .bad
/-- x.pop() -/
def vPop (i : Nat) : M W := fun env => match env[i]? with
  | some (some (.lst l)) => match l.getLast? with
    | some p => .ok (.f p) (env.set i (some (.lst l.dropLast)))
    | none => .bad
  | _ => .bad
/-- x[k] = v -/
def sPut (i : Nat) (k : M Op) (m : M PyData) : M Flow := fun env => (m env).bind fun p e => match e[i]? with
  | some (some _) => (k e).bind fun y e => match e[i]? with
    | some (some w) => match (look e y).bind fun q => putAt w q p with
      | some w' => .ok .nx (e.set i (some w'))
      | none => .bad
    | _ => .bad
  | _ => .bad
/-- n += e, n -= e -/
def sAdd (i : Nat) (m : M Op) : M Flow := fun env => match peek env i with
  | some (.int a) => (m env).bind fun y e => match look e y with
    | some (.int b) => if i < e.length then .ok .nx (e.set i (some (.f (.int (a + b))))) else .bad
    | _ => .bad
  | _ => .bad
def sSub (i : Nat) (m : M Op) : M Flow := fun env => match peek env i with
  | some (.int a) => (m env).bind fun y e => match look e y with
    | some (.int b) => if i < e.length then .ok .nx (e.set i (some (.f (.int (a - b))))) else .bad
    | _ => .bad
  | _ => .bad
section
variable {X : L2.Cx} {fx : List Nat} {e a : Expr} {es : List Expr} {x : Str} {i : Nat} {px pos apos cpos : Pos}
theorem RepW.lstI {w : World} {K : PySem.W.Frag} {F : Fz} {H : Hp} {v : V} {l : List PyData} {q : List Addr} (h : RepW w K F H v (.lst l) q) : ∃ a xs, v = .ref a ∧ q = [a] ∧ H a = some (.lst xs) ∧ RepDs w K F H xs l := by
  cases h with
  | lst h r => exact ⟨_, _, rfl, rfl, h, r⟩
theorem own_at {w : World} {K : PySem.W.Frag} {F : Fz} {H : Hp} {σ : L2.St} {env : Env} {fp : List Addr} {l : List PyData} (r : R w K F H σ env fp) (e : env[i]? = some (some (.lst l))) :
    ∃ a xs, σ[i]? = some (some (.ref a)) ∧ H a = some (.lst xs) ∧ RepDs w K F H xs l ∧ (∀ ys l', RepDs w K F (upd H a (.lst ys)) ys l' → Step F fp H F fp (upd H a (.lst ys)) ∧ R w K F (upd H a (.lst ys)) σ (env.set i (some (.lst l'))) fp ∧ Kp F H F (upd H a (.lst ys))) ∧ a ∈ fp := by
  obtain ⟨v, q, l0, rr, e1, e2, rw', h⟩ := r.write e
  obtain ⟨a, xs, rfl, rfl, ha, d⟩ := rw'.lstI
  exact ⟨a, xs, e2, ha, d, fun ys l' d' => h a _ _ rfl (.lst upd_same d'), by rw [e1]; simp⟩
theorem R.kpU {w : World} {K : PySem.W.Frag} {F : Fz} {H : Hp} {σ : L2.St} {env : Env} {fp : List Addr} (r : R w K F H σ env fp) {a : Addr} {o : HO} (h : a ∈ fp) : Kp F H F (upd H a o) := ⟨fun _ h => h, fun b u f q => by
  have nb : b ≠ a := fun z => by subst z; exact r.dj b h f
  unfold Rd at q ⊢
  rw [upd_ne nb]
  exact q⟩
theorem z_app {m : M PyData} (h : ZD X e m) (hN : X.N[i]? = some x) (hv : Vis X.env.scope x) (hd : (x == ("__debug__" : Str)) = false := by decide) (hcd : (x == ("__classdict__" : Str)) = false := by decide)
    (hbase : attributeBase (.Name x px) "append" X.env (eval (.Name x px) X.env) = eval (.Name x px) X.env := by rfl)
    (hfew : ((backTo cpos (starEach [e] X.env)).all (fun x => !x.1) && (backToKw cpos (keywordEach [] X.env)).all (fun x => x.1.isSome) && decide ([e].length + ([] : List Keyword).length + (if ([] : List Keyword).isEmpty then 0 else 1) < 30)) = true := by rfl)
    (hline : (apos.endLine == cpos.line) = true := by rfl) (hs : starEach [e] X.env = (false, eval e X.env) :: starEach [] X.env := by rfl) (hplain : (backTo cpos (starEach [] X.env)).any (·.1) = false := by rfl) :
    ZV X (.Call (.Attribute (.Name x px) "append" apos) [e] [] cpos) (vApp i m) :=
  ⟨fun U tk => (pe_bm PySem.F.plainAttrs_list PySem.F.slot_list_append (by first | rfl | exact PySem.F.type_list_append) mt_append (pe_var hN hv hd hcd) (pa_cons (h.run U tk) pa_nil hs) hbase hfew hline hs hplain).weak fun σ H Q ⟨F, fp, env, r, g⟩ => by
    unfold vApp at g
    split at g
    · rename_i l0 e0
      obtain ⟨a, xs0, ev, h0, _⟩ := own_at r e0
      refine ⟨_, ev, .inl ⟨rfl, xs0, .inl (.inl h0)⟩, F, fp, env, r, g.bnd fun p e1 F1 fp1 H1 st1 g1 y r1 d1 => ?_⟩
      split at g1
      · rename_i l e2
        split at g1
        · rename_i hz
          obtain ⟨a', xs, ev', ha, dx, wr, hm⟩ := own_at r1 e2
          rw [ev] at ev'
          cases ev'
          have d1 : RepD X.w X.K F1 H1 y p := d1
          have k := r1.kpU (o := .lst (xs ++ [y])) hm
          obtain ⟨st2, r2, k2⟩ := wr (xs ++ [y]) (l ++ [p]) ((dx.mono k).append (.cons (d1.mono k) .nil))
          exact ⟨a, xs, y, rfl, rfl, ha, by rw [dx.length]; exact hz, g1 F1 fp1 _ st2 fp1 .non [] rfl r2 (.f .none r2.nd)⟩
        · exact False.elim g1
      · exact False.elim g1
    · exact False.elim g⟩
theorem z_pop {m : M PyData} (hN : X.N[i]? = some x) (hv : Vis X.env.scope x) (hd : (x == ("__debug__" : Str)) = false := by decide) (hcd : (x == ("__classdict__" : Str)) = false := by decide)
    (hbase : attributeBase (.Name x px) "pop" X.env (eval (.Name x px) X.env) = eval (.Name x px) X.env := by rfl) (hline : (apos.endLine == cpos.line) = true := by rfl) :
    ZV X (.Call (.Attribute (.Name x px) "pop" apos) [] [] cpos) (vPop i) :=
  ⟨fun U tk => (pe_bm0 PySem.F.plainAttrs_list PySem.F.slot_list_pop (by first | rfl | exact PySem.F.type_list_pop) mt_pop (pe_var hN hv hd hcd) hbase hline).weak fun σ H Q ⟨F, fp, env, r, g⟩ => by
    unfold vPop at g
    split at g
    · rename_i l e0
      obtain ⟨a, xs, ev, ha, dx, wr, hm⟩ := own_at r e0
      split at g
      · rename_i p hp
        have hp' : l[l.length - 1]? = some p := by rw [← List.getLast?_eq_getElem?]; exact hp
        obtain ⟨v, hv', dv⟩ := dx.get hp'
        have k := r.kpU (o := .lst xs.dropLast) hm
        have dd : RepDs X.w X.K F (upd H a (.lst xs.dropLast)) xs.dropLast l.dropLast := by
          rw [List.dropLast_eq_take, List.dropLast_eq_take, dx.length]
          exact (dx.mono (by rw [List.dropLast_eq_take, dx.length] at k; exact k)).take _
        obtain ⟨st2, r2, k2⟩ := wr _ _ dd
        exact ⟨_, ev, .inl ⟨rfl, xs, .inl (.inl ha)⟩, a, xs, v, rfl, rfl, ha, by rw [dx.length]; exact hv', g F fp _ st2 fp v [] rfl r2 (.f (dv.mono k2) r2.nd)⟩
      · exact False.elim g
    · exact False.elim g⟩

/-! ### x[k] = v -/
def rSetZ (X : L2.Cx) : TSet := fun o y v H Q => X.A.units + 200 < cLine ∧ ∃ F fp σ env i w q p z, R X.w X.K F H σ env fp ∧ env[i]? = some (some w) ∧ σ[i]? = some (some o) ∧ RepV X.w X.K F H y q ∧ RepD X.w X.K F H v p ∧ putAt w q p = some z ∧
  ∀ H', Step F fp H F fp H' → R X.w X.K F H' σ (env.set i (some z)) fp → Q H'
theorem set_Z : PSet X (rSetZ X) := by
  intro pins s σ H o y v ov yv u Q I ro ry rv ⟨hu, F, fp, σ', env, j, w, q, p, z, r, ej, eo, dy, dv, ez, k⟩
  unfold putAt at ez
  split at ez
  · rename_i l ii
    obtain rfl := dy.int
    obtain ⟨n, hn, rfl⟩ := Option.map_eq_some_iff.mp ez
    obtain ⟨a, xs, ev, ha, dx, wr, hm⟩ := own_at r ej
    rw [eo] at ev
    cases ev
    have k1 := r.kpU (o := .lst (xs.set n v)) hm
    obtain ⟨st2, r2, k2⟩ := wr (xs.set n v) _ ((dx.mono k1).set (dv.mono k1) n)
    exact set_list pins s σ H _ _ _ ov yv u Q I ro ry rv ⟨a, xs, ii, n, rfl, rfl, ha, by rw [dx.length]; exact ix_ixN hn, k _ st2 r2⟩
  · rename_i kvs
    split at ez
    · rename_i hc
      cases ez
      rw [Bool.and_eq_true, decide_eq_true_eq] at hc
      obtain ⟨v0, q0, l0, rr, e1, e2, rw', hw⟩ := r.write ej
      rw [eo] at e2
      cases e2
      cases rw' with
      | dct hd z re pw =>
        rename_i a ep es
        cases ro
        have hm : a ∈ fp := by rw [e1]; simp
        have dk : RepD X.w X.K F H y q := dy.d (fun l z => by subst z; cases hc.1) fun l z => by subst z; cases hc.1
        refine setItemD I hd re pw dk hc.1 ry rv (by omega) (by omega) fun ep' => ?_
        have k1 := r.kpU (o := DO a ep' (putE es (kix kvs q) ((nk q).hash X.w) y v)) hm
        obtain ⟨n1, n2⟩ := (re.mono k1).put pw (dk.mono k1) hc.1 (dv.mono k1)
        obtain ⟨st2, r2, k2⟩ := hw a _ _ rfl (.dct upd_same z n1 n2)
        exact k _ st2 r2
    · cases ez
  · cases ez
theorem R.val {w : World} {K : PySem.W.Frag} {F : Fz} {H : Hp} {σ : L2.St} {env : Env} {fp : List Addr} {x : W} (r : R w K F H σ env fp) (e : env[i]? = some (some x)) : ∃ v, σ[i]? = some (some v) := by
  obtain ⟨l, q, rr, e1, h1, _⟩ := r.rep.split e
  obtain ⟨v, e2, _⟩ := h1 x rfl
  exact ⟨v, e2⟩
theorem zs_put {m : M PyData} {k : M Op} {kE : Expr} {spos : Pos} (hu : X.A.units + 200 < cLine) (h : ZD X e m) (hk : ZO X kE k) (hN : X.N[i]? = some x) (hv : Vis X.env.scope x) (hd : (x == ("__debug__" : Str)) = false := by decide) (hcd : (x == ("__classdict__" : Str)) = false := by decide)
    (ha : ∀ v, assign (.Subscript (.Name x px) kE spos) X.env v = (do
      let ov ← holding [v] (eval (.Name x px) X.env)
      let iv ← holding [v, ov] (eval kE X.env)
      standAt spos
      holding [v, ov, iv] (setItem ov iv v)
      release [v, ov, iv] []) := by intro _; rfl)
    (hs : swapsWithSole [.Subscript (.Name x px) kE spos] e pos.line X.env = pure false := by rfl) (hw : swappedStores [.Subscript (.Name x px) kE spos] e X.env = pure none := by rfl)
    (h1 : (assignEach [.Subscript (.Name x px) kE spos] X.env).map (·.2) = [assign (.Subscript (.Name x px) kE spos) X.env] := by rfl) : ZS X fx (.Assign [.Subscript (.Name x px) kE spos] e pos) (sPut i k m) :=
  ⟨fun U tk => (ps_asg (h.run U tk) (pg_sub (pe_var hN hv hd hcd) (hk.run U tk) set_Z ha) hs hw h1).weak fun D σ H ⟨F, fp, env, r, g⟩ => ⟨F, fp, env, r, g.bnd fun p e1 F1 fp1 H1 st1 g1 v r1 d1 => by
    split at g1
    · rename_i w0 e0
      obtain ⟨vo, evo⟩ := r1.val e0
      refine ⟨vo, evo, F1, fp1, e1, r1, g1.bnd fun y e2 F2 fp2 H2 st2 g2 yv r2 o2 => ?_⟩
      split at g2
      · rename_i w e3
        split at g2
        · rename_i w' ew
          obtain ⟨q, eq, ew⟩ := Option.bind_eq_some_iff.mp ew
          have d1 : RepD X.w X.K F1 H1 v p := d1
          exact ⟨hu, F2, fp2, σ, e2, i, w, q, p, w', r2, e3, evo, OpR.look o2 r2 eq, d1.mono (st2.kpr r1), ew, fun H' st r' => g2 F2 fp2 H' σ st .refl r'⟩
        · exact False.elim g2
      · exact False.elim g2
    · exact False.elim g1⟩⟩
theorem zs_add {m : M Op} (h : ZO X e m) (hfx : fx.contains i = false) (hN : X.N.Nodup) (hi : X.N[i]? = some x) (hx : Loc X.env.scope x) (hf : X.fn x = true ∨ X.env.scope.names.lookup x = some .local := by first | exact .inl rfl | exact .inr rfl | assumption) : ZS X fx (.AugAssign (.Name x px) .Add e pos) (sAdd i m) :=
  ⟨fun U tk => (ps_aug hN hi hx (h.run U tk) iop_add hf).weak fun D σ H ⟨F, fp, env, r, g⟩ => by
    unfold sAdd at g
    split at g
    · rename_i n en
      obtain ⟨v, ev, dv⟩ := r.peek en
      obtain rfl := dv.int
      refine ⟨_, ev, F, fp, env, r, g.bnd fun y e1 F1 fp1 H1 st1 g1 yv r1 o1 => ?_⟩
      split at g1
      · rename_i b eb
        split at g1
        · rename_i hl
          obtain ⟨fp2, st2, r2⟩ := r1.store (.f (.int (n + b)) r1.nd) hl
          exact ⟨n, b, rfl, (OpR.look o1 r1 eb).int, g1 F1 fp2 H1 _ st2 (.set hfx) r2⟩
        · exact False.elim g1
      · exact False.elim g1
    · exact False.elim g⟩
theorem zs_sub {m : M Op} (h : ZO X e m) (hfx : fx.contains i = false) (hN : X.N.Nodup) (hi : X.N[i]? = some x) (hx : Loc X.env.scope x) (hf : X.fn x = true ∨ X.env.scope.names.lookup x = some .local := by first | exact .inl rfl | exact .inr rfl | assumption) : ZS X fx (.AugAssign (.Name x px) .Sub e pos) (sSub i m) :=
  ⟨fun U tk => (ps_aug hN hi hx (h.run U tk) iop_sub hf).weak fun D σ H ⟨F, fp, env, r, g⟩ => by
    unfold sSub at g
    split at g
    · rename_i n en
      obtain ⟨v, ev, dv⟩ := r.peek en
      obtain rfl := dv.int
      refine ⟨_, ev, F, fp, env, r, g.bnd fun y e1 F1 fp1 H1 st1 g1 yv r1 o1 => ?_⟩
      split at g1
      · rename_i b eb
        split at g1
        · rename_i hl
          obtain ⟨fp2, st2, r2⟩ := r1.store (.f (.int (n - b)) r1.nd) hl
          exact ⟨n, b, rfl, (OpR.look o1 r1 eb).int, g1 F1 fp2 H1 _ st2 (.set hfx) r2⟩
        · exact False.elim g1
      · exact False.elim g1
    · exact False.elim g⟩
end
end Z

/-! Z18: list comprehensions. -/
namespace Z
open PySem PySem.Spec PyProof.Rows L2
def wipeE (env : Env) : List Nat → Env
  | [] => env
  | i :: r => (wipeE env r).set i none
def frzE : List Nat → Env → Env
  | [], e => e
  | i :: r, e => frzE r (e.set i ((peek e i).map .f))
def unwE : List Nat → Env → Env → Env
  | [], _, e => e
  | i :: r, e1, e => unwE r e1 (e.set i (e1.getD i none))
def lcG (own : List Nat) (g : Bd) (tt : M Bool) (elt : M PyData) : List PyData → List PyData → Env → Res (List PyData)
  | [], acc, e => .ok acc e
  | x :: xs, acc, e => match g x (wipeE e own) with
    | none => .bad
    | some e1 => (tt e1).bind fun b e2 => if b = true then (elt e2).bind fun p e3 => if acc.length < sizeLine then lcG own g tt elt xs (acc ++ [p]) e3 else .bad else lcG own g tt elt xs acc e2
def bYes : M Bool := fun env => .ok true env
def vLc (own : List Nat) (g : Bd) (it : M (List PyData)) (tt : M Bool) (elt : M PyData) : M W := fun env => (it env).bind fun l e => match lcG own g tt elt l [] (frzE own e) with
  | .ok acc e2 => .ok (.lst acc) (unwE own (frzE own e) (wipeE e2 own))
  | _ => .bad
section
variable {w : World} {K : PySem.W.Frag} {F F' : Fz} {H H' : Hp} {σ : L2.St} {env : Env} {fp : List Addr}
theorem sub_lr {l q rr : List Addr} : (l ++ rr).Sublist (l ++ q ++ rr) := by
  rw [List.append_assoc]
  exact (List.sublist_append_right q rr).append_left l
/-- a name forgotten -/
theorem R.no (r : R w K F H σ env fp) (i : Nat) (x : Option V) : ∃ fp', fp'.Sublist fp ∧ R w K F H (σ.set i x) (env.set i none) fp' := by
  by_cases hi : i < env.length
  · obtain ⟨l, q, rr, e1, h1, h2, h3, h4, h5⟩ := r.rep.split (List.getElem?_eq_getElem hi)
    subst e1
    exact ⟨l ++ rr, sub_lr, r.sub (h4 F H .refl (fun _ _ _ h => h) x) sub_lr⟩
  · have h1 : env.set i none = env := List.set_eq_of_length_le (by omega)
    have h2 : σ.set i x = σ := List.set_eq_of_length_le (by rw [r.rep.len]; omega)
    rw [h1, h2]
    exact ⟨fp, List.Sublist.refl _, r⟩
theorem R.no' (r : R w K F H σ env fp) (i : Nat) : ∃ fp', fp'.Sublist fp ∧ R w K F H σ (env.set i none) fp' := by
  by_cases hi : i < env.length
  · obtain ⟨l, q, rr, e1, h1, h2, h3, h4, h5⟩ := r.rep.split (List.getElem?_eq_getElem hi)
    subst e1
    exact ⟨l ++ rr, sub_lr, r.sub (h5 F H .refl (fun _ _ _ h => h)) sub_lr⟩
  · have h1 : env.set i none = env := List.set_eq_of_length_le (by omega)
    rw [h1]
    exact ⟨fp, List.Sublist.refl _, r⟩
theorem wipe_ok (r : R w K F H σ env fp) : ∀ own : List Nat, ∃ fp', fp'.Sublist fp ∧ R w K F H (L2.wipe σ own) (wipeE env own) fp'
  | [] => ⟨fp, List.Sublist.refl _, r⟩
  | i :: own => by
    obtain ⟨fp1, s1, r1⟩ := wipe_ok r own
    obtain ⟨fp2, s2, r2⟩ := r1.no i none
    exact ⟨fp2, s2.trans s1, r2⟩
theorem frz_ok : ∀ {own : List Nat} {F : Fz} {fp : List Addr} {env : Env}, R w K F H σ env fp → ∃ F' fp', Step F fp H F' fp' H ∧ R w K F' H σ (frzE own env) fp'
  | [], F, fp, env, r => ⟨F, fp, .refl, r⟩
  | i :: own, F, fp, env, r => by
    unfold frzE
    cases hp : peek env i with
    | none =>
      obtain ⟨fp1, s1, r1⟩ := r.no' i
      obtain ⟨F2, fp2, st, r2⟩ := frz_ok (own := own) r1
      exact ⟨F2, fp2, (Step.sub2 .refl fun a h => .inl (s1.subset h)).trans st, r2⟩
    | some p =>
      obtain ⟨F1, fp1, v, st1, r1, _, _⟩ := r.freeze hp
      obtain ⟨F2, fp2, st, r2⟩ := frz_ok (own := own) r1
      exact ⟨F2, fp2, st1.trans st, r2⟩
/-- what stands at frozen names -/
def FrzAt (own : List Nat) (e : Env) : Prop := ∀ i ∈ own, e.getD i none = none ∨ ∃ p, e[i]? = some (some (.f p))
theorem frzE_at : ∀ {own : List Nat} {env : Env} {S : List Nat}, FrzAt S env → FrzAt (own ++ S) (frzE own env)
  | [], env, S, h => h
  | i :: own, env, S, h => by
    unfold frzE
    have h2 : FrzAt (i :: S) (env.set i ((peek env i).map .f)) := by
      intro j hj
      by_cases e : i = j
      · subst e
        by_cases hl : i < env.length
        · cases hp : peek env i with
          | none => left; simp [List.getD_eq_getElem?_getD, List.getElem?_set, hl]
          | some p => right; exact ⟨p, by simp [List.getElem?_set, hl]⟩
        · left
          simp [List.getD_eq_getElem?_getD, List.getElem?_set, hl]
      · rcases List.mem_cons.mp hj with z | z
        · exact absurd z.symm e
        · rcases h j z with q | ⟨p, q⟩
          · left; simpa [List.getD_eq_getElem?_getD, List.getElem?_set, e] using q
          · right; exact ⟨p, by simpa [List.getElem?_set, e] using q⟩
    have := frzE_at (own := own) h2
    intro j hj
    refine this j ?_
    simp only [List.mem_append, List.mem_cons] at hj ⊢
    rcases hj with (z | z) | z
    · exact .inr (.inl z)
    · exact .inl z
    · exact .inr (.inr z)
theorem wipe_get {own : List Nat} {i : Nat} (h : i ∉ own) : (L2.wipe σ own)[i]? = σ[i]? := by
  induction own with
  | nil => rfl
  | cons j own ih =>
    have : j ≠ i := fun e => h (by simp [e])
    unfold L2.wipe
    rw [List.getElem?_set_ne this]
    exact ih fun z => h (by simp [z])
theorem wipe_cons (own : List Nat) (i : Nat) : L2.wipe σ (i :: own) = (L2.wipe σ own).set i none := rfl
/-- the names come back -/
theorem unw_ok (k : Kp F H F' H') {e1 : Env} {fp1 : List Addr} (r1 : R w K F H σ e1 fp1) : ∀ {own : List Nat} {e : Env} {fp : List Addr}, own.Nodup → FrzAt own e1 → R w K F' H' (L2.wipe σ own) e fp → ∃ fp', (∀ a ∈ fp', a ∈ fp) ∧ R w K F' H' σ (unwE own e1 e) fp'
  | [], e, fp, _, _, r => ⟨fp, fun _ h => h, r⟩
  | i :: own, e, fp, nd, fz, r => by
    obtain ⟨n1, n2⟩ := List.nodup_cons.mp nd
    have fz2 : FrzAt own e1 := fun j hj => fz j (by simp [hj])
    unfold unwE
    have hget : (L2.wipe σ own)[i]? = σ[i]? := wipe_get n1
    have hback : ∀ x, σ[i]? = some x → (L2.wipe σ (i :: own)).set i x = L2.wipe σ own := fun x hx => by
      rw [wipe_cons, List.set_set]
      rw [← hget] at hx
      obtain ⟨_, e3⟩ := List.getElem?_eq_some_iff.mp hx
      rw [← e3, List.set_getElem_self]
    by_cases hi : i < σ.length
    · have hx := List.getElem?_eq_getElem hi
      rcases fz i (by simp) with q | ⟨p, q⟩
      · obtain ⟨fp2, s2, r2⟩ := r.no i σ[i]
        rw [hback _ hx] at r2
        obtain ⟨fp3, s3, r3⟩ := unw_ok k r1 n2 fz2 r2
        rw [q]
        exact ⟨fp3, fun a h => s2.subset (s3 a h), r3⟩
      · obtain ⟨l, q0, rr, ef, h1, _⟩ := r1.rep.split q
        obtain ⟨v, ev, rw'⟩ := h1 _ rfl
        cases rw' with
        | f d =>
          have hl : i < e.length := by
            have := r.rep.len
            rw [wipe_length] at this
            omega
          obtain ⟨fp2, st2, r2⟩ := r.store (.f (d.mono k) r.nd) hl
          rw [hback _ ev] at r2
          obtain ⟨fp3, s3, r3⟩ := unw_ok k r1 n2 fz2 r2
          have e0 : e1.getD i none = some (.f p) := by rw [List.getD_eq_getElem?_getD, q]; rfl
          rw [e0]
          refine ⟨fp3, fun a h => ?_, r3⟩
          rcases st2.own a (s3 a h) with z | z
          · simpa using z
          · exact absurd z (r2.rep.trk a (s3 a h))
    · have h1 : ∀ x, e.set i x = e := fun x => List.set_eq_of_length_le (by
        have := r.rep.len
        rw [wipe_length] at this
        omega)
      have h2 : L2.wipe σ (i :: own) = L2.wipe σ own := by
        rw [wipe_cons]
        exact List.set_eq_of_length_le (by rw [wipe_length]; omega)
      rw [h2] at r
      rw [h1]
      exact unw_ok k r1 n2 fz2 r
theorem wipe_same {own : List Nat} {τ : L2.St} (hl : τ.length = σ.length) (h : ∀ i, i ∉ own → τ[i]? = σ[i]?) : L2.wipe τ own = L2.wipe σ own := by
  have key : ∀ {own : List Nat} {i : Nat}, i ∈ own → i < σ.length → (L2.wipe σ own)[i]? = some none ∧ (L2.wipe τ own)[i]? = some none := fun {own i} hm hi => by
    induction own with
    | nil => simp at hm
    | cons j own ih =>
      rw [wipe_cons, wipe_cons]
      by_cases e : j = i
      · subst e
        simp [List.getElem?_set, wipe_length, hl, hi]
      · have hm : i ∈ own := by
          rcases List.mem_cons.mp hm with z | z
          · exact absurd z.symm e
          · exact z
        rw [List.getElem?_set_ne e, List.getElem?_set_ne e]
        exact ih hm
  refine List.ext_getElem? fun i => ?_
  by_cases hm : i ∈ own
  · by_cases hi : i < σ.length
    · rw [(key hm hi).1, (key hm hi).2]
    · rw [List.getElem?_eq_none (by rw [wipe_length]; omega), List.getElem?_eq_none (by rw [wipe_length]; omega)]
  · rw [wipe_get hm, wipe_get hm, h i hm]
end

/-- the slots that are not a block's own -/
def compl (n : Nat) (own : List Nat) : List Nat := (List.range n).filter fun i => !own.contains i
theorem compl_sm {n : Nat} {own : List Nat} {σ τ : L2.St} (hl : τ.length = σ.length) (hn : σ.length ≤ n) (h : Sm (compl n own) σ τ) : L2.wipe τ own = L2.wipe σ own := wipe_same hl fun i hi => by
  by_cases hlt : i < n
  · exact h i (List.mem_filter.mpr ⟨List.mem_range.mpr hlt, by simpa using hi⟩)
  · rw [List.getElem?_eq_none (by omega), List.getElem?_eq_none (by omega)]
structure ZTs (X : L2.Cx) (ifs : List Expr) (m : M Bool) : Prop where
  run : ∀ U, Takes X U → PTs X ifs (zG rB X U m)
theorem zts_nil {X : L2.Cx} : ZTs X [] bYes := ⟨fun U tk => ⟨fun pins s σ H Q I ⟨F, fp, env, r, g⟩ => pts_nil.run pins s σ H Q I (g.here _ r rfl)⟩⟩
theorem zts_one {X : L2.Cx} {c : Expr} {m : M Bool} (h : ZT X c m) : ZTs X [c] m := ⟨fun U tk => pts_one (h.run U tk)⟩

section
variable {w : World} {K : PySem.W.Frag} {F F' : Fz} {H H' : Hp} {σ : L2.St} {env : Env} {fp fp' : List Addr} {D : Addr} {o : HO}
theorem Kp.upd (h : ¬ F D) : Kp F H F (upd H D o) := ⟨fun _ h => h, fun b u f q => by
  have nb : b ≠ D := fun z => by subst z; exact h f
  unfold Rd at q ⊢
  rw [upd_ne nb]
  exact q⟩
theorem R.upd (r : R w K F H σ env fp) (h1 : D ∉ fp) (h2 : ¬ F D) : R w K F (upd H D o) σ env fp := ⟨fun b h => dom_upd (r.good b h), r.rep.mono (.upd h2) fun a ha u q => by
  rw [upd_ne (fun z => by subst z; exact h1 ha)]
  exact q, r.nd, r.dj⟩
theorem Step.upd (h : D ∈ fp) : Step F fp H F fp (upd H D o) := ⟨fun _ h => h, fun _ h => .inl h, fun _ h => .inl h, fun a u q n => by
  have nb : a ≠ D := fun z => by subst z; exact n h
  unfold Rd at q ⊢
  rw [upd_ne nb]
  exact q, fun a u q n => by
  rw [upd_ne (fun z => by subst z; exact n h)]
  exact q, fun a q => dom_upd q⟩
theorem Step.addD (st : Step F fp H F' fp' H') : Step F ([D] ++ fp) H F' ([D] ++ fp') H' := by
  refine (st.more (fp'' := [D] ++ fp) (fun a h => List.mem_append_right _ h) fun a h => ?_).sub2 fun a h => ?_
  · exact (st.own a h).imp (List.mem_append_right _) id
  · rcases List.mem_append.mp h with z | z
    · exact .inl (List.mem_append_left _ z)
    · exact (st.own a z).imp (List.mem_append_right _) id
end
theorem wipeE_len (env : Env) : ∀ own : List Nat, (wipeE env own).length = env.length
  | [] => rfl
  | i :: own => by unfold wipeE; rw [List.length_set, wipeE_len env own]

section
variable {X : L2.Cx}
abbrev noU : WX := fun _ _ _ _ => False
theorem lc_weak {own : List Nat} {g : Bd} {it : M (List PyData)} {tt : M Bool} {elt : M PyData} {U : WX} {σ : L2.St} {H : Hp} {Q : VK} (hnd : own.Nodup) (n : Nat) (hbl : BdL g) (hσ : σ.length ≤ n) (h : zV X U (vLc own g it tt elt) σ H Q) : tLc (zI X U it) (zGt X (compl n own) g) (zG rB X noU tt) (zG rD X noU elt) own σ H Q := by
  obtain ⟨F, fp, env, r, gg⟩ := h
  refine ⟨F, fp, env, r, gg.bnd fun l e1 F1 fp1 H1 st1 g1 r1 J hJ => ?_⟩
  intro D hD
  -- the whole block goes through
  cases hq : lcG own g tt elt l [] (frzE own e1) with
  | bad => rw [hq] at g1; exact False.elim g1
  | exc x e => rw [hq] at g1; exact False.elim g1
  | ok accF eF =>
    rw [hq] at g1
    obtain ⟨F2, fp2, st2, r2⟩ := frz_ok (own := own) r1
    have fz : FrzAt own (frzE own e1) := by
      have := frzE_at (own := own) (env := e1) (S := []) fun i hi => by simp at hi
      simpa using this
    obtain ⟨st3, r3, k3, nd3, dj3⟩ := r2.newO (o := .lst []) hD
    obtain ⟨fp4, s4, r4⟩ := wipe_ok r3 own
    have dfp : D ∉ fp4 := fun z => by
      have := s4.subset z
      rw [List.nodup_append] at nd3
      exact nd3.2.2 D (by simp) D this rfl
    -- at turn i
    refine ⟨fun i m' H' => i + m' = l.length ∧ ∃ F' fp' env' acc accV, R X.w X.K F' H' (L2.wipe σ own) (wipeE env' own) fp' ∧ Kp F2 (upd H1 D (.lst [])) F' H' ∧ D ∉ fp' ∧ ¬ F' D ∧ H' D = some (.lst accV) ∧ RepDs X.w X.K F' H' accV acc ∧
      Step F1 fp1 H1 F' ([D] ++ fp') H' ∧ lcG own g tt elt (l.drop i) acc env' = .ok accF eF, ⟨l.length, by omega, F2, fp4, frzE own e1, [], [], r4, .refl, dfp, dj3 D (by simp), upd_same, .nil, ?_, by rw [List.drop_zero]; exact hq⟩, ?_⟩
    · exact (st2.trans st3).sub2 fun a ha => by
        refine (st2.trans st3).own a ?_
        rcases List.mem_append.mp ha with z | z
        · exact List.mem_append_left _ z
        · exact List.mem_append_right _ (s4.subset z)
    rintro i m' H' ⟨him, F', fp', env', acc, accV, r', k', nD, nF, hDv, da, st', hlc⟩
    have jk := hJ F' H' ((st2.kpr r1).trans (k3.trans k')) i
    cases hqi : l[i]? with
    | none =>
      have hl : l.length ≤ i := List.getElem?_eq_none_iff.mp hqi
      refine .inl ⟨jk.2 hl, ?_⟩
      rw [List.drop_eq_nil_of_le hl] at hlc
      unfold lcG at hlc
      cases hlc
      obtain ⟨fp5, s5, r5⟩ := unw_ok (k3.trans k') r2 hnd fz r'
      refine g1 F' ([D] ++ fp5) H' (st'.sub2 fun a ha => ?_) fp5 (.ref D) [D] rfl r5 ⟨.lst hDv da, ?_, fun a ha => by simp at ha; subst ha; exact nF⟩
      · refine st'.own a ?_
        rcases List.mem_append.mp ha with z | z
        · exact List.mem_append_left _ z
        · exact List.mem_append_right _ (s5 a z)
      · rw [List.nodup_append]
        refine ⟨by simp, r5.nd, fun a ha b hb h => ?_⟩
        simp at ha
        subst ha h
        exact nD (s5 _ hb)
    | some d =>
      have hl : i < l.length := (List.getElem?_eq_some_iff.mp hqi).1
      obtain ⟨go, yl⟩ := jk.1 d hqi
      refine .inr ⟨go, fun H2 => ∃ m2, m2 < m' ∧ (i + 1) + m2 = l.length ∧ ∃ F' fp' env' acc accV, R X.w X.K F' H2 (L2.wipe σ own) (wipeE env' own) fp' ∧ Kp F2 (upd H1 D (.lst [])) F' H2 ∧ D ∉ fp' ∧ ¬ F' D ∧ H2 D = some (.lst accV) ∧ RepDs X.w X.K F' H2 accV acc ∧
        Step F1 fp1 H1 F' ([D] ++ fp') H2 ∧ lcG own g tt elt (l.drop (i + 1)) acc env' = .ok accF eF, fun H2 ⟨m2, a, b, c⟩ => ⟨m2, a, b, c⟩, ?_⟩
      intro x H3 y
      have hd : l.drop i = d :: l.drop (i + 1) := by
        rw [List.drop_eq_getElem_cons hl]
        have := (List.getElem?_eq_some_iff.mp hqi).2
        rw [this]
      rw [hd] at hlc
      unfold lcG at hlc
      -- the item
      obtain ⟨F3, st3', r3', d3, nF3, hD3⟩ : ∃ F3, Step F' fp' H' F3 fp' H3 ∧ R X.w X.K F3 H3 (L2.wipe σ own) (wipeE env' own) fp' ∧ RepD X.w X.K F3 H3 x d ∧ ¬ F3 D ∧ H3 D = some (.lst accV) := by
        rcases yl x H3 y with ⟨rfl, d3⟩ | ⟨a, xs, ps, rfl, nn, rfl, rfl, rs⟩
        · exact ⟨F', .refl, r', d3, nF, hDv⟩
        · obtain ⟨st, r2, k2⟩ := r'.newF (o := .tup xs) nn
          have na : D ≠ a := fun z => by rw [z, nn] at hDv; cases hDv
          refine ⟨_, st, r2, .tuple (.inl ⟨.inr rfl, .inl upd_same⟩) (rs.mono k2), fun z => ?_, by rw [upd_ne na]; exact hDv⟩
          rcases z with z | z
          · exact nF z
          · exact na z
      cases hg : g d (wipeE env' own) with
      | none => rw [hg] at hlc; cases hlc
      | some eg =>
        rw [hg] at hlc
        dsimp only at hlc
        refine ⟨F3, fp', wipeE env' own, d, eg, r3', d3, hg, fun σ4 fp5 s5 r5 m5 => ?_⟩
        have hl4 : σ4.length = (L2.wipe σ own).length := by
          rw [r5.rep.len, hbl _ _ _ hg, r3'.rep.len]
        have hw4 : L2.wipe σ4 own = L2.wipe σ own := by
          rw [compl_sm hl4 (by rw [wipe_length]; exact hσ) m5]
          exact wipe_same (wipe_length _ _) fun i hi => wipe_get hi
        refine ⟨hw4, F3, fp5, eg, r5, ?_⟩
        have nD5 : D ∉ fp5 := fun z => nD (s5 _ z)
        have st5 : Step F' fp' H' F3 fp5 H3 := st3'.sub fun a h => s5 a h
        cases ht : tt eg with
        | bad => rw [ht] at hlc; cases hlc
        | exc x e => rw [ht] at hlc; cases hlc
        | ok b e2 =>
          rw [ht] at hlc
          dsimp only [bind_ok] at hlc
          intro F6 fp6 H6 st6 b' r6 eb
          cases eb
          have nF6 : ¬ F6 D := fun z => by
            rcases st6.fr D z with q | q | q
            · exact nF3 q
            · exact nD5 q
            · rw [hD3] at q; cases q
          have nD6 : D ∉ fp6 := fun z => by
            rcases st6.own D z with q | q
            · exact nD5 q
            · rw [hD3] at q; cases q
          have hD6 : H6 D = some (.lst accV) := st6.ex D _ hD3 nD5
          have st56 : Step F' fp' H' F6 fp6 H6 := st5.trans st6
          -- a turn's end
          have fin : ∀ {F7 : Fz} {fp7 : List Addr} {H7 : Hp} {e7 : Env} {acc' : List PyData} {accV' : List V}, Step F' fp' H' F7 fp7 H7 → R X.w X.K F7 H7 σ4 e7 fp7 → D ∉ fp7 → ¬ F7 D → RepDs X.w X.K F7 H7 accV' acc' →
              lcG own g tt elt (l.drop (i + 1)) acc' e7 = .ok accF eF → ∃ m2, m2 < m' ∧ (i + 1) + m2 = l.length ∧ ∃ F' fp' env' acc accV, R X.w X.K F' (upd H7 D (.lst accV')) (L2.wipe σ own) (wipeE env' own) fp' ∧ Kp F2 (upd H1 D (.lst [])) F' (upd H7 D (.lst accV')) ∧ D ∉ fp' ∧ ¬ F' D ∧
                (upd H7 D (.lst accV')) D = some (.lst accV) ∧ RepDs X.w X.K F' (upd H7 D (.lst accV')) accV acc ∧ Step F1 fp1 H1 F' ([D] ++ fp') (upd H7 D (.lst accV')) ∧ lcG own g tt elt (l.drop (i + 1)) acc env' = .ok accF eF := by
            intro F7 fp7 H7 e7 acc' accV' s7 r7 nD7 nF7 da7 hl7
            obtain ⟨fp8, s8, r8⟩ := wipe_ok r7 own
            rw [hw4] at r8
            have nD8 : D ∉ fp8 := fun z => nD7 (s8.subset z)
            refine ⟨m' - 1, by omega, by omega, F7, fp8, e7, acc', accV', r8.upd nD8 nF7, (k'.trans (s7.kpr r')).trans (.upd nF7), nD8, nF7, upd_same, da7.mono (.upd nF7), ?_, hl7⟩
            exact (st'.trans (s7.addD.trans (.upd (by simp)))).sub fun a ha => by
              rcases List.mem_append.mp ha with z | z
              · exact List.mem_append_left _ z
              · exact List.mem_append_right _ (s8.subset z)
          cases b with
          | false =>
            simp only [Bool.false_eq_true, if_false] at hlc ⊢
            have e6 : upd H6 D (.lst accV) = H6 := by
              funext c
              unfold upd
              split
              · rename_i hc
                subst hc
                exact hD6.symm
              · rfl
            have := fin st56 r6 nD6 nF6 (da.mono (st56.kpr r')) hlc
            rw [e6] at this
            exact this
          | true =>
            simp only [if_true] at hlc ⊢
            refine ⟨F6, fp6, e2, r6, ?_⟩
            cases he : elt e2 with
            | bad => rw [he] at hlc; cases hlc
            | exc x e => rw [he] at hlc; cases hlc
            | ok p e3 =>
              rw [he] at hlc
              dsimp only [bind_ok] at hlc
              intro F7 fp7 H7 st7 yv r7 d7
              have d7 : RepD X.w X.K F7 H7 yv p := d7
              have hD7 : H7 D = some (.lst accV) := st7.ex D _ hD6 nD6
              split at hlc
              · rename_i hz
                have da7 := da.mono ((st56.trans st7).kpr r')
                refine ⟨accV, hD7, by rw [da7.length]; exact hz, fin (st56.trans st7) r7 (fun z => ?_) (fun z => ?_) (da7.append (.cons d7 .nil)) hlc⟩
                · rcases st7.own D z with q | q
                  · exact nD6 q
                  · rw [hD6] at q; cases q
                · rcases st7.fr D z with q | q | q
                  · exact nF6 q
                  · exact nD6 q
                  · rw [hD6] at q; cases q
              · cases hlc
variable {e : Expr} {fx : List Nat}
theorem z_lc {elt tg iter : Expr} {ifs : List Expr} {scope : Scope} {own : List (Str × Nat)} {pos : Pos} {g : Bd} {mi : M (List PyData)} {tt : M Bool} {me : M PyData} (hc : X.calm = true) (hN : X.N.Nodup) (hnd : (own.map (·.2)).Nodup) (hi : ZI X tg iter mi) (ok : BlkOk X.N X.env.scope scope own)
    (hg : ∀ (s : Shared) (H : Hp) (C : Addr) (cl : List (Str × Addr)) (fp : List Addr), ZG (X.blk s H scope (compEnvC scope cl C X.env) fp) (compl X.N.length (own.map (·.2))) tg g)
    (ht : ∀ (s : Shared) (H : Hp) (C : Addr) (cl : List (Str × Addr)) (fp : List Addr), ZTs (X.blk s H scope (compEnvC scope cl C X.env) fp) ifs tt)
    (he : ∀ (s : Shared) (H : Hp) (C : Addr) (cl : List (Str × Addr)) (fp : List Addr), ZD (X.blk s H scope (compEnvC scope cl C X.env) fp) elt me) (hs : ∀ x, foldedSetIterable iter X.env x = pure x := by intro _; rfl) :
    ZV X (.ListComp elt [⟨tg, iter, ifs, 0⟩] scope pos) (vLc (own.map (·.2)) g mi tt me) :=
  ⟨fun U tk => ⟨fun pins s σ H Q I h => (pe_lc hc hN (hi.run U tk) ok (fun s H C cl fp => (hg s H C cl fp).run) (fun s H C cl fp => (ht s H C cl fp).run noU takes0) (fun s H C cl fp => (he s H C cl fp).run noU takes0) hs).run pins s σ H Q I
    (lc_weak hnd X.N.length (hg s H 0 [] []).bl (by rw [I.len]; exact Nat.le_refl _) h)⟩⟩
theorem zs_setLc {i : Nat} {y : Str} {py : Pos} {elt tg iter : Expr} {ifs : List Expr} {scope : Scope} {own : List (Str × Nat)} {pos spos : Pos} {g : Bd} {mi : M (List PyData)} {tt : M Bool} {me : M PyData} (hfx : fx.contains i = false) (hc : X.calm = true) (hN : X.N.Nodup) (hy : X.N[i]? = some y) (hyl : X.env.scope.names.lookup y = some .local)
    (hsw : swapsWith (.ListComp elt [⟨tg, iter, ifs, 0⟩] scope pos) (some (.Name y py)) spos.line X.env = pure true) (hnd : (own.map (·.2)).Nodup) (hi : ZI X tg iter mi) (ok : BlkOk X.N X.env.scope scope own)
    (hg : ∀ (s : Shared) (H : Hp) (C : Addr) (cl : List (Str × Addr)) (fp : List Addr), ZG (X.blk s H scope (compEnvC scope cl C X.env) fp) (compl X.N.length (own.map (·.2))) tg g)
    (ht : ∀ (s : Shared) (H : Hp) (C : Addr) (cl : List (Str × Addr)) (fp : List Addr), ZTs (X.blk s H scope (compEnvC scope cl C X.env) fp) ifs tt)
    (he : ∀ (s : Shared) (H : Hp) (C : Addr) (cl : List (Str × Addr)) (fp : List Addr), ZD (X.blk s H scope (compEnvC scope cl C X.env) fp) elt me) (hs : ∀ x, foldedSetIterable iter X.env x = pure x := by intro _; rfl) :
    ZS X fx (.Assign [.Name y py] (.ListComp elt [⟨tg, iter, ifs, 0⟩] scope pos) spos) (sSet i (vLc (own.map (·.2)) g mi tt me)) :=
  ⟨fun U tk => ⟨fun pins s σ H D I h => (ps_setLc hc hN hy hyl hsw (hi.run U tk) ok (fun s H C cl fp => (hg s H C cl fp).run) (fun s H C cl fp => (ht s H C cl fp).run noU takes0) (fun s H C cl fp => (he s H C cl fp).run noU takes0) hs).run pins s σ H D I
    (lc_weak hnd X.N.length (hg s H 0 [] []).bl (by rw [I.len]; exact Nat.le_refl _) (set_weak hfx h))⟩⟩
end
end Z

/-! Z19: dicts that are written down. -/
namespace Z
open PySem PySem.Spec PyProof.Rows L2
abbrev KVs := List (PyData × PyData)
def kvNil : M KVs := fun env => .ok [] env
def kvCons (k v : M PyData) (r : M KVs) : M KVs := fun env => (k env).bind fun p e => (v e).bind fun q e => (r e).bind fun l e => .ok ((p, q) :: l) e
def vDct (m : M KVs) : M W := fun env => (m env).bind fun l e => if hasKeys l && decide (l.length ≤ 15) then .ok (.dct (dputs [] l)) e else .bad
def vDct0 : M W := fun env => .ok (.dct []) env
def rKV : RelT KVs (List (V × V)) := fun w K F H _ l vs => RepDs w K F H (vs.map (·.1)) (l.map (·.1)) ∧ RepDs w K F H (vs.map (·.2)) (l.map (·.2))
structure ZKs (X : L2.Cx) (ks : List (Option Expr)) (vs : List Expr) (pos : Pos) (m : M KVs) : Prop where
  run : ∀ U, Takes X U → ∀ (pins : List (Addr × Obj)) (s : Shared) (σ : L2.St) (H : Hp) (Q : List (V × V) → Hp → Prop), L2.Inv X pins σ H s → zG rKV X U m σ H Q →
    wpAny (model X.prog X.w) X.A (evalPairs (pairTrees ks vs X.env pos)) (fun us t => ∃ ps H', L2.Inv X pins σ H' t ∧ Paired (fun (p : V × V) (u : Value × Value) => RelV p.1 u.1 ∧ RelV p.2 u.2) ps us ∧ Q ps H') X.xe s
section
variable {X : L2.Cx} {k v : Expr} {ks : List (Option Expr)} {vs : List Expr} {pos : Pos}
theorem zk_nil : ZKs X [] [] pos kvNil := ⟨fun U tk pins s σ H Q I ⟨F, fp, env, r, g⟩ => pairTrees_nil_walk ⟨[], H, I, .nil, g.here [] r ⟨.nil, .nil⟩⟩⟩
theorem zk_cons {mk mv : M PyData} {m : M KVs} (hk : ZD X k mk) (hv : ZD X v mv) (h : ZKs X ks vs pos m) : ZKs X (some k :: ks) (v :: vs) pos (kvCons mk mv m) :=
  ⟨fun U tk pins s σ H Q I ⟨F, fp, env, r, g⟩ => pairTrees_cons_walk (thn ((hk.run U tk).run pins s σ H (fun kv H1 => ∃ F1 fp1 e1 p, R X.w X.K F1 H1 σ e1 fp1 ∧ RepD X.w X.K F1 H1 kv p ∧ Post X U σ F1 fp1 H1 ((mv e1).bind fun q e => (m e).bind fun l e => .ok ((p, q) :: l) e) (fun a e F' fp' H' => ∀ v, R X.w X.K F' H' σ e fp' → rKV X.w X.K F' H' σ a v → Q v H')) I
    ⟨F, fp, env, r, g.bnd fun p e1 F1 fp1 H1 st1 g1 kv r1 d1 => ⟨F1, fp1, e1, p, r1, d1, g1⟩⟩) fun u1 s1 ⟨kv, H1, I1, ru1, F1, fp1, e1, p, r1, d1, g1⟩ =>
      thn ((hv.run U tk).run pins s1 σ H1 (fun vv H2 => ∃ F2 fp2 e2 q, R X.w X.K F2 H2 σ e2 fp2 ∧ RepD X.w X.K F2 H2 kv p ∧ RepD X.w X.K F2 H2 vv q ∧ Post X U σ F2 fp2 H2 ((m e2).bind fun l e => .ok ((p, q) :: l) e) (fun a e F' fp' H' => ∀ v, R X.w X.K F' H' σ e fp' → rKV X.w X.K F' H' σ a v → Q v H')) I1
        ⟨F1, fp1, e1, r1, g1.bnd fun q e2 F2 fp2 H2 st2 g2 vv r2 d2 => ⟨F2, fp2, e2, q, r2, d1.mono (st2.kpr r1), d2, g2⟩⟩) fun u2 s2 ⟨vv, H2, I2, ru2, F2, fp2, e2, q, r2, dk, dv, g2⟩ =>
          thn (h.run U tk pins s2 σ H2 (fun ps H3 => Q ((kv, vv) :: ps) H3) I2 ⟨F2, fp2, e2, r2, g2.bnd fun l e3 F3 fp3 H3 st3 g3 ps r3 d3 => by
            have d3 : RepDs X.w X.K F3 H3 (ps.map (·.1)) (l.map (·.1)) ∧ RepDs X.w X.K F3 H3 (ps.map (·.2)) (l.map (·.2)) := d3
            exact g3.here _ r3 ⟨.cons (dk.mono (st3.kpr r2)) d3.1, .cons (dv.mono (st3.kpr r2)) d3.2⟩⟩) fun us s3 ⟨ps, H3, I3, rp, q3⟩ => ⟨(kv, vv) :: ps, H3, I3, .cons ⟨ru1, ru2⟩ rp, q3⟩)⟩
theorem upd_id {H : Hp} {d : Addr} {o : HO} (h : H d = some o) : upd H d o = H := by
  funext c
  unfold upd
  split
  · rename_i e
    subst e
    exact h.symm
  · rfl
theorem store_all {pins : List (Addr × Obj)} {σ : L2.St} {F : Fz} {d : Addr} (hu : X.A.units + 200 < cLine) (nF : ¬ F d) : ∀ {ps : List (V × V)} {us : List (Value × Value)} {l kvs : KVs} {es : List (Int × V × V)} {ep : Nat} {H : Hp} {s : Shared} {Q : PUnit → Shared → Prop}, L2.Inv X pins σ H s →
    Paired (fun (p : V × V) (u : Value × Value) => RelV p.1 u.1 ∧ RelV p.2 u.2) ps us → RepDs X.w X.K F H (ps.map (·.1)) (l.map (·.1)) → RepDs X.w X.K F H (ps.map (·.2)) (l.map (·.2)) → hasKeys l = true → kvs.length + l.length ≤ 1000 → H d = some (DO d ep es) → RepEs X.w X.K F H es kvs → kvs.Pairwise (fun p q => p.1.eqv q.1 = false) →
    (∀ t ep es', L2.Inv X pins σ (upd H d (DO d ep es')) t → RepEs X.w X.K F (upd H d (DO d ep es')) es' (dputs kvs l) → (dputs kvs l).Pairwise (fun p q => p.1.eqv q.1 = false) → Q PUnit.unit t) →
    wpAny (model X.prog X.w) X.A (storeAll d us) Q X.xe s
  | [], us, l, kvs, es, ep, H, s, Q, I, pr, rk, rv, hk, hn, hd, re, pw, h => by
    cases pr
    have hl : l = [] := by
      cases l with
      | nil => rfl
      | cons _ _ => cases rk
    subst hl
    refine wpAny_pure (h s ep es (by rw [upd_id hd]; exact I) (by rw [upd_id hd]; exact re) pw)
  | p :: ps, us, l, kvs, es, ep, H, s, Q, I, pr, rk, rv, hk, hn, hd, re, pw, h => by
    cases pr with
    | cons pu pr =>
      rename_i u us
      cases l with
      | nil => cases rk
      | cons kv l =>
        obtain ⟨kk, vv⟩ := kv
        cases rk with
        | cons rk1 rk =>
          cases rv with
          | cons rv1 rv =>
            have hk : keyOk kk = true ∧ hasKeys l = true := by simpa [hasKeys] using hk
            unfold storeAll
            rw [List.forIn_cons]
            have sl : 1000 ≤ sizeLine := by rw [sizeLine_eq]; omega
            simp only [List.length_cons] at hn
            refine wpAny_bind (wpAny_bind (dSet I ⟨_, .inl hd⟩ re pw rk1 hk.1 pu.1 pu.2 (by omega) (by omega) fun h' tk sb ok => wpAny_pure ?_))
            obtain ⟨o, ents, ep2, ho, rr⟩ := ok
            have I2 := I.write (t' := tk) (x := d) (e := d) (o := DO d ep2 (putE es (kix kvs kk) ((nk kk).hash X.w) p.1 p.2)) (by rw [hd]; trivial) (.inl rfl) (fun b u hb e => (sb.2 b hb).trans e) ⟨o, ho⟩ (DO.ok ⟨o, ents, ho, rr⟩)
            have k : Kp F H F (upd H d (DO d ep2 (putE es (kix kvs kk) ((nk kk).hash X.w) p.1 p.2))) := .upd nF
            obtain ⟨n1, n2⟩ := RepEs.put (re.mono k) pw (rk1.mono k) hk.1 (rv1.mono k)
            have hlen : (dput kvs kk vv).length ≤ kvs.length + 1 := by
              unfold dput
              split <;> simp
            refine store_all hu nF I2 pr (rk.mono k) (rv.mono k) hk.2 (by dsimp only; omega) upd_same n1 n2 fun t ep' es' I3 re3 pw3 => ?_
            rw [upd_upd] at I3 re3
            exact h t ep' es' I3 re3 pw3
theorem not_low {pins : List (Addr × Obj)} {σ : L2.St} {H : Hp} {s : Shared} (I : L2.Inv X pins σ H s) : (s.heap.objs.size == sysModules) = false := by
  have h1 : X.base.NoLimit := I.ok.mod.nolimit
  have h2 := modules_low h1
  have h3 := I.ok.bsz
  have h4 := I.sz
  refine beq_eq_false_iff_ne.mpr fun e => ?_
  have h5 : sysModules < s.heap.objs.size := Nat.lt_of_lt_of_le h2 (Nat.le_trans h3 h4)
  rw [e] at h5
  exact Nat.lt_irrefl _ h5
theorem Ans.dct {w : World} {K : PySem.W.Frag} {F : Fz} {H : Hp} {σ : L2.St} {env : Env} {fp : List Addr} {Q : VK} (r : R w K F H σ env fp) {kvs : KVs} {es : List (Int × V × V)} {ep : Nat} (h : Ans w K F fp H σ env (.dct kvs) Q) (d : Addr) (n : H d = none) (lo : (d == sysModules) = false)
    (re : RepEs w K F (upd H d (DO d ep es)) es kvs) (pw : kvs.Pairwise (fun p q => p.1.eqv q.1 = false)) : Q (.ref d) (upd H d (DO d ep es)) := by
  obtain ⟨st, r', k, nd, dj⟩ := r.newO (o := DO d ep es) n
  exact h F fp _ _ [d] st r' ⟨.dct upd_same lo re pw, nd, dj⟩
theorem new_dict {pins : List (Addr × Obj)} {σ : L2.St} {H : Hp} {s : Shared} (I : L2.Inv X pins σ H s) : L2.Inv X pins σ (upd H s.heap.objs.size (DO s.heap.objs.size 0 [])) { s with heap := s.heap.push { cls := .type "dict", data := .dict #[] } } :=
  I.laid (t' := s.toks) (fun b o q => Heap.get?_push_of_some _ q) (Nat.le_refl _) (DO.ok ⟨_, #[], Heap.get?_push_size _ rfl, ⟨rfl, rfl, rfl⟩, rfl, .nil⟩)
theorem z_dct0 : ZV X (.Dict [] [] pos) vDct0 := ⟨fun U tk => ⟨fun pins s σ H Q I ⟨F, fp, env, r, g⟩ => wpAny_Dict_empty ⟨.ref _, _, new_dict I, rfl, g.ans.dct r _ I.fresh (not_low I) .nil .nil⟩⟩⟩
theorem z_dct {m : M KVs} (hu : X.A.units + 200 < cLine) (h : ZKs X (some k :: ks) (v :: vs) pos m) (hall : ((some k :: ks).all (·.isSome)) = true := by rfl) (hl : (some k :: ks).length = (v :: vs).length := by rfl) (h15 : (some k :: ks).length ≤ 15 := by decide) : ZV X (.Dict (some k :: ks) (v :: vs) pos) (vDct m) :=
  ⟨fun U tk => ⟨fun pins s σ H Q I ⟨F, fp, env, r, g⟩ => by
    refine wpAny_Dict_any hall hl (by simp) h15 ?_
    generalize hd : s.heap.objs.size = d
    have I1 := new_dict I
    have n0 : H d = none := by rw [← hd]; exact I.fresh
    have lo : (d == sysModules) = false := by rw [← hd]; exact not_low I
    rw [hd] at I1
    obtain ⟨st1, r1, k1, nd1, dj1⟩ := r.newO (o := DO d 0 []) n0
    have nfp : d ∉ fp := fun z => r.rep.trk d z n0
    -- the pairs, with the new dict standing by
    have g' : Post X U σ F fp (upd H d (DO d 0 [])) (m env) fun l e F' fp' H' => Step F fp (upd H d (DO d 0 [])) F' fp' H' ∧ Post X U σ F' ([d] ++ fp') H' (if hasKeys l && decide (l.length ≤ 15) then (.ok (.dct (dputs [] l)) e : Res W) else .bad) (fun x e F' fpT H' => ∀ fp' v q, fpT = q ++ fp' → R X.w X.K F' H' σ e fp' → Ow X.w X.K F' H' v x q fp' → Q v H') := by
      have g0 := g
      unfold vDct at g0
      cases hm : m env with
      | bad => rw [hm] at g0; exact False.elim g0
      | exc x e =>
        rw [hm] at g0
        intro F' fp' H' cls dd st rr ex
        exact g0 F' fp' H' cls dd ((st1.sub fun a h => List.mem_append_right _ h).trans st) rr ex
      | ok l e =>
        rw [hm] at g0
        intro F' fp' H' st
        exact ⟨st, Post.step (r := if hasKeys l && decide (l.length ≤ 15) then (.ok (.dct (dputs [] l)) e : Res W) else .bad) g0 (st1.trans st.addD)⟩
    refine thn (h.run U tk pins _ σ _ (fun ps H2 => ∃ F2 fp2 e2 l, R X.w X.K F2 H2 σ e2 fp2 ∧ rKV X.w X.K F2 H2 σ l ps ∧ Step F fp (upd H d (DO d 0 [])) F2 fp2 H2 ∧ Post X U σ F2 ([d] ++ fp2) H2 (if hasKeys l && decide (l.length ≤ 15) then (.ok (.dct (dputs [] l)) e2 : Res W) else .bad) (fun x e F' fpT H' => ∀ fp' v q, fpT = q ++ fp' → R X.w X.K F' H' σ e fp' → Ow X.w X.K F' H' v x q fp' → Q v H')) I1
      ⟨F, fp, env, r1, g'.imp fun l e F2 fp2 H2 ⟨st2, g2⟩ ps r2 d2 => ⟨F2, fp2, e, l, r2, d2, st2, g2⟩⟩) fun us s2 ⟨ps, H2, I2, pr, F2, fp2, e2, l, r2, d2, st2, g2⟩ => ?_
    have d2 : RepDs X.w X.K F2 H2 (ps.map (·.1)) (l.map (·.1)) ∧ RepDs X.w X.K F2 H2 (ps.map (·.2)) (l.map (·.2)) := d2
    split at g2
    · rename_i hc
      rw [Bool.and_eq_true, decide_eq_true_eq] at hc
      have nF2 : ¬ F2 d := fun z => by
        rcases st2.fr d z with q | q | q
        · exact dj1 d (by simp) q
        · exact nfp q
        · rw [upd_same] at q; cases q
      have nfp2 : d ∉ fp2 := fun z => by
        rcases st2.own d z with q | q
        · exact nfp q
        · rw [upd_same] at q; cases q
      have hd2 : H2 d = some (DO d 0 []) := st2.ex d _ upd_same nfp
      refine store_all hu nF2 I2 pr d2.1 d2.2 hc.1 (by simp; omega) hd2 .nil .nil fun t ep' es' I3 re pw => ⟨.ref d, _, I3, rfl, ?_⟩
      refine g2 F2 ([d] ++ fp2) (upd H2 d (DO d ep' es')) (.upd (by simp)) fp2 (.ref d) [d] rfl (r2.upd nfp2 nF2) ⟨.dct upd_same lo re pw, ?_, fun a ha => by simp at ha; subst ha; exact nF2⟩
      rw [List.nodup_append]
      refine ⟨by simp, r2.nd, fun a ha b hb e => ?_⟩
      simp at ha
      subst ha e
      exact nfp2 hb
    · exact False.elim g2⟩⟩
end
end Z

/-! Z20: what a def's text needs, in short. -/
namespace Z
open PySem PySem.Spec PyProof.Rows L2
structure Ct (k : Nat) (X : L2.Cx) : Prop where
  rm : Room k X.A
  ca : X.calm = true
  gd : X.A.guards = some []
  nd : X.N.Nodup
  hp : PassesOwn (model X.prog X.w) X.A X.env X.xe
theorem Ct.hu {k : Nat} {X : L2.Cx} (c : Ct k X) : X.A.units + 200 < cLine := by
  have := c.rm.un
  omega
def visB (sc : Scope) (x : Str) : Bool := match sc.names.lookup x with
  | some .local | some .cell | some .free => true
  | _ => false
theorem vis {sc : Scope} {x : Str} (h : visB sc x = true) : Vis sc x := by
  unfold visB at h
  split at h
  · rename_i e; exact .inl e
  · rename_i e; exact .inr (.inl e)
  · rename_i e; exact .inr (.inr e)
  · cases h
def locB (sc : Scope) (x : Str) : Bool := match sc.names.lookup x with
  | some .local | some .cell => true
  | _ => false
theorem loc {sc : Scope} {x : Str} (h : locB sc x = true) : Loc sc x := by
  unfold locB at h
  split at h
  · rename_i e; exact .inl e
  · rename_i e; exact .inr e
  · cases h
/-- a def that may be called by its name -/
structure CalZ (P : Program) (w : World) (K : PySem.W.Frag) (mg : Str → Option Value) (base : Heap) (k : Nat) (x : Str) (fu : Fu) : Prop where
  ex : ∃ (f : Addr) (fd : FuncData) (ps : List Str), FnZ P w K mg base k f fd ps fu ∧ mg x = some (.ref f) ∧ PySem.W.keepIn K (.ref f) = true ∧ Binds K fd ps []
section
variable {P : Program} {w : World} {K : PySem.W.Frag} {mg : Str → Option Value} {base : Heap}
theorem z_def {x qual : Str} {st : Stmt} {f : Addr} {fd : FuncData} {N ps : List Str} {k : Nat} {io : List Bool} {m : M Flow} (F : Fun K x qual st f fd) (S : FnScope N ps (defScope st)) (hio : io.length = ps.length)
    (hb : ∀ (cdv : Value) (A : Around) (fr : List PySem.Env) (s : Shared) (H : Hp) (E : XK), Ct k (cxOf (L2.CX P w) P w K mg base N qual (defScope st) f cdv A fr s H E) →
      ZSs (cxOf (L2.CX P w) P w K mg base N qual (defScope st) f cdv A fr s H E) (lentAt io 0) (defBody st) m) : FnZ P w K mg base (k + 1) f fd ps (mkFu io N.length m) := by
  obtain ⟨oc, od, kV, doc, pm, an, cdv, ct, osl, rfl, lk, hcd⟩ := F.ex
  exact z_fn lk hcd S hio fun A fr s H E hr hgd => hb cdv A fr s H E ⟨hr, rfl, hgd, S.nd, passes_of rfl⟩
theorem cal_mk {x : Str} {st : Stmt} {f : Addr} {fd : FuncData} {ps : List Str} {k : Nat} {fu : Fu} (F : Fun K x x st f fd) (gm : mg x = some (.ref f)) (b : Binds K fd ps []) (Z : FnZ P w K mg base k f fd ps fu) : CalZ P w K mg base k x fu := ⟨f, fd, ps, Z, gm, F.kp, b⟩
end
section
variable {X : L2.Cx} {j k : Nat} {x : Str} {p pos : Pos} {e : Expr} {es : List Expr} {fu : Fu}
theorem z_c {m : M (List Op)} (c : CalZ X.prog X.w X.K X.mg X.base j x fu) (hr : Room k X.A) (hj : j ≤ k) (hgd : X.A.guards = some []) (hg : Gl X x) (ha : ZOs X (e :: es) m) (hdb : (x == ("__debug__" : Str)) = false := by decide)
    (he : starEach (e :: es) X.env = (false, eval e X.env) :: starEach es X.env := by rfl) (hpl : (backTo pos (starEach es X.env)).any (·.1) = false := by rfl) : ZV X (.Call (.Name x p) (e :: es) [] pos) (mCall fu m) := by
  obtain ⟨f, fd, ps, Fn, gm, hk, hb⟩ := c.ex
  exact z_call (Fn.more hj) hr hgd hg gm hk hb ha hdb he hpl
theorem z_c0 (c : CalZ X.prog X.w X.K X.mg X.base j x fu) (hr : Room k X.A) (hj : j ≤ k) (hgd : X.A.guards = some []) (hg : Gl X x) (hdb : (x == ("__debug__" : Str)) = false := by decide) : ZV X (.Call (.Name x p) [] [] pos) (mCall fu osNil) := by
  obtain ⟨f, fd, ps, Fn, gm, hk, hb⟩ := c.ex
  exact z_call0 (Fn.more hj) hr hgd hg gm hk hb hdb
end
end Z

/-! Z21: evaluating. -/
namespace Z
open PySem
theorem peek_nil (i : Nat) : peek [] i = none := by simp [peek]
theorem peek_zero (w : W) (e : Env) : peek (some w :: e) 0 = w.fz := by simp [peek]
theorem peek_zero' (e : Env) : peek (none :: e) 0 = none := by simp [peek]
theorem peek_succ (o : Option W) (e : Env) (i : Nat) : peek (o :: e) (i + 1) = peek e i := by simp [peek]
theorem fz_f (p : PyData) : W.fz (.f p) = some p := (rfl)
theorem fz_l (p : List PyData) : W.fz (.lst p) = some (.list p) := (rfl)
theorem fz_d (p : List (PyData × PyData)) : W.fz (.dct p) = some (.dict p) := (rfl)
theorem bin_add (i j : Int) : binop .Add (.int i) (.int j) = some (.f (.int (i + j))) := (rfl)
theorem bin_sub (i j : Int) : binop .Sub (.int i) (.int j) = some (.f (.int (i - j))) := (rfl)
theorem bin_mul (i j : Int) : binop .Mult (.int i) (.int j) = if log2i i + log2i j < 1000000 then some (.f (.int (i * j))) else none := (rfl)
theorem bin_fdiv (i j : Int) : binop .FloorDiv (.int i) (.int j) = if j ≠ 0 ∧ log2i j < 9000 then some (.f (.int (i.fdiv j))) else none := (rfl)
theorem bin_mod (i j : Int) : binop .Mod (.int i) (.int j) = if j ≠ 0 then some (.f (.int (i.fmod j))) else none := (rfl)
theorem bin_pow (i j : Int) : binop .Pow (.int i) (.int j) = if 0 ≤ j ∧ j ≤ 1000000 ∧ i.natAbs < 2 ^ 64 then some (.f (.int (i ^ j.toNat))) else none := (rfl)
theorem bin_adds (x y : Str) : binop .Add (.str x) (.str y) = if sizeOk (x.length + y.length) then some (.f (.str (x ++ y))) else none := (rfl)
theorem bin_addt (x y : List PyData) : binop .Add (.tuple x) (.tuple y) = if sizeOk (x.length + y.length) then some (.f (.tuple (x ++ y))) else none := (rfl)
theorem bin_addl (x y : List PyData) : binop .Add (.list x) (.list y) = if sizeOk (x.length + y.length) then some (.lst (x ++ y)) else none := (rfl)
theorem cmp_eq (x y : PyData) : cmpop .Eq x y = eqD x y := (rfl)
theorem cmp_ne (x y : PyData) : cmpop .NotEq x y = (eqD x y).map (!·) := (rfl)
theorem cmp_in (x y : PyData) : cmpop .In x y = inD x y := (rfl)
theorem cmp_nin (x y : PyData) : cmpop .NotIn x y = (inD x y).map (!·) := (rfl)
theorem cmp_lt (i j : Int) : cmpop .Lt (.int i) (.int j) = some (decide (i < j)) := (rfl)
theorem cmp_le (i j : Int) : cmpop .LtE (.int i) (.int j) = some (decide (i ≤ j)) := (rfl)
theorem cmp_gt (i j : Int) : cmpop .Gt (.int i) (.int j) = some (decide (j < i)) := (rfl)
theorem cmp_ge (i j : Int) : cmpop .GtE (.int i) (.int j) = some (decide (j ≤ i)) := (rfl)
theorem cmp_is (x : PyData) : cmpop .Is x .none = some (isNone x) := (rfl)
theorem cmp_isn (x : PyData) : cmpop .IsNot x .none = some (!isNone x) := (rfl)
theorem isD_int (p : PyData) : isD "int" p = p.isInt := (rfl)
theorem isD_bool (p : PyData) : isD "bool" p = p.isBool := (rfl)
theorem isD_str (p : PyData) : isD "str" p = p.isStr := (rfl)
theorem isD_list (p : PyData) : isD "list" p = p.isList := (rfl)
theorem isD_tuple (p : PyData) : isD "tuple" p = p.isTuple := (rfl)
theorem isD_dict (p : PyData) : isD "dict" p = p.isDict := (rfl)
theorem tru_int (i : Int) : truthy (.int i) = some (i != 0) := (rfl)
theorem tru_bool (b : Bool) : truthy (.bool b) = some b := (rfl)
theorem tru_none : truthy .none = some false := (rfl)
theorem tru_list (l : List PyData) : truthy (.list l) = some (!l.isEmpty) := (rfl)
theorem tru_tuple (l : List PyData) : truthy (.tuple l) = some (!l.isEmpty) := (rfl)
theorem item_l (l : List PyData) (i : Int) : item (.list l) (.int i) = (ix l.length i).bind (l[·]?) := (rfl)
theorem item_t (l : List PyData) (i : Int) : item (.tuple l) (.int i) = (ix l.length i).bind (l[·]?) := (rfl)
theorem put_l (l : List PyData) (i : Int) (v : PyData) : putAt (.lst l) (.int i) v = (ix l.length i).map fun j => .lst (l.set j v) := (rfl)
theorem sizeOk_small {n : Nat} (h : n ≤ 1000000) : sizeOk n = true := by
  unfold sizeOk
  rw [decide_eq_true_eq, sizeLine_eq]
  omega
theorem lt_line {n : Nat} (h : n ≤ 1000000) : n < sizeLine := by
  rw [sizeLine_eq]
  omega
theorem plain_int (i : Int) : plainD (.int i) = true := (rfl)
theorem plain_bool (i : Bool) : plainD (.bool i) = true := (rfl)
theorem plain_str (i : Str) : plainD (.str i) = true := (rfl)
theorem plain_none : plainD .none = true := (rfl)
theorem eqD_int (i j : Int) : eqD (.int i) (.int j) = some (i == j) := by simp [eqD, plain_int, PyData.eqv]
theorem eqD_bool (i j : Bool) : eqD (.bool i) (.bool j) = some (i == j) := by simp [eqD, plain_bool, PyData.eqv]
theorem eqD_str (i j : Str) : eqD (.str i) (.str j) = some (i == j) := by simp [eqD, plain_str, PyData.eqv]
theorem forG_nil (g : Bd) (b : M Flow) (e : Env) : sForG g b [] e = .ok .nx e := (rfl)
theorem ix_zero (n : Nat) : ix (n + 1) 0 = some 0 := by simp [ix]
theorem bind_some {α β : Type} (a : α) (f : α → Option β) : (some a).bind f = f a := (rfl)
theorem map_some {α β : Type} (a : α) (f : α → β) : (some a).map f = some (f a) := (rfl)
theorem loopN_det {c : M Bool} {b : M Flow} : ∀ {n m : Nat} {env : Env} {r r' : Res Flow}, loopN c b n env = some r → loopN c b m env = some r' → r = r'
  | 0, _, _, _, _, h, _ => by cases h
  | _ + 1, 0, _, _, _, _, h => by cases h
  | n + 1, m + 1, env, r, r', h, h' => by
    unfold loopN at h h'
    cases hc : c env with
    | bad => rw [hc] at h h'; cases h; cases h'; rfl
    | exc x e => rw [hc] at h h'; cases h; cases h'; rfl
    | ok k e =>
      rw [hc] at h h'
      cases k with
      | false => cases h; cases h'; rfl
      | true =>
        dsimp only at h h'
        cases hb : b e with
        | bad => rw [hb] at h h'; cases h; cases h'; rfl
        | exc x e => rw [hb] at h h'; cases h; cases h'; rfl
        | ok fl e2 =>
          rw [hb] at h h'
          cases fl with
          | nx => exact loopN_det h h'
          | ct => exact loopN_det h h'
          | brk => cases h; cases h'; rfl
          | ret w => cases h; cases h'; rfl
theorem sWhl_of {c : M Bool} {b : M Flow} {n : Nat} {env : Env} {r : Res Flow} (h : loopN c b n env = some r) : sWhl c b env = r := by
  unfold sWhl
  have hx : ∃ n r, loopN c b n env = some r := ⟨n, r, h⟩
  rw [dif_pos hx]
  exact loopN_det (Classical.choose_spec hx).choose_spec h
theorem sWhl_no {c : M Bool} {b : M Flow} {env : Env} (h : ∀ n r, loopN c b n env ≠ some r) : sWhl c b env = .bad := by
  unfold sWhl
  rw [dif_neg]
  rintro ⟨n, r, q⟩
  exact h n r q
/-- one turn of a while -/
theorem sWhl_eq (c : M Bool) (b : M Flow) (env : Env) : sWhl c b env = match c env with
    | .ok true e1 => (match b e1 with
      | .ok .nx e2 => sWhl c b e2
      | .ok .ct e2 => sWhl c b e2
      | .ok .brk e2 => .ok .nx e2
      | .ok (.ret w) e2 => .ok (.ret w) e2
      | .exc x e2 => .exc x e2
      | .bad => .bad)
    | .ok false e1 => .ok .nx e1
    | .exc x e1 => .exc x e1
    | .bad => .bad := by
  cases hc : c env with
  | bad => exact sWhl_of (n := 1) (by unfold loopN; rw [hc])
  | exc x e => exact sWhl_of (n := 1) (by unfold loopN; rw [hc])
  | ok k e =>
    cases k with
    | false => exact sWhl_of (n := 1) (by unfold loopN; rw [hc])
    | true =>
      dsimp only
      cases hb : b e with
      | bad => exact sWhl_of (n := 1) (by unfold loopN; rw [hc]; dsimp only; rw [hb])
      | exc x e2 => exact sWhl_of (n := 1) (by unfold loopN; rw [hc]; dsimp only; rw [hb])
      | ok fl e2 =>
        have step : ∀ n, fl = .nx ∨ fl = .ct → loopN c b (n + 1) env = loopN c b n e2 := fun n hf => by
          rw [loopN.eq_def]
          dsimp only
          rw [hc]
          dsimp only
          rw [hb]
          rcases hf with rfl | rfl <;> rfl
        have go : fl = .nx ∨ fl = .ct → sWhl c b env = sWhl c b e2 := fun hf => by
          by_cases hx : ∃ n r, loopN c b n e2 = some r
          · obtain ⟨n, r, h⟩ := hx
            rw [sWhl_of h, sWhl_of (n := n + 1) (by rw [step n hf]; exact h)]
          · have h2 : ∀ n r, loopN c b n e2 ≠ some r := fun n r q => hx ⟨n, r, q⟩
            rw [sWhl_no h2]
            refine sWhl_no fun n r q => ?_
            cases n with
            | zero => cases q
            | succ n => rw [step n hf] at q; exact h2 n r q
        cases fl with
        | nx => exact go (.inl rfl)
        | ct => exact go (.inr rfl)
        | brk => exact sWhl_of (n := 1) (by unfold loopN; rw [hc]; dsimp only; rw [hb])
        | ret w => exact sWhl_of (n := 1) (by unfold loopN; rw [hc]; dsimp only; rw [hb])
/-! ### combinators -/
theorem ev_vCon (p : PyData) (e : Env) : vCon p e = .ok (.f p) e := (rfl)
theorem ev_oCon (p : PyData) (e : Env) : oCon p e = .ok (.inr p) e := (rfl)
theorem ev_dCon (p : PyData) (e : Env) : dCon p e = .ok p e := (rfl)
theorem ev_sNil  (e : Env) : sNil  e = .ok .nx e := (rfl)
theorem ev_sBrk  (e : Env) : sBrk  e = .ok .brk e := (rfl)
theorem ev_sCnt  (e : Env) : sCnt  e = .ok .ct e := (rfl)
theorem ev_sRetN  (e : Env) : sRetN  e = .ok (.ret (.f .none)) e := (rfl)
theorem ev_dsNil  (e : Env) : dsNil  e = .ok [] e := (rfl)
theorem ev_osNil  (e : Env) : osNil  e = .ok [] e := (rfl)
theorem ev_kvNil  (e : Env) : kvNil  e = .ok [] e := (rfl)
theorem ev_pNo  (e : Env) : pNo  e = .ok none e := (rfl)
theorem ev_vDct0  (e : Env) : vDct0  e = .ok (.dct []) e := (rfl)
theorem ev_bYes  (e : Env) : bYes  e = .ok true e := (rfl)
theorem ev_frz_some {i : Nat} {e : Env} {p : PyData} (h : peek e i = some p) : vFrz i e = .ok (.f p) (e.set i (some (.f p))) := by unfold vFrz freeze; rw [h]; rfl
def pk (i : Nat) (e : Env) : Option PyData → Res Op
  | some _ => .ok (.inl i) e
  | none => .bad
theorem ev_oVar (i : Nat) (e : Env) : oVar i e = pk i e (peek e i) := by unfold oVar pk; split <;> simp_all
theorem pk_some (i : Nat) (e : Env) (p : PyData) : pk i e (some p) = .ok (.inl i) e := (rfl)
def pf (i : Nat) (e : Env) : Option PyData → Res W
  | some p => .ok (.f p) (e.set i (some (.f p)))
  | none => .bad
theorem ev_vFrz (i : Nat) (e : Env) : vFrz i e = pf i e (peek e i) := by unfold vFrz freeze pf; split <;> simp_all
theorem pf_some (i : Nat) (e : Env) (p : PyData) : pf i e (some p) = .ok (.f p) (e.set i (some (.f p))) := (rfl)
def pm (i : Nat) (e : Env) : Option (Option W) → Res W
  | some (some w) => .ok w (e.set i none)
  | _ => .bad
theorem ev_vMove (i : Nat) (e : Env) : vMove i e = pm i e (e[i]?) := by unfold vMove pm; split <;> simp_all
theorem pm_some (i : Nat) (e : Env) (w : W) : pm i e (some (some w)) = .ok w (e.set i none) := (rfl)
def k1_dOf (m : M W)  (w : W) (e : Env) : Res PyData := .of w.fz e
theorem ev_dOf (m : M W) (e : Env) : dOf m e = (m e).bind (k1_dOf m) := (rfl)
def k1_oOf (m : M W)  (w : W) (e : Env) : Res Op := .of (w.fz.map .inr) e
theorem ev_oOf (m : M W) (e : Env) : oOf m e = (m e).bind (k1_oOf m) := (rfl)
def k1_vB (m : M Bool)  (b : Bool) (e : Env) : Res W := .ok (.f (.bool b)) e
theorem ev_vB (m : M Bool) (e : Env) : vB m e = (m e).bind (k1_vB m) := (rfl)
def k2_vBin (op : Operator) (a : M Op) (b : M Op) (x : Op) (y : Op) (e : Env) : Res W := .of ((look e x).bind fun p => (look e y).bind fun q => binop op p q) e
def k1_vBin (op : Operator) (a : M Op) (b : M Op)  (x : Op) (e : Env) : Res W := (b e).bind (k2_vBin op a b x)
theorem ev_vBin (op : Operator) (a : M Op) (b : M Op) (e : Env) : vBin op a b e = (a e).bind (k1_vBin op a b) := (rfl)
def k2_bCmp (op : CmpOp) (a : M Op) (b : M Op) (x : Op) (y : Op) (e : Env) : Res Bool := .of ((look e x).bind fun p => (look e y).bind fun q => cmpop op p q) e
def k1_bCmp (op : CmpOp) (a : M Op) (b : M Op)  (x : Op) (e : Env) : Res Bool := (b e).bind (k2_bCmp op a b x)
theorem ev_bCmp (op : CmpOp) (a : M Op) (b : M Op) (e : Env) : bCmp op a b e = (a e).bind (k1_bCmp op a b) := (rfl)
def k2_vIdx (a : M Op) (b : M Op) (x : Op) (y : Op) (e : Env) : Res W := .of ((look e x).bind fun p => (look e y).bind fun q => (item p q).map W.f) e
def k1_vIdx (a : M Op) (b : M Op)  (x : Op) (e : Env) : Res W := (b e).bind (k2_vIdx a b x)
theorem ev_vIdx (a : M Op) (b : M Op) (e : Env) : vIdx a b e = (a e).bind (k1_vIdx a b) := (rfl)
def k1_vRev (a : M Op)  (x : Op) (e : Env) : Res W := .of ((look e x).bind revd) e
theorem ev_vRev (a : M Op) (e : Env) : vRev a e = (a e).bind (k1_vRev a) := (rfl)
def k1_bNot (a : M Bool)  (x : Bool) (e : Env) : Res Bool := .ok (!x) e
theorem ev_bNot (a : M Bool) (e : Env) : bNot a e = (a e).bind (k1_bNot a) := (rfl)
def k1_bTru (a : M Op)  (x : Op) (e : Env) : Res Bool := .of ((look e x).bind truthy) e
theorem ev_bTru (a : M Op) (e : Env) : bTru a e = (a e).bind (k1_bTru a) := (rfl)
def k1_vIsi (t : String) (a : M Op)  (x : Op) (e : Env) : Res Bool := .of ((look e x).map (isD t)) e
theorem ev_vIsi (t : String) (a : M Op) (e : Env) : vIsi t a e = (a e).bind (k1_vIsi t a) := (rfl)
def k1_vBi (f : BiF) (m : M (List Op))  (xs : List Op) (e : Env) : Res W := .of ((looks e xs).bind f) e
theorem ev_vBi (f : BiF) (m : M (List Op)) (e : Env) : vBi f m e = (m e).bind (k1_vBi f m) := (rfl)
def k2_dsCons (a : M PyData) (r : M (List PyData)) (x : PyData) (xs : List PyData) (e : Env) : Res (List PyData) := .ok (x :: xs) e
def k1_dsCons (a : M PyData) (r : M (List PyData))  (x : PyData) (e : Env) : Res (List PyData) := (r e).bind (k2_dsCons a r x)
theorem ev_dsCons (a : M PyData) (r : M (List PyData)) (e : Env) : dsCons a r e = (a e).bind (k1_dsCons a r) := (rfl)
def k2_osCons (a : M Op) (r : M (List Op)) (x : Op) (xs : List Op) (e : Env) : Res (List Op) := .ok (x :: xs) e
def k1_osCons (a : M Op) (r : M (List Op))  (x : Op) (e : Env) : Res (List Op) := (r e).bind (k2_osCons a r x)
theorem ev_osCons (a : M Op) (r : M (List Op)) (e : Env) : osCons a r e = (a e).bind (k1_osCons a r) := (rfl)
def k3_kvCons (a : M PyData) (b : M PyData) (r : M KVs) (x : PyData) (y : PyData) (l : KVs) (e : Env) : Res KVs := .ok ((x, y) :: l) e
def k2_kvCons (a : M PyData) (b : M PyData) (r : M KVs) (x : PyData) (y : PyData) (e : Env) : Res KVs := (r e).bind (k3_kvCons a b r x y)
def k1_kvCons (a : M PyData) (b : M PyData) (r : M KVs)  (x : PyData) (e : Env) : Res KVs := (b e).bind (k2_kvCons a b r x)
theorem ev_kvCons (a : M PyData) (b : M PyData) (r : M KVs) (e : Env) : kvCons a b r e = (a e).bind (k1_kvCons a b r) := (rfl)
def k1_vTup (m : M (List PyData))  (l : List PyData) (e : Env) : Res W := if sizeOk l.length then .ok (.f (.tuple l)) e else .bad
theorem ev_vTup (m : M (List PyData)) (e : Env) : vTup m e = (m e).bind (k1_vTup m) := (rfl)
def k1_vLst (m : M (List PyData))  (l : List PyData) (e : Env) : Res W := if sizeOk l.length then .ok (.lst l) e else .bad
theorem ev_vLst (m : M (List PyData)) (e : Env) : vLst m e = (m e).bind (k1_vLst m) := (rfl)
def k1_vDct (m : M KVs)  (l : KVs) (e : Env) : Res W := if hasKeys l && decide (l.length ≤ 15) then .ok (.dct (dputs [] l)) e else .bad
theorem ev_vDct (m : M KVs) (e : Env) : vDct m e = (m e).bind (k1_vDct m) := (rfl)
def k3_vSlc (a : M Op) (lo : M (Option Int)) (hi : M (Option Int)) (x : Op) (y : Option Int) (z : Option Int) (e : Env) : Res W := .of ((look e x).bind fun p => slice p (oi y) (oi z)) e
def k2_vSlc (a : M Op) (lo : M (Option Int)) (hi : M (Option Int)) (x : Op) (y : Option Int) (e : Env) : Res W := (hi e).bind (k3_vSlc a lo hi x y)
def k1_vSlc (a : M Op) (lo : M (Option Int)) (hi : M (Option Int))  (x : Op) (e : Env) : Res W := (lo e).bind (k2_vSlc a lo hi x)
theorem ev_vSlc (a : M Op) (lo : M (Option Int)) (hi : M (Option Int)) (e : Env) : vSlc a lo hi e = (a e).bind (k1_vSlc a lo hi) := (rfl)
def pIv (e : Env) : Option PyData → Res (Option Int)
  | some (.int i) => .ok (some i) e
  | _ => .bad
def k1_pI (x : Op) (e : Env) : Res (Option Int) := pIv e (look e x)
theorem pIv_int (e : Env) (i : Int) : pIv e (some (.int i)) = .ok (some i) e := (rfl)
theorem ev_pI (a : M Op) (e : Env) : pI a e = (a e).bind k1_pI := (rfl)
def ngv (e : Env) : Option PyData → Res W
  | some (.int i) => .ok (.f (.int (-i))) e
  | _ => .bad
def k1_vNeg (x : Op) (e : Env) : Res W := ngv e (look e x)
theorem ngv_int (e : Env) (i : Int) : ngv e (some (.int i)) = .ok (.f (.int (-i))) e := (rfl)
theorem ev_vNeg (a : M Op) (e : Env) : vNeg a e = (a e).bind k1_vNeg := (rfl)
def bov (e : Env) : Option PyData → Res Bool
  | some (.bool i) => .ok i e
  | _ => .bad
def k1_bOf (x : Op) (e : Env) : Res Bool := bov e (look e x)
theorem bov_bool (e : Env) (i : Bool) : bov e (some (.bool i)) = .ok i e := (rfl)
theorem ev_bOf (a : M Op) (e : Env) : bOf a e = (a e).bind k1_bOf := (rfl)
def k1_bAnd (b : M Bool) (k : Bool) (e : Env) : Res Bool := if k = true then b e else .ok false e
theorem ev_bAnd (a b : M Bool) (e : Env) : bAnd a b e = (a e).bind (k1_bAnd b) := (rfl)
def k1_bOr (b : M Bool) (k : Bool) (e : Env) : Res Bool := if k = true then .ok true e else b e
theorem ev_bOr (a b : M Bool) (e : Env) : bOr a b e = (a e).bind (k1_bOr b) := (rfl)
def k1_vIf (a b : M W) (k : Bool) (e : Env) : Res W := if k = true then a e else b e
theorem ev_vIf (t : M Bool) (a b : M W) (e : Env) : vIf t a b e = (t e).bind (k1_vIf a b) := (rfl)
def k1_sIf (a b : M Flow) (k : Bool) (e : Env) : Res Flow := if k = true then a e else b e
theorem ev_sIf (t : M Bool) (a b : M Flow) (e : Env) : sIf t a b e = (t e).bind (k1_sIf a b) := (rfl)
def chv (op : CmpOp) (c : M Op) (y : Op) (e : Env) : Option Bool → Res Bool
  | some true => (c e).bind (k2_bCmp op c c y)
  | some false => .ok false e
  | none => .bad
theorem chv_t (op : CmpOp) (c : M Op) (y : Op) (e : Env) : chv op c y e (some true) = (c e).bind (k2_bCmp op c c y) := (rfl)
theorem chv_f (op : CmpOp) (c : M Op) (y : Op) (e : Env) : chv op c y e (some false) = .ok false e := (rfl)
def k2_bChn (o op : CmpOp) (c : M Op) (x y : Op) (e : Env) : Res Bool := chv op c y e ((look e x).bind fun p => (look e y).bind fun q => cmpop o p q)
def k1_bChn (o op : CmpOp) (b c : M Op) (x : Op) (e : Env) : Res Bool := (b e).bind (k2_bChn o op c x)
theorem ev_bChn (o op : CmpOp) (a b c : M Op) (e : Env) : bChn o op a b c e = (a e).bind (k1_bChn o op b c) := (rfl)
def k1_sSeq (b : M Flow) (fl : Flow) (e : Env) : Res Flow := match fl with
  | .nx => b e
  | fl => .ok fl e
theorem sq_nx (b : M Flow) (e : Env) : k1_sSeq b .nx e = b e := (rfl)
theorem sq_brk (b : M Flow) (e : Env) : k1_sSeq b .brk e = .ok .brk e := (rfl)
theorem sq_ct (b : M Flow) (e : Env) : k1_sSeq b .ct e = .ok .ct e := (rfl)
theorem sq_ret (b : M Flow) (w : W) (e : Env) : k1_sSeq b (.ret w) e = .ok (.ret w) e := (rfl)
theorem ev_sSeq (a b : M Flow) (e : Env) : sSeq a b e = (a e).bind (k1_sSeq b) := (rfl)
def k1_sSet (i : Nat) (m : M W)  (w : W) (e : Env) : Res Flow := if i < e.length then .ok .nx (e.set i (some w)) else .bad
theorem ev_sSet (i : Nat) (m : M W) (e : Env) : sSet i m e = (m e).bind (k1_sSet i m) := (rfl)
def k1_sEx (m : M W)  (w : W) (e : Env) : Res Flow := .ok .nx e
theorem ev_sEx (m : M W) (e : Env) : sEx m e = (m e).bind (k1_sEx m) := (rfl)
def k1_sRet (m : M W)  (w : W) (e : Env) : Res Flow := .ok (.ret w) e
theorem ev_sRet (m : M W) (e : Env) : sRet m e = (m e).bind (k1_sRet m) := (rfl)
def bdv : Option Env → Res Flow
  | some e => .ok .nx e
  | none => .bad
theorem bdv_some (e : Env) : bdv (some e) = .ok .nx e := (rfl)
def k1_sBnd (g : Bd) (p : PyData) (e : Env) : Res Flow := bdv (g p e)
theorem ev_sBnd (g : Bd) (m : M PyData) (e : Env) : sBnd g m e = (m e).bind (k1_sBnd g) := (rfl)
theorem ev_gSet (i : Nat) (p : PyData) (e : Env) : gSet i p e = if i < e.length then some (e.set i (some (.f p))) else none := (rfl)
theorem ev_gTupT (gs : List Bd) (l : List PyData) (e : Env) : gTupB gs (.tuple l) e = if l.length = gs.length then gAll gs l e else none := (rfl)
theorem ev_gTupL (gs : List Bd) (l : List PyData) (e : Env) : gTupB gs (.list l) e = if l.length = gs.length then gAll gs l e else none := (rfl)
theorem ev_gAll0 (e : Env) : gAll [] [] e = some e := (rfl)
theorem ev_gAll1 (g : Bd) (gs : List Bd) (p : PyData) (ps : List PyData) (e : Env) : gAll (g :: gs) (p :: ps) e = (g p e).bind (gAll gs ps) := (rfl)
def parv (i j : Nat) (e : Env) : List PyData → Res Flow
  | [p, q] => if i < e.length ∧ j < e.length then .ok .nx ((e.set i (some (.f p))).set j (some (.f q))) else .bad
  | _ => .bad
theorem parv_2 (i j : Nat) (e : Env) (p q : PyData) : parv i j e [p, q] = if i < e.length ∧ j < e.length then .ok .nx ((e.set i (some (.f p))).set j (some (.f q))) else .bad := (rfl)
def k1_sPar (i j : Nat) (l : List PyData) (e : Env) : Res Flow := parv i j e l
theorem ev_sPar (i j : Nat) (m : M (List PyData)) (e : Env) : sPar i j m e = (m e).bind (k1_sPar i j) := (rfl)
noncomputable def k2_whl (c : M Bool) (b : M Flow) : Res Flow → Res Flow
  | .ok .nx e2 => sWhl c b e2
  | .ok .ct e2 => sWhl c b e2
  | .ok .brk e2 => .ok .nx e2
  | .ok (.ret w) e2 => .ok (.ret w) e2
  | .exc x e2 => .exc x e2
  | .bad => .bad
noncomputable def k1_whl (c : M Bool) (b : M Flow) : Res Bool → Res Flow
  | .ok true e1 => k2_whl c b (b e1)
  | .ok false e1 => .ok .nx e1
  | .exc x e1 => .exc x e1
  | .bad => .bad
theorem wh_t (c : M Bool) (b : M Flow) (e : Env) : k1_whl c b (.ok true e) = k2_whl c b (b e) := (rfl)
theorem wh_f (c : M Bool) (b : M Flow) (e : Env) : k1_whl c b (.ok false e) = .ok .nx e := (rfl)
theorem wh_nx (c : M Bool) (b : M Flow) (e : Env) : k2_whl c b (.ok .nx e) = sWhl c b e := (rfl)
theorem wh_brk (c : M Bool) (b : M Flow) (e : Env) : k2_whl c b (.ok .brk e) = .ok .nx e := (rfl)
theorem wh_ret (c : M Bool) (b : M Flow) (w : W) (e : Env) : k2_whl c b (.ok (.ret w) e) = .ok (.ret w) e := (rfl)
theorem whl1 (c : M Bool) (b : M Flow) (e : Env) : sWhl c b e = k1_whl c b (c e) := by
  rw [sWhl_eq]
  cases c e with
  | bad => rfl
  | exc x e1 => rfl
  | ok k e1 =>
    cases k with
    | false => rfl
    | true =>
      show _ = k2_whl c b (b e1)
      dsimp only
      cases b e1 with
      | bad => rfl
      | exc x e2 => rfl
      | ok fl e2 => cases fl <;> rfl
def k1_for (g : Bd) (b : M Flow) (xs : List PyData) (fl : Flow) (e : Env) : Res Flow := match fl with
  | .nx => sForG g b xs e
  | .ct => sForG g b xs e
  | .brk => .ok .nx e
  | .ret w => .ok (.ret w) e
theorem fo_nx (g : Bd) (b : M Flow) (xs : List PyData) (e : Env) : k1_for g b xs .nx e = sForG g b xs e := (rfl)
theorem fo_ct (g : Bd) (b : M Flow) (xs : List PyData) (e : Env) : k1_for g b xs .ct e = sForG g b xs e := (rfl)
theorem fo_brk (g : Bd) (b : M Flow) (xs : List PyData) (e : Env) : k1_for g b xs .brk e = .ok .nx e := (rfl)
theorem fo_ret (g : Bd) (b : M Flow) (xs : List PyData) (w : W) (e : Env) : k1_for g b xs (.ret w) e = .ok (.ret w) e := (rfl)
def fov (g : Bd) (b : M Flow) (xs : List PyData) : Option Env → Res Flow
  | some e => (b e).bind (k1_for g b xs)
  | none => .bad
theorem fov_some (g : Bd) (b : M Flow) (xs : List PyData) (e : Env) : fov g b xs (some e) = (b e).bind (k1_for g b xs) := (rfl)
theorem for_nil (g : Bd) (b : M Flow) (e : Env) : sForG g b [] e = .ok .nx e := (rfl)
theorem for_cons (g : Bd) (b : M Flow) (x : PyData) (xs : List PyData) (e : Env) : sForG g b (x :: xs) e = fov g b xs (g x e) := by
  conv => lhs; unfold sForG
  unfold fov
  cases g x e <;> rfl
def k1_sFor (g : Bd) (b : M Flow) (l : List PyData) (e : Env) : Res Flow := sForG g b l e
theorem ev_sFor (g : Bd) (it : M (List PyData)) (b : M Flow) (e : Env) : sFor g it b e = (it e).bind (k1_sFor g b) := (rfl)
def iov (e : Env) : PyData → Res (List PyData)
  | .list l => .ok l e
  | .tuple l => .ok l e
  | .str x => .ok (signs x) e
  | .dict l => .ok (l.map (·.1)) e
  | _ => .bad
theorem iov_0 (e : Env) (l : List PyData) : iov e (.list l) = .ok l e := (rfl)
theorem iov_1 (e : Env) (l : List PyData) : iov e (.tuple l) = .ok l e := (rfl)
theorem iov_2 (e : Env) (x : Str) : iov e (.str x) = .ok (signs x) e := (rfl)
theorem iov_3 (e : Env) (l : List (PyData × PyData)) : iov e (.dict l) = .ok (l.map (·.1)) e := (rfl)
def k1_iOf (p : PyData) (e : Env) : Res (List PyData) := iov e p
theorem ev_iOf (m : M PyData) (e : Env) : iOf m e = (m e).bind k1_iOf := (rfl)
def k1_iR1 (l : List PyData) (e : Env) : Res (List PyData) := match l with
  | [.int j] => if small62 j then .ok (rangeD 0 j.toNat) e else .bad
  | _ => .bad
theorem r1_int (j : Int) (e : Env) : k1_iR1 [.int j] e = if small62 j then .ok (rangeD 0 j.toNat) e else .bad := (rfl)
theorem ev_iR1 (m : M (List PyData)) (e : Env) : iR1 m e = (m e).bind k1_iR1 := (rfl)
def k1_iR2 (l : List PyData) (e : Env) : Res (List PyData) := match l with
  | [.int i, .int j] => if small62 i && small62 j then .ok (rangeD i (j - i).toNat) e else .bad
  | _ => .bad
theorem r2_int (i j : Int) (e : Env) : k1_iR2 [.int i, .int j] e = if small62 i && small62 j then .ok (rangeD i (j - i).toNat) e else .bad := (rfl)
theorem ev_iR2 (m : M (List PyData)) (e : Env) : iR2 m e = (m e).bind k1_iR2 := (rfl)
def k1_iEn (l : List PyData) (e : Env) : Res (List PyData) := match l with
  | [.list xs] => .ok (enumD 0 xs) e
  | _ => .bad
theorem en_l (xs : List PyData) (e : Env) : k1_iEn [.list xs] e = .ok (enumD 0 xs) e := (rfl)
theorem ev_iEn (m : M (List PyData)) (e : Env) : iEn m e = (m e).bind k1_iEn := (rfl)
def k1_iZp (l : List PyData) (e : Env) : Res (List PyData) := match l with
  | [.list xs, .list ys] => .ok (zipD xs ys) e
  | [.tuple xs, .tuple ys] => .ok (zipD xs ys) e
  | _ => .bad
theorem zp_l (xs ys : List PyData) (e : Env) : k1_iZp [.list xs, .list ys] e = .ok (zipD xs ys) e := (rfl)
theorem zp_t (xs ys : List PyData) (e : Env) : k1_iZp [.tuple xs, .tuple ys] e = .ok (zipD xs ys) e := (rfl)
theorem ev_iZp (m : M (List PyData)) (e : Env) : iZp m e = (m e).bind k1_iZp := (rfl)
def k3_call (f : Fu) (xs : List Op) (e1 : Env) : FR → Res W
  | .ret w out => .ok w (backA f.io xs out e1)
  | .exc x out => .exc x (backA f.io xs out e1)
  | .bad => .bad
theorem cl_ret (f : Fu) (xs : List Op) (e1 : Env) (w : W) (out : Env) : k3_call f xs e1 (.ret w out) = .ok w (backA f.io xs out e1) := (rfl)
theorem cl_exc (f : Fu) (xs : List Op) (e1 : Env) (w : W) (out : Env) : k3_call f xs e1 (.exc w out) = .exc w (backA f.io xs out e1) := (rfl)
def k2_call (f : Fu) (xs : List Op) : Option (List W × Env) → Res W
  | some (ws, e1) => k3_call f xs e1 (f.run ws)
  | none => .bad
theorem cl_some (f : Fu) (xs : List Op) (ws : List W) (e1 : Env) : k2_call f xs (some (ws, e1)) = k3_call f xs e1 (f.run ws) := (rfl)
def k1_call (f : Fu) (xs : List Op) (e : Env) : Res W := k2_call f xs (takeA f.io xs e)
theorem ev_mCall (f : Fu) (m : M (List Op)) (e : Env) : mCall f m e = (m e).bind (k1_call f) := (rfl)
theorem tk_nil (e : Env) : takeA [] [] e = some ([], e) := (rfl)
def tkl (i : Nat) (bs : List Bool) (r : List Op) (e : Env) : Option (Option W) → Option (List W × Env)
  | some (some w) => (takeA bs r (e.set i none)).map fun q => (w :: q.1, q.2)
  | _ => none
def tkf (i : Nat) (bs : List Bool) (r : List Op) (e : Env) : Option PyData → Option (List W × Env)
  | some p => (takeA bs r (e.set i (some (.f p)))).map fun q => (.f p :: q.1, q.2)
  | none => none
theorem tk_lent (bs : List Bool) (r : List Op) (i : Nat) (e : Env) : takeA (true :: bs) (.inl i :: r) e = tkl i bs r e (e[i]?) := by simp only [takeA]; unfold tkl; rcases e[i]? with _ | _ | _ <;> rfl
theorem tkl_some (i : Nat) (bs : List Bool) (r : List Op) (e : Env) (w : W) : tkl i bs r e (some (some w)) = (takeA bs r (e.set i none)).map fun q => (w :: q.1, q.2) := (rfl)
theorem tk_frz (bs : List Bool) (r : List Op) (i : Nat) (e : Env) : takeA (false :: bs) (.inl i :: r) e = tkf i bs r e (peek e i) := by simp only [takeA]; unfold tkf; cases peek e i <;> rfl
theorem tkf_some (i : Nat) (bs : List Bool) (r : List Op) (e : Env) (p : PyData) : tkf i bs r e (some p) = (takeA bs r (e.set i (some (.f p)))).map fun q => (.f p :: q.1, q.2) := (rfl)
theorem tk_dat (b : Bool) (bs : List Bool) (r : List Op) (p : PyData) (e : Env) : takeA (b :: bs) (.inr p :: r) e = (takeA bs r e).map fun q => (.f p :: q.1, q.2) := by cases b <;> rfl
theorem bk_lent (bs : List Bool) (r : List Op) (i : Nat) (o : Option W) (os e : Env) : backA (true :: bs) (.inl i :: r) (o :: os) e = backA bs r os (e.set i o) := (rfl)
theorem bk_f (bs : List Bool) (r : List Op) (x : Op) (o : Option W) (os e : Env) : backA (false :: bs) (x :: r) (o :: os) e = backA bs r os e := by cases x <;> rfl
theorem bk_d (b : Bool) (bs : List Bool) (r : List Op) (p : PyData) (o : Option W) (os e : Env) : backA (b :: bs) (.inr p :: r) (o :: os) e = backA bs r os e := by cases b <;> rfl
theorem bk_nil (e : Env) : backA [] [] [] e = e := (rfl)
theorem mk_nil (e : Env) : mask [] e = [] := (rfl)
theorem mk_cons (b : Bool) (bs : List Bool) (o : Option W) (e : Env) : mask (b :: bs) (o :: e) = (if b = true then o else none) :: mask bs e := (rfl)
def outv (io : List Bool) : Res Flow → FR
  | .ok .nx e => .ret (.f .none) (mask io e)
  | .ok (.ret w) e => .ret w (mask io e)
  | .exc x e => .exc x (mask io e)
  | _ => .bad
theorem out_nx (io : List Bool) (e : Env) : outv io (.ok .nx e) = .ret (.f .none) (mask io e) := (rfl)
theorem out_ret (io : List Bool) (w : W) (e : Env) : outv io (.ok (.ret w) e) = .ret w (mask io e) := (rfl)
theorem out_exc (io : List Bool) (w : W) (e : Env) : outv io (.exc w e) = .exc w (mask io e) := (rfl)
theorem ev_run (io : List Bool) (ns : Nat) (m : M Flow) (ws : List W) : (mkFu io ns m).run ws = if ws.length = io.length then outv io (m (ws.map some ++ List.replicate (ns - io.length) none)) else .bad := by unfold mkFu outv; rfl
theorem ev_io (io : List Bool) (ns : Nat) (m : M Flow) : (mkFu io ns m).io = io := (rfl)
def put3 (i : Nat) (e : Env) : Option W → Res Flow
  | some w => .ok .nx (e.set i (some w))
  | none => .bad
theorem put3_some (i : Nat) (e : Env) (w : W) : put3 i e (some w) = .ok .nx (e.set i (some w)) := (rfl)
def put2 (i : Nat) (p : PyData) (y : Op) (e : Env) : Option (Option W) → Res Flow
  | some (some w) => put3 i e ((look e y).bind fun q => putAt w q p)
  | _ => .bad
theorem put2_some (i : Nat) (p : PyData) (y : Op) (e : Env) (w : W) : put2 i p y e (some (some w)) = put3 i e ((look e y).bind fun q => putAt w q p) := (rfl)
def k2_put (i : Nat) (p : PyData) (y : Op) (e : Env) : Res Flow := put2 i p y e (e[i]?)
def put1 (i : Nat) (k : M Op) (p : PyData) (e : Env) : Option (Option W) → Res Flow
  | some (some _) => (k e).bind (k2_put i p)
  | _ => .bad
theorem put1_some (i : Nat) (k : M Op) (p : PyData) (e : Env) (w : W) : put1 i k p e (some (some w)) = (k e).bind (k2_put i p) := (rfl)
def k1_put (i : Nat) (k : M Op) (p : PyData) (e : Env) : Res Flow := put1 i k p e (e[i]?)
theorem ev_sPut (i : Nat) (k : M Op) (m : M PyData) (e : Env) : sPut i k m e = (m e).bind (k1_put i k) := (rfl)
def app2 (i : Nat) (p : PyData) (e : Env) : Option (Option W) → Res W
  | some (some (.lst l)) => if l.length < sizeLine then .ok (.f .none) (e.set i (some (.lst (l ++ [p])))) else .bad
  | _ => .bad
theorem app2_l (i : Nat) (p : PyData) (e : Env) (l : List PyData) : app2 i p e (some (some (.lst l))) = if l.length < sizeLine then .ok (.f .none) (e.set i (some (.lst (l ++ [p])))) else .bad := (rfl)
def k1_app (i : Nat) (p : PyData) (e : Env) : Res W := app2 i p e (e[i]?)
def app1 (i : Nat) (m : M PyData) (e : Env) : Option (Option W) → Res W
  | some (some (.lst _)) => (m e).bind (k1_app i)
  | _ => .bad
theorem app1_l (i : Nat) (m : M PyData) (e : Env) (l : List PyData) : app1 i m e (some (some (.lst l))) = (m e).bind (k1_app i) := (rfl)
theorem ev_vApp (i : Nat) (m : M PyData) (e : Env) : vApp i m e = app1 i m e (e[i]?) := (rfl)
def i3Add (i : Nat) (a : Int) (e : Env) : Option PyData → Res Flow
  | some (.int b) => if i < e.length then .ok .nx (e.set i (some (.f (.int (a + b))))) else .bad
  | _ => .bad
theorem i3Add_int (i : Nat) (a b : Int) (e : Env) : i3Add i a e (some (.int b)) = if i < e.length then .ok .nx (e.set i (some (.f (.int (a + b))))) else .bad := (rfl)
def i2Add (i : Nat) (a : Int) (y : Op) (e : Env) : Res Flow := i3Add i a e (look e y)
def i1Add (i : Nat) (m : M Op) (e : Env) : Option PyData → Res Flow
  | some (.int a) => (m e).bind (i2Add i a)
  | _ => .bad
theorem i1Add_int (i : Nat) (m : M Op) (a : Int) (e : Env) : i1Add i m e (some (.int a)) = (m e).bind (i2Add i a) := (rfl)
theorem ev_sAdd (i : Nat) (m : M Op) (e : Env) : sAdd i m e = i1Add i m e (peek e i) := (rfl)
def i3Sub (i : Nat) (a : Int) (e : Env) : Option PyData → Res Flow
  | some (.int b) => if i < e.length then .ok .nx (e.set i (some (.f (.int (a - b))))) else .bad
  | _ => .bad
theorem i3Sub_int (i : Nat) (a b : Int) (e : Env) : i3Sub i a e (some (.int b)) = if i < e.length then .ok .nx (e.set i (some (.f (.int (a - b))))) else .bad := (rfl)
def i2Sub (i : Nat) (a : Int) (y : Op) (e : Env) : Res Flow := i3Sub i a e (look e y)
def i1Sub (i : Nat) (m : M Op) (e : Env) : Option PyData → Res Flow
  | some (.int a) => (m e).bind (i2Sub i a)
  | _ => .bad
theorem i1Sub_int (i : Nat) (m : M Op) (a : Int) (e : Env) : i1Sub i m e (some (.int a)) = (m e).bind (i2Sub i a) := (rfl)
theorem ev_sSub (i : Nat) (m : M Op) (e : Env) : sSub i m e = i1Sub i m e (peek e i) := (rfl)
theorem lk_inl (e : Env) (i : Nat) : look e (.inl i) = peek e i := (rfl)
theorem lk_inr (e : Env) (p : PyData) : look e (.inr p) = some p := (rfl)
theorem lks_nil (e : Env) : looks e [] = some [] := (rfl)
theorem lks_cons (e : Env) (x : Op) (xs : List Op) : looks e (x :: xs) = (look e x).bind fun p => (looks e xs).map (p :: ·) := (rfl)
def lc3 (own : List Nat) (g : Bd) (tt : M Bool) (elt : M PyData) (xs acc : List PyData) (p : PyData) (e : Env) : Res (List PyData) := if acc.length < sizeLine then lcG own g tt elt xs (acc ++ [p]) e else .bad
def lc2 (own : List Nat) (g : Bd) (tt : M Bool) (elt : M PyData) (xs acc : List PyData) (b : Bool) (e : Env) : Res (List PyData) := if b = true then (elt e).bind (lc3 own g tt elt xs acc) else lcG own g tt elt xs acc e
def lc1 (own : List Nat) (g : Bd) (tt : M Bool) (elt : M PyData) (xs acc : List PyData) : Option Env → Res (List PyData)
  | some e => (tt e).bind (lc2 own g tt elt xs acc)
  | none => .bad
theorem lc1_some (own : List Nat) (g : Bd) (tt : M Bool) (elt : M PyData) (xs acc : List PyData) (e : Env) : lc1 own g tt elt xs acc (some e) = (tt e).bind (lc2 own g tt elt xs acc) := (rfl)
theorem lc_nil (own : List Nat) (g : Bd) (tt : M Bool) (elt : M PyData) (acc : List PyData) (e : Env) : lcG own g tt elt [] acc e = .ok acc e := (rfl)
theorem lc_cons (own : List Nat) (g : Bd) (tt : M Bool) (elt : M PyData) (x : PyData) (xs acc : List PyData) (e : Env) : lcG own g tt elt (x :: xs) acc e = lc1 own g tt elt xs acc (g x (wipeE e own)) := by
  conv => lhs; unfold lcG
  cases g x (wipeE e own) <;> rfl
def lc0 (own : List Nat) (f : Env) : Res (List PyData) → Res W
  | .ok acc e2 => .ok (.lst acc) (unwE own f (wipeE e2 own))
  | _ => .bad
theorem lc0_ok (own : List Nat) (f : Env) (acc : List PyData) (e2 : Env) : lc0 own f (.ok acc e2) = .ok (.lst acc) (unwE own f (wipeE e2 own)) := (rfl)
def k1_vLc (own : List Nat) (g : Bd) (tt : M Bool) (elt : M PyData) (l : List PyData) (e : Env) : Res W := lc0 own (frzE own e) (lcG own g tt elt l [] (frzE own e))
theorem ev_vLc (own : List Nat) (g : Bd) (it : M (List PyData)) (tt : M Bool) (elt : M PyData) (e : Env) : vLc own g it tt elt e = (it e).bind (k1_vLc own g tt elt) := (rfl)
theorem fz_nil (e : Env) : frzE [] e = e := (rfl)
theorem fz_cons (i : Nat) (r : List Nat) (e : Env) : frzE (i :: r) e = frzE r (e.set i ((peek e i).map .f)) := (rfl)
theorem wp_nil (e : Env) : wipeE e [] = e := (rfl)
theorem wp_cons (i : Nat) (r : List Nat) (e : Env) : wipeE e (i :: r) = (wipeE e r).set i none := (rfl)
theorem uw_nil (f e : Env) : unwE [] f e = e := (rfl)
theorem uw_cons (i : Nat) (r : List Nat) (f e : Env) : unwE (i :: r) f e = unwE r f (e.set i (f.getD i none)) := (rfl)
theorem bl_nil : bools? [] = some [] := (rfl)
theorem bl_cons (b : Bool) (r : List PyData) : bools? (.bool b :: r) = (bools? r).map (b :: ·) := (rfl)
theorem in_nil : ints? [] = some [] := (rfl)
theorem in_cons (b : Int) (r : List PyData) : ints? (.int b :: r) = (ints? r).map (b :: ·) := (rfl)
theorem b_all (l : List PyData) : bAll [.list l] = (bools? l).map fun ns => .f (.bool (ns.all id)) := (rfl)
theorem b_any (l : List PyData) : bAny [.list l] = (bools? l).map fun ns => .f (.bool (ns.any id)) := (rfl)
theorem b_sum (l : List PyData) : bSum [.list l] = (ints? l).map fun ns => .f (.int ns.sum) := (rfl)
end Z

/-! Z22: what every law begins with: the pen. -/
namespace Z
open PySem
set_option hygiene false in
local macro_rules | `(tactic| walk_at "ev") => `(tactic| simp only [ev_vCon, ev_oCon, ev_dCon, ev_sNil, ev_sBrk, ev_sCnt, ev_sRetN, ev_dsNil, ev_osNil, ev_kvNil, ev_pNo, ev_vDct0, ev_bYes, ev_frz_some, ev_oVar, pk_some, ev_vFrz, pf_some, ev_vMove, pm_some, k1_dOf, ev_dOf, k1_oOf, ev_oOf, k1_vB, ev_vB, k2_vBin, k1_vBin, ev_vBin, k2_bCmp, k1_bCmp, ev_bCmp, k2_vIdx, k1_vIdx, ev_vIdx, k1_vRev, ev_vRev, k1_bNot, ev_bNot, k1_bTru, ev_bTru, k1_vIsi, ev_vIsi, k1_vBi, ev_vBi, k2_dsCons, k1_dsCons, ev_dsCons, k2_osCons, k1_osCons, ev_osCons, k3_kvCons, k2_kvCons, k1_kvCons, ev_kvCons, k1_vTup, ev_vTup, k1_vLst, ev_vLst, k1_vDct, ev_vDct, k3_vSlc, k2_vSlc, k1_vSlc, ev_vSlc, k1_pI, pIv_int, ev_pI, k1_vNeg, ngv_int, ev_vNeg, k1_bOf, bov_bool, ev_bOf, k1_bAnd, ev_bAnd, k1_bOr, ev_bOr, k1_vIf, ev_vIf, k1_sIf, ev_sIf, chv_t, chv_f, k2_bChn, k1_bChn, ev_bChn, sq_nx, sq_brk, sq_ct, sq_ret, ev_sSeq, k1_sSet, ev_sSet, k1_sEx, ev_sEx, k1_sRet, ev_sRet, bdv_some, k1_sBnd, ev_sBnd, ev_gSet, ev_gTupT, ev_gTupL, ev_gAll0, ev_gAll1, parv_2, k1_sPar, ev_sPar, wh_t, wh_f, wh_nx, wh_brk, wh_ret, fo_nx, fo_ct, fo_brk, fo_ret, fov_some, for_nil, k1_sFor, ev_sFor, iov_0, iov_1, iov_2, k1_iOf, ev_iOf, r1_int, ev_iR1, r2_int, ev_iR2, en_l, ev_iEn, zp_l, zp_t, ev_iZp, cl_ret, cl_exc, cl_some, k1_call, ev_mCall, tk_nil, tk_lent, tkl_some, tk_frz, tkf_some, tk_dat, bk_lent, bk_f, bk_d, bk_nil, mk_nil, mk_cons, out_nx, out_ret, out_exc, ev_run, ev_io, put3_some, put2_some, k2_put, put1_some, k1_put, ev_sPut, app2_l, k1_app, app1_l, ev_vApp, i3Add_int, i2Add, i1Add_int, ev_sAdd, i3Sub_int, i2Sub, i1Sub_int, ev_sSub, lk_inl, lk_inr, lks_nil, lks_cons, bind_ok, bind_exc, bind_bad, of_some, of_none, peek_nil, peek_zero, peek_zero', peek_succ, fz_f, fz_l, fz_d, bin_add, bin_sub, bin_mul, bin_fdiv, bin_mod, bin_pow, bin_adds, bin_addt, bin_addl, cmp_eq, cmp_ne, cmp_in, cmp_nin, cmp_lt, cmp_le, cmp_gt, cmp_ge, cmp_is, cmp_isn, isD_int, isD_bool, isD_str, isD_list, isD_tuple, isD_dict, tru_int, tru_bool, tru_none, tru_list, tru_tuple, item_l, item_t, put_l, eqD_int, eqD_bool, eqD_str, bind_some, map_some, bLen, bTup, bMax2, bMin2, bAbs, bInt, List.getElem?_cons_zero, List.getElem?_cons_succ, List.set_cons_zero, List.set_cons_succ, List.length_cons, List.length_nil, List.length_set, List.replicate_succ, List.replicate_zero, List.map_cons, List.map_nil, List.cons_append, List.nil_append, Option.map_some, Option.map_none, Option.bind_some, Option.bind_none, if_true, if_false, Bool.not_true, Bool.not_false, Bool.false_eq_true, Bool.true_eq_false, reduceIte, Nat.reduceAdd, Nat.reduceSub, Nat.reduceLT, Nat.reduceLeDiff, Nat.reduceEqDiff, decide_true, decide_false, Int.reduceNeg, ne_eq, not_true_eq_false, not_false_eq_true, Nat.zero_lt_succ, Nat.lt_add_one, and_self, and_true, true_and, Bool.true_and, Bool.false_and, Bool.and_true, Bool.or_true, Bool.or_false, Bool.true_or, Bool.false_or, *])
noncomputable def b_pen_spread : M Z.Flow := (sSeq (sIf (bCmp .GtE (oVar 0) (oOf (vBin .Pow (oCon (.int 10)) (oCon (.int 18))))) (sSeq (sRet (vMove 0)) sNil) sNil) (sSeq (sSet 2 (vLst (dsCons (dCon (.int 2147483629)) (dsCons (dCon (.int 2147483587)) (dsCons (dCon (.int 2147483579)) (dsCons (dCon (.int 2147483563)) (dsCons (dCon (.int 2147483549)) (dsCons (dCon (.int 2147483543)) (dsCons (dCon (.int 2147483497)) (dsCons (dCon (.int 2147483489)) dsNil)))))))))) (sSeq (sSet 2 (vBin .Add (oVar 2) (oOf (vLst (dsCons (dCon (.int 2147483477)) (dsCons (dCon (.int 2147483423)) (dsCons (dCon (.int 2147483399)) (dsCons (dCon (.int 2147483353)) (dsCons (dCon (.int 2147483323)) dsNil))))))))) (sSeq (sSet 3 (vBin .Mod (oOf (vBin .Pow (oOf (vBin .Add (oOf (vBin .Add (oOf (vBin .Mult (oOf (vBin .Mod (oVar 0) (oCon (.int 1000000007)))) (oOf (vBin .Add (oOf (vBin .Mult (oCon (.int 2)) (oVar 1))) (oCon (.int 69069)))))) (oOf (vBin .Mult (oVar 1) (oCon (.int 40503)))))) (oCon (.int 977)))) (oCon (.int 3)))) (oOf (vIdx (oVar 2) (oOf (vBin .Mod (oVar 1) (oCon (.int 13)))))))) (sSeq (sSet 4 (vBin .Mod (oOf (vBin .Pow (oOf (vBin .Add (oOf (vBin .Add (oOf (vBin .Mult (oVar 3) (oOf (vBin .Add (oVar 1) (oCon (.int 3)))))) (oOf (vBin .Mod (oVar 0) (oCon (.int 65537)))))) (oCon (.int 5)))) (oCon (.int 5)))) (oOf (vIdx (oVar 2) (oOf (vBin .Mod (oOf (vBin .Add (oVar 1) (oCon (.int 5)))) (oCon (.int 13)))))))) (sSeq (sSet 5 (vBin .Mod (oOf (vBin .Pow (oOf (vBin .Add (oOf (vBin .Add (oVar 4) (oOf (vBin .Mod (oVar 3) (oCon (.int 1009)))))) (oVar 1))) (oCon (.int 3)))) (oOf (vIdx (oVar 2) (oOf (vBin .Mod (oOf (vBin .Add (oVar 1) (oCon (.int 7)))) (oCon (.int 13)))))))) (sSeq (sRet (vBin .Add (oOf (vBin .Mult (oOf (vBin .Add (oOf (vBin .Mult (oVar 3) (oCon (.int 2147483647)))) (oVar 4))) (oCon (.int 2147483647)))) (oVar 5))) sNil)))))))
noncomputable def f_pen_spread : Fu := mkFu [false, false] 6 b_pen_spread
noncomputable def b_pen_open : M Z.Flow := (sSeq (sSet 1 (vBi bList (osCons (oOf (vSlc (oVar 0) pNo (pI (oCon (.int 12))))) osNil))) (sSeq (sFor (gTupB [(gSet 2), (gSet 3)]) (iEn (dsCons (dOf (vSlc (oVar 0) (pI (oCon (.int 12))) (pI (oCon (.int 63))))) dsNil)) (sSeq (sPut 1 (oOf (vBin .Mod (oVar 2) (oCon (.int 12)))) (dOf (vBin .Add (oOf (vIdx (oVar 1) (oOf (vBin .Mod (oVar 2) (oCon (.int 12)))))) (oVar 3)))) sNil)) (sSeq (sRet (vLst (dsCons (dOf (vFrz 1)) (dsCons (dCon (.int 0)) (dsCons (dCon (.int 0)) dsNil))))) sNil)))
noncomputable def f_pen_open : Fu := mkFu [false] 4 b_pen_open
noncomputable def b_pen_take : M Z.Flow := (sSeq (sIf (bCmp .Lt (oOf (vIdx (oVar 0) (oCon (.int 2)))) (oVar 1)) (sSeq (sSet 3 (vIdx (oVar 0) (oCon (.int 1)))) (sSeq (sSet 4 (vCon (.int 0))) (sSeq (sIf (bCmp .Lt (oVar 3) (oOf (vBi bLen (osCons (oOf (vIdx (oVar 0) (oCon (.int 0)))) osNil)))) (sSeq (sSet 4 (vIdx (oOf (vIdx (oVar 0) (oCon (.int 0)))) (oVar 3))) sNil) (sSeq (sIf (bCmp .Gt (oOf (vBi bLen (osCons (oOf (vIdx (oVar 0) (oCon (.int 0)))) osNil))) (oCon (.int 0))) (sSeq (sSet 4 (vBin .Mod (oOf (vIdx (oOf (vIdx (oVar 0) (oCon (.int 0)))) (oOf (vBin .Mod (oOf (vBin .Add (oOf (vBin .Mult (oVar 3) (oCon (.int 5)))) (oCon (.int 3)))) (oOf (vBi bLen (osCons (oOf (vIdx (oVar 0) (oCon (.int 0)))) osNil))))))) (oOf (vBin .Add (oOf (vBin .Pow (oCon (.int 10)) (oCon (.int 17)))) (oVar 3))))) sNil) sNil) sNil)) (sSeq (sPut 0 (oCon (.int 1)) (dOf (vBin .Add (oVar 3) (oCon (.int 1))))) (sSeq (sPut 0 (oCon (.int 2)) (dOf (mCall f_pen_spread (osCons (oVar 4) (osCons (oVar 3) osNil))))) sNil))))) sNil) (sSeq (sSet 2 (vBin .Mod (oOf (vIdx (oVar 0) (oCon (.int 2)))) (oVar 1))) (sSeq (sPut 0 (oCon (.int 2)) (dOf (vBin .FloorDiv (oOf (vIdx (oVar 0) (oCon (.int 2)))) (oVar 1)))) (sSeq (sRet (vMove 2)) sNil))))
noncomputable def f_pen_take : Fu := mkFu [true, false] 5 b_pen_take

theorem log2i_le {i : Int} {k : Nat} (h : i.natAbs < 2 ^ k) (hk : 0 < k) : log2i i < k := by
  unfold log2i
  by_cases h0 : i.natAbs = 0
  · rw [h0]
    simpa using hk
  · exact (Nat.log2_lt h0).mpr h
theorem mul_small {i j : Int} (hi : i.natAbs < 2 ^ 1000) (hj : j.natAbs < 2 ^ 1000) : log2i i + log2i j < 1000000 := by
  have h1 := log2i_le hi (by decide)
  have h2 := log2i_le hj (by decide)
  omega
theorem bin_mul_s {i j : Int} (hi : i.natAbs < 2 ^ 1000) (hj : j.natAbs < 2 ^ 1000) : binop .Mult (.int i) (.int j) = some (.f (.int (i * j))) := by
  rw [bin_mul, if_pos (mul_small hi hj)]
theorem ix_of {n : Nat} {i : Int} (h0 : 0 ≤ i) (h : i < n) : ix n i = some i.toNat := by
  unfold ix
  rw [if_pos h0, if_pos (by omega)]
/-- any number of thirteen -/
theorem primes_at {i : Int} (h0 : 0 ≤ i) (h : i < 13) : ∃ p : Int, ((ix 13 i).bind fun j => ([.int 2147483629, .int 2147483587, .int 2147483579, .int 2147483563, .int 2147483549, .int 2147483543, .int 2147483497, .int 2147483489, .int 2147483477, .int 2147483423, .int 2147483399, .int 2147483353, .int 2147483323] : List PyData)[j]?) = some (.int p) ∧ 2147483323 ≤ p ∧ p ≤ 2147483629 := by
  rw [ix_of h0 (by omega)]
  obtain ⟨n, rfl⟩ := Int.eq_ofNat_of_zero_le h0
  have : n < 13 := by omega
  match n, this with
  | 0, _ => exact ⟨_, rfl, by decide, by decide⟩
  | 1, _ => exact ⟨_, rfl, by decide, by decide⟩
  | 2, _ => exact ⟨_, rfl, by decide, by decide⟩
  | 3, _ => exact ⟨_, rfl, by decide, by decide⟩
  | 4, _ => exact ⟨_, rfl, by decide, by decide⟩
  | 5, _ => exact ⟨_, rfl, by decide, by decide⟩
  | 6, _ => exact ⟨_, rfl, by decide, by decide⟩
  | 7, _ => exact ⟨_, rfl, by decide, by decide⟩
  | 8, _ => exact ⟨_, rfl, by decide, by decide⟩
  | 9, _ => exact ⟨_, rfl, by decide, by decide⟩
  | 10, _ => exact ⟨_, rfl, by decide, by decide⟩
  | 11, _ => exact ⟨_, rfl, by decide, by decide⟩
  | 12, _ => exact ⟨_, rfl, by decide, by decide⟩
theorem primes_item {i : Int} (h0 : 0 ≤ i) (h : i < 13) : ∃ p : Int, item (.list [.int 2147483629, .int 2147483587, .int 2147483579, .int 2147483563, .int 2147483549, .int 2147483543, .int 2147483497, .int 2147483489, .int 2147483477, .int 2147483423, .int 2147483399, .int 2147483353, .int 2147483323]) (.int i) = some (.int p) ∧ p ≠ 0 ∧ 2147483323 ≤ p ∧ p ≤ 2147483629 := by
  obtain ⟨p, e, h1, h2⟩ := primes_at h0 h
  exact ⟨p, e, by omega, h1, h2⟩
theorem fmod13 (i : Int) : 0 ≤ i.fmod 13 ∧ i.fmod 13 < 13 := ⟨Int.fmod_nonneg_of_pos i (by decide), Int.fmod_lt_of_pos i (by decide)⟩
theorem r_spread (cell : Int) (n : Nat) (h : n < 1000000) : ∃ v : Int, f_pen_spread.run [.f (.int cell), .f (.int n)] = .ret (.f (.int v)) [none, none] := by
  unfold f_pen_spread b_pen_spread
  have e1 : binop .Pow (.int 10) (.int 18) = some (.f (.int (10 ^ 18))) := by rw [bin_pow, if_pos (by decide)]; rfl
  by_cases hc : (10 : Int) ^ 18 ≤ cell
  · refine ⟨cell, ?_⟩
    have e2 : decide ((10 : Int) ^ 18 ≤ cell) = true := decide_eq_true hc
    simp only [ev_run, ev_vCon, ev_oCon, ev_dCon, ev_sNil, ev_sBrk, ev_sCnt, ev_sRetN, ev_dsNil, ev_osNil, ev_kvNil, ev_pNo, ev_vDct0, ev_bYes, ev_frz_some, ev_oVar, pk_some, ev_vFrz, pf_some, ev_vMove, pm_some, k1_dOf, ev_dOf, k1_oOf, ev_oOf, k1_vB, ev_vB, k2_vBin, k1_vBin, ev_vBin, k2_bCmp, k1_bCmp, ev_bCmp, k2_vIdx, k1_vIdx, ev_vIdx, k1_vRev, ev_vRev, k1_bNot, ev_bNot, k1_bTru, ev_bTru, k1_vIsi, ev_vIsi, k1_vBi, ev_vBi, k2_dsCons, k1_dsCons, ev_dsCons, k2_osCons, k1_osCons, ev_osCons, k3_kvCons, k2_kvCons, k1_kvCons, ev_kvCons, k1_vTup, ev_vTup, k1_vLst, ev_vLst, k1_vDct, ev_vDct, k3_vSlc, k2_vSlc, k1_vSlc, ev_vSlc, k1_pI, pIv_int, ev_pI, k1_vNeg, ngv_int, ev_vNeg, k1_bOf, bov_bool, ev_bOf, k1_bAnd, ev_bAnd, k1_bOr, ev_bOr, k1_vIf, ev_vIf, k1_sIf, ev_sIf, chv_t, chv_f, k2_bChn, k1_bChn, ev_bChn, sq_nx, sq_brk, sq_ct, sq_ret, ev_sSeq, k1_sSet, ev_sSet, k1_sEx, ev_sEx, k1_sRet, ev_sRet, bdv_some, k1_sBnd, ev_sBnd, ev_gSet, ev_gTupT, ev_gTupL, ev_gAll0, ev_gAll1, parv_2, k1_sPar, ev_sPar, wh_t, wh_f, wh_nx, wh_brk, wh_ret, fo_nx, fo_ct, fo_brk, fo_ret, fov_some, for_nil, k1_sFor, ev_sFor, iov_0, iov_1, iov_2, k1_iOf, ev_iOf, r1_int, ev_iR1, r2_int, ev_iR2, en_l, ev_iEn, zp_l, zp_t, ev_iZp, cl_ret, cl_exc, cl_some, k1_call, ev_mCall, tk_nil, tk_lent, tkl_some, tk_frz, tkf_some, tk_dat, bk_lent, bk_f, bk_d, bk_nil, mk_nil, mk_cons, out_nx, out_ret, out_exc, ev_run, ev_io, put3_some, put2_some, k2_put, put1_some, k1_put, ev_sPut, app2_l, k1_app, app1_l, ev_vApp, i3Add_int, i2Add, i1Add_int, ev_sAdd, i3Sub_int, i2Sub, i1Sub_int, ev_sSub, lk_inl, lk_inr, lks_nil, lks_cons, bind_ok, bind_exc, bind_bad, of_some, of_none, peek_nil, peek_zero, peek_zero', peek_succ, fz_f, fz_l, fz_d, bin_add, bin_sub, bin_mul, bin_fdiv, bin_mod, bin_pow, bin_adds, bin_addt, bin_addl, cmp_eq, cmp_ne, cmp_in, cmp_nin, cmp_lt, cmp_le, cmp_gt, cmp_ge, cmp_is, cmp_isn, isD_int, isD_bool, isD_str, isD_list, isD_tuple, isD_dict, tru_int, tru_bool, tru_none, tru_list, tru_tuple, item_t, put_l, eqD_int, eqD_bool, eqD_str, bind_some, map_some, bLen, bTup, bMax2, bMin2, bAbs, bInt, List.getElem?_cons_zero, List.getElem?_cons_succ, List.set_cons_zero, List.set_cons_succ, List.length_cons, List.length_nil, List.length_set, List.replicate_succ, List.replicate_zero, List.map_cons, List.map_nil, List.cons_append, List.nil_append, Option.map_some, Option.map_none, Option.bind_some, Option.bind_none, if_true, if_false, Bool.not_true, Bool.not_false, Bool.false_eq_true, Bool.true_eq_false, reduceIte, Nat.reduceAdd, Nat.reduceSub, Nat.reduceLT, Nat.reduceLeDiff, Nat.reduceEqDiff, decide_true, decide_false, Int.reduceNeg, ne_eq, not_true_eq_false, not_false_eq_true, Nat.zero_lt_succ, Nat.lt_add_one, and_self, and_true, true_and, Bool.true_and, Bool.false_and, Bool.and_true, Bool.or_true, Bool.or_false, Bool.true_or, Bool.false_or, sizeOk_small, e1, e2]
  · have e2 : decide ((10 : Int) ^ 18 ≤ cell) = false := decide_eq_false hc
    -- the parts
    have c1 := Int.fmod_nonneg_of_pos cell (b := 1000000007) (by decide)
    have c2 := Int.fmod_lt_of_pos cell (b := 1000000007) (by decide)
    generalize hA : cell.fmod 1000000007 = A at c1 c2
    have d1 := Int.fmod_nonneg_of_pos cell (b := 65537) (by decide)
    have d2 := Int.fmod_lt_of_pos cell (b := 65537) (by decide)
    generalize hB : cell.fmod 65537 = B at d1 d2
    obtain ⟨p1, i1, z1, l1, u1⟩ := primes_item (fmod13 (n : Int)).1 (fmod13 (n : Int)).2
    obtain ⟨p2, i2, z2, l2, u2⟩ := primes_item (fmod13 ((n : Int) + 5)).1 (fmod13 ((n : Int) + 5)).2
    obtain ⟨p3, i3, z3, l3, u3⟩ := primes_item (fmod13 ((n : Int) + 7)).1 (fmod13 ((n : Int) + 7)).2
    have sm : ∀ i : Int, 0 ≤ i → i < 10 ^ 30 → i.natAbs < 2 ^ 1000 := fun i h0 h1 => by
      have : (10 : Int) ^ 30 < 2 ^ 1000 := by decide
      have : i < 2 ^ 1000 := by omega
      omega
    have hn : (0 : Int) ≤ n ∧ (n : Int) < 1000000 := by omega
    have q1 : 0 ≤ A * (2 * (n : Int) + 69069) := Int.mul_nonneg c1 (by omega)
    have q2 : A * (2 * (n : Int) + 69069) ≤ 1000000007 * 2069069 := Int.mul_le_mul (by omega) (by omega) (by omega) (by omega)
    have m1 : binop .Mult (.int 2) (.int n) = some (.f (.int (2 * n))) := bin_mul_s (by decide) (sm _ hn.1 (by omega))
    have m2 : binop .Mult (.int A) (.int (2 * (n : Int) + 69069)) = some (.f (.int (A * (2 * n + 69069)))) := bin_mul_s (sm _ c1 (by omega)) (sm _ (by omega) (by omega))
    have m3 : binop .Mult (.int n) (.int 40503) = some (.f (.int (n * 40503))) := bin_mul_s (sm _ hn.1 (by omega)) (by decide)
    have w1 : binop .Pow (.int (A * (2 * (n : Int) + 69069) + n * 40503 + 977)) (.int 3) = some (.f (.int ((A * (2 * (n : Int) + 69069) + n * 40503 + 977) ^ 3))) := by
      rw [bin_pow, if_pos ⟨by decide, by decide, by omega⟩]
      rfl
    generalize hX : (A * (2 * (n : Int) + 69069) + n * 40503 + 977) ^ 3 = X at w1
    have o1 := Int.fmod_nonneg_of_pos X (b := p1) (by omega)
    have o2 := Int.fmod_lt_of_pos X (b := p1) (by omega)
    generalize hO : X.fmod p1 = O at o1 o2
    have m4 : binop .Mult (.int O) (.int ((n : Int) + 3)) = some (.f (.int (O * (n + 3)))) := bin_mul_s (sm _ o1 (by omega)) (sm _ (by omega) (by omega))
    have q3 : 0 ≤ O * ((n : Int) + 3) := Int.mul_nonneg o1 (by omega)
    have q4 : O * ((n : Int) + 3) ≤ 2147483629 * 1000003 := Int.mul_le_mul (by omega) (by omega) (by omega) (by omega)
    have w2 : binop .Pow (.int (O * ((n : Int) + 3) + B + 5)) (.int 5) = some (.f (.int ((O * ((n : Int) + 3) + B + 5) ^ 5))) := by
      rw [bin_pow, if_pos ⟨by decide, by decide, by omega⟩]
      rfl
    generalize hY : (O * ((n : Int) + 3) + B + 5) ^ 5 = Y at w2
    have t1 := Int.fmod_nonneg_of_pos Y (b := p2) (by omega)
    have t2 := Int.fmod_lt_of_pos Y (b := p2) (by omega)
    generalize hT : Y.fmod p2 = T at t1 t2
    have r1 := Int.fmod_nonneg_of_pos O (b := 1009) (by decide)
    have r2 := Int.fmod_lt_of_pos O (b := 1009) (by decide)
    generalize hR : O.fmod 1009 = R at r1 r2
    have w3 : binop .Pow (.int (T + R + (n : Int))) (.int 3) = some (.f (.int ((T + R + (n : Int)) ^ 3))) := by
      rw [bin_pow, if_pos ⟨by decide, by decide, by omega⟩]
      rfl
    generalize hZ : (T + R + (n : Int)) ^ 3 = Z at w3
    generalize hS : Z.fmod p3 = S
    have m5 : binop .Mult (.int O) (.int 2147483647) = some (.f (.int (O * 2147483647))) := bin_mul_s (sm _ o1 (by omega)) (by decide)
    have m6 : binop .Mult (.int (O * 2147483647 + T)) (.int 2147483647) = some (.f (.int ((O * 2147483647 + T) * 2147483647))) := bin_mul_s (sm _ (by omega) (by omega)) (by decide)
    have f1 : ¬ ((1000000007 : Int) = 0) := by decide
    have f2 : ¬ ((65537 : Int) = 0) := by decide
    have f3 : ¬ ((1009 : Int) = 0) := by decide
    have f4 : ¬ ((13 : Int) = 0) := by decide
    refine ⟨(O * 2147483647 + T) * 2147483647 + S, ?_⟩
    simp only [ev_run, ev_vCon, ev_oCon, ev_dCon, ev_sNil, ev_sBrk, ev_sCnt, ev_sRetN, ev_dsNil, ev_osNil, ev_kvNil, ev_pNo, ev_vDct0, ev_bYes, ev_frz_some, ev_oVar, pk_some, ev_vFrz, pf_some, ev_vMove, pm_some, k1_dOf, ev_dOf, k1_oOf, ev_oOf, k1_vB, ev_vB, k2_vBin, k1_vBin, ev_vBin, k2_bCmp, k1_bCmp, ev_bCmp, k2_vIdx, k1_vIdx, ev_vIdx, k1_vRev, ev_vRev, k1_bNot, ev_bNot, k1_bTru, ev_bTru, k1_vIsi, ev_vIsi, k1_vBi, ev_vBi, k2_dsCons, k1_dsCons, ev_dsCons, k2_osCons, k1_osCons, ev_osCons, k3_kvCons, k2_kvCons, k1_kvCons, ev_kvCons, k1_vTup, ev_vTup, k1_vLst, ev_vLst, k1_vDct, ev_vDct, k3_vSlc, k2_vSlc, k1_vSlc, ev_vSlc, k1_pI, pIv_int, ev_pI, k1_vNeg, ngv_int, ev_vNeg, k1_bOf, bov_bool, ev_bOf, k1_bAnd, ev_bAnd, k1_bOr, ev_bOr, k1_vIf, ev_vIf, k1_sIf, ev_sIf, chv_t, chv_f, k2_bChn, k1_bChn, ev_bChn, sq_nx, sq_brk, sq_ct, sq_ret, ev_sSeq, k1_sSet, ev_sSet, k1_sEx, ev_sEx, k1_sRet, ev_sRet, bdv_some, k1_sBnd, ev_sBnd, ev_gSet, ev_gTupT, ev_gTupL, ev_gAll0, ev_gAll1, parv_2, k1_sPar, ev_sPar, wh_t, wh_f, wh_nx, wh_brk, wh_ret, fo_nx, fo_ct, fo_brk, fo_ret, fov_some, for_nil, k1_sFor, ev_sFor, iov_0, iov_1, iov_2, k1_iOf, ev_iOf, r1_int, ev_iR1, r2_int, ev_iR2, en_l, ev_iEn, zp_l, zp_t, ev_iZp, cl_ret, cl_exc, cl_some, k1_call, ev_mCall, tk_nil, tk_lent, tkl_some, tk_frz, tkf_some, tk_dat, bk_lent, bk_f, bk_d, bk_nil, mk_nil, mk_cons, out_nx, out_ret, out_exc, ev_run, ev_io, put3_some, put2_some, k2_put, put1_some, k1_put, ev_sPut, app2_l, k1_app, app1_l, ev_vApp, i3Add_int, i2Add, i1Add_int, ev_sAdd, i3Sub_int, i2Sub, i1Sub_int, ev_sSub, lk_inl, lk_inr, lks_nil, lks_cons, bind_ok, bind_exc, bind_bad, of_some, of_none, peek_nil, peek_zero, peek_zero', peek_succ, fz_f, fz_l, fz_d, bin_add, bin_sub, bin_fdiv, bin_mod, bin_adds, bin_addt, bin_addl, cmp_eq, cmp_ne, cmp_in, cmp_nin, cmp_lt, cmp_le, cmp_gt, cmp_ge, cmp_is, cmp_isn, isD_int, isD_bool, isD_str, isD_list, isD_tuple, isD_dict, tru_int, tru_bool, tru_none, tru_list, tru_tuple, item_t, put_l, eqD_int, eqD_bool, eqD_str, bind_some, map_some, bLen, bTup, bMax2, bMin2, bAbs, bInt, List.getElem?_cons_zero, List.getElem?_cons_succ, List.set_cons_zero, List.set_cons_succ, List.length_cons, List.length_nil, List.length_set, List.replicate_succ, List.replicate_zero, List.map_cons, List.map_nil, List.cons_append, List.nil_append, Option.map_some, Option.map_none, Option.bind_some, Option.bind_none, if_true, if_false, Bool.not_true, Bool.not_false, Bool.false_eq_true, Bool.true_eq_false, reduceIte, Nat.reduceAdd, Nat.reduceSub, Nat.reduceLT, Nat.reduceLeDiff, Nat.reduceEqDiff, decide_true, decide_false, Int.reduceNeg, ne_eq, not_true_eq_false, not_false_eq_true, Nat.zero_lt_succ, Nat.lt_add_one, and_self, and_true, true_and, Bool.true_and, Bool.false_and, Bool.and_true, Bool.or_true, Bool.or_false, Bool.true_or, Bool.false_or, sizeOk_small, e1, e2, hA, hB, i1, i2, i3, m1, m2, m3, m4, m5, m6, w1, w2, w3, hO, hT, hR, hS, f1, f2, f3, f4, z1, z2, z3]
end Z

/-! Z23: drawing. -/
namespace Z
open PySem
theorem io_pen_spread : f_pen_spread.io = [false, false] := rfl
theorem io_pen_open : f_pen_open.io = [false] := rfl
theorem io_pen_take : f_pen_take.io = [true, false] := rfl
/-- a list of whole numbers -/
def Ints (l : List PyData) : Prop := ∀ p ∈ l, ∃ i : Int, p = .int i
theorem ints_map (ns : List Int) : Ints (ns.map .int) := fun p hp => by
  obtain ⟨i, _, rfl⟩ := List.mem_map.mp hp
  exact ⟨i, rfl⟩
theorem Ints.get {l : List PyData} (h : Ints l) {j : Nat} (hj : j < l.length) : ∃ i : Int, l[j]? = some (.int i) := by
  obtain ⟨i, e⟩ := h l[j] (List.getElem_mem hj)
  exact ⟨i, by rw [List.getElem?_eq_getElem hj, e]⟩
theorem Ints.item {l : List PyData} (h : Ints l) {i : Int} (h0 : 0 ≤ i) (hi : i < l.length) : ∃ v : Int, item (.list l) (.int i) = some (.int v) := by
  obtain ⟨v, e⟩ := h.get (j := i.toNat) (by omega)
  refine ⟨v, ?_⟩
  rw [item_l, ix_of h0 hi]
  exact e
theorem Ints.set {l : List PyData} (h : Ints l) (j : Nat) (i : Int) : Ints (l.set j (.int i)) := fun p hp => by
  rcases List.mem_or_eq_of_mem_set hp with z | rfl
  · exact h p z
  · exact ⟨i, rfl⟩
theorem Ints.cut {l : List PyData} (h : Ints l) (lo hi : Option Int) : Ints (cut l lo hi) := fun p hp => h p (List.mem_of_mem_drop (List.mem_of_mem_take hp))
/-- the pen: n at most so often moved on -/
def Pen (n : Nat) (w : W) : Prop := ∃ cells : List PyData, ∃ a : Nat, ∃ r : Int, w = .lst [.list cells, .int a, .int r] ∧ Ints cells ∧ a ≤ n
theorem Pen.mono {n m : Nat} {w : W} (h : Pen n w) (k : n ≤ m) : Pen m w := by
  obtain ⟨c, a, r, e, i, l⟩ := h
  exact ⟨c, a, r, e, i, by omega⟩
theorem r_take {n : Nat} {w : W} (h : Pen n w) (hn : n < 900000) {m : Int} (h0 : 0 < m) (hm : m < 2 ^ 8000) :
    ∃ (v : Int) (w' : W), f_pen_take.run [w, .f (.int m)] = .ret (.f (.int v)) [some w', none] ∧ 0 ≤ v ∧ v < m ∧ Pen (n + 1) w' := by
  obtain ⟨cells, a, r, rfl, hc, ha⟩ := h
  unfold f_pen_take b_pen_take
  have hm0 : ¬ (m = 0) := by omega
  have hlog : log2i m < 9000 := by
    refine Nat.lt_of_lt_of_le (log2i_le (k := 8000) ?_ (by decide)) (by decide)
    omega
  by_cases hr : r < m
  · have e1 : decide (r < m) = true := decide_eq_true hr
    -- the cell
    have l1 : ∀ r : Int, item (.list [.list cells, .int a, .int r]) (.int 2) = some (.int r) := fun r => rfl
    have l2 : ∀ r : Int, item (.list [.list cells, .int a, .int r]) (.int 1) = some (.int a) := fun r => rfl
    have l3 : ∀ r : Int, item (.list [.list cells, .int a, .int r]) (.int 0) = some (.list cells) := fun r => rfl
    have p1 : ∀ r v : Int, putAt (.lst [.list cells, .int a, .int r]) (.int 1) (.int v) = some (.lst [.list cells, .int v, .int r]) := fun r v => rfl
    have p2 : ∀ a r v : Int, putAt (.lst [.list cells, .int a, .int r]) (.int 2) (.int v) = some (.lst [.list cells, .int a, .int v]) := fun a r v => rfl
    have l4 : ∀ a r : Int, item (.list [.list cells, .int a, .int r]) (.int 2) = some (.int r) := fun a r => rfl
    have ec : (a : Int) + 1 = ((a + 1 : Nat) : Int) := by omega
    have fin : ∀ u : Int, ∃ (v : Int) (w' : W), (FR.ret (.f (.int (u.fmod m))) [some (.lst [.list cells, .int ((a : Int) + 1), .int (u.fdiv m)]), none] : FR) = .ret (.f (.int v)) [some w', none] ∧ 0 ≤ v ∧ v < m ∧ Pen (n + 1) w' := fun u =>
      ⟨_, _, rfl, Int.fmod_nonneg_of_pos u h0, Int.fmod_lt_of_pos u h0, cells, a + 1, _, by rw [ec], hc, by omega⟩
    by_cases h1 : (a : Int) < cells.length
    · obtain ⟨c, hcell⟩ := hc.item (by omega) h1
      obtain ⟨u, hu⟩ := r_spread c a (by omega)
      have e2 : decide ((a : Int) < (cells.length : Int)) = true := decide_eq_true h1
      have := fin u
      simp only [ev_run, ev_vCon, ev_oCon, ev_dCon, ev_sNil, ev_sBrk, ev_sCnt, ev_sRetN, ev_dsNil, ev_osNil, ev_kvNil, ev_pNo, ev_vDct0, ev_bYes, ev_frz_some, ev_oVar, pk_some, ev_vFrz, pf_some, ev_vMove, pm_some, k1_dOf, ev_dOf, k1_oOf, ev_oOf, k1_vB, ev_vB, k2_vBin, k1_vBin, ev_vBin, k2_bCmp, k1_bCmp, ev_bCmp, k2_vIdx, k1_vIdx, ev_vIdx, k1_vRev, ev_vRev, k1_bNot, ev_bNot, k1_bTru, ev_bTru, k1_vIsi, ev_vIsi, k1_vBi, ev_vBi, k2_dsCons, k1_dsCons, ev_dsCons, k2_osCons, k1_osCons, ev_osCons, k3_kvCons, k2_kvCons, k1_kvCons, ev_kvCons, k1_vTup, ev_vTup, k1_vLst, ev_vLst, k1_vDct, ev_vDct, k3_vSlc, k2_vSlc, k1_vSlc, ev_vSlc, k1_pI, pIv_int, ev_pI, k1_vNeg, ngv_int, ev_vNeg, k1_bOf, bov_bool, ev_bOf, k1_bAnd, ev_bAnd, k1_bOr, ev_bOr, k1_vIf, ev_vIf, k1_sIf, ev_sIf, chv_t, chv_f, k2_bChn, k1_bChn, ev_bChn, sq_nx, sq_brk, sq_ct, sq_ret, ev_sSeq, k1_sSet, ev_sSet, k1_sEx, ev_sEx, k1_sRet, ev_sRet, bdv_some, k1_sBnd, ev_sBnd, ev_gSet, ev_gTupT, ev_gTupL, ev_gAll0, ev_gAll1, parv_2, k1_sPar, ev_sPar, wh_t, wh_f, wh_nx, wh_brk, wh_ret, fo_nx, fo_ct, fo_brk, fo_ret, fov_some, for_nil, k1_sFor, ev_sFor, iov_0, iov_1, iov_2, k1_iOf, ev_iOf, r1_int, ev_iR1, r2_int, ev_iR2, en_l, ev_iEn, zp_l, zp_t, ev_iZp, cl_ret, cl_exc, cl_some, k1_call, ev_mCall, tk_nil, tk_lent, tkl_some, tk_frz, tkf_some, tk_dat, bk_lent, bk_f, bk_d, bk_nil, mk_nil, mk_cons, out_nx, out_ret, out_exc, ev_run, ev_io, put3_some, put2_some, k2_put, put1_some, k1_put, ev_sPut, app2_l, k1_app, app1_l, ev_vApp, i3Add_int, i2Add, i1Add_int, ev_sAdd, i3Sub_int, i2Sub, i1Sub_int, ev_sSub, lk_inl, lk_inr, lks_nil, lks_cons, bind_ok, bind_exc, bind_bad, of_some, of_none, peek_nil, peek_zero, peek_zero', peek_succ, fz_f, fz_l, fz_d, bin_add, bin_sub, bin_mul, bin_fdiv, bin_mod, bin_pow, bin_adds, bin_addt, bin_addl, cmp_eq, cmp_ne, cmp_in, cmp_nin, cmp_lt, cmp_le, cmp_gt, cmp_ge, cmp_is, cmp_isn, isD_int, isD_bool, isD_str, isD_list, isD_tuple, isD_dict, tru_int, tru_bool, tru_none, tru_list, tru_tuple, item_t, eqD_int, eqD_bool, eqD_str, bind_some, map_some, bLen, bTup, bMax2, bMin2, bAbs, bInt, List.getElem?_cons_zero, List.getElem?_cons_succ, List.set_cons_zero, List.set_cons_succ, List.length_cons, List.length_nil, List.length_set, List.replicate_succ, List.replicate_zero, List.map_cons, List.map_nil, List.cons_append, List.nil_append, Option.map_some, Option.map_none, Option.bind_some, Option.bind_none, if_true, if_false, Bool.not_true, Bool.not_false, Bool.false_eq_true, Bool.true_eq_false, reduceIte, Nat.reduceAdd, Nat.reduceSub, Nat.reduceLT, Nat.reduceLeDiff, Nat.reduceEqDiff, decide_true, decide_false, Int.reduceNeg, ne_eq, not_true_eq_false, not_false_eq_true, Nat.zero_lt_succ, Nat.lt_add_one, and_self, and_true, true_and, Bool.true_and, Bool.false_and, Bool.and_true, Bool.or_true, Bool.or_false, Bool.true_or, Bool.false_or, sizeOk_small, e1, e2, l1, l2, l3, l4, p1, p2, hcell, io_pen_spread, hu, hm0, hlog]
      exact this
    · have e2 : decide ((a : Int) < (cells.length : Int)) = false := decide_eq_false h1
      by_cases h2 : (0 : Int) < cells.length
      · have e3 : decide ((0 : Int) < (cells.length : Int)) = true := decide_eq_true h2
        have m1 : binop .Mult (.int a) (.int 5) = some (.f (.int ((a : Int) * 5))) := bin_mul_s (by omega) (by decide)
        have g1 : (cells.length : Int) ≠ 0 := by omega
        obtain ⟨c, hcell⟩ := hc.item (Int.fmod_nonneg_of_pos ((a : Int) * 5 + 3) h2) (Int.fmod_lt_of_pos ((a : Int) * 5 + 3) h2)
        have w1 : binop .Pow (.int 10) (.int 17) = some (.f (.int (10 ^ 17))) := by rw [bin_pow, if_pos (by decide)]; rfl
        have g2 : ¬ ((10 : Int) ^ 17 + (a : Int) = 0) := by omega
        have g3 : ¬ ((cells.length : Int) = 0) := g1
        obtain ⟨u, hu⟩ := r_spread (c.fmod (10 ^ 17 + (a : Int))) a (by omega)
        have := fin u
        simp only [ev_run, ev_vCon, ev_oCon, ev_dCon, ev_sNil, ev_sBrk, ev_sCnt, ev_sRetN, ev_dsNil, ev_osNil, ev_kvNil, ev_pNo, ev_vDct0, ev_bYes, ev_frz_some, ev_oVar, pk_some, ev_vFrz, pf_some, ev_vMove, pm_some, k1_dOf, ev_dOf, k1_oOf, ev_oOf, k1_vB, ev_vB, k2_vBin, k1_vBin, ev_vBin, k2_bCmp, k1_bCmp, ev_bCmp, k2_vIdx, k1_vIdx, ev_vIdx, k1_vRev, ev_vRev, k1_bNot, ev_bNot, k1_bTru, ev_bTru, k1_vIsi, ev_vIsi, k1_vBi, ev_vBi, k2_dsCons, k1_dsCons, ev_dsCons, k2_osCons, k1_osCons, ev_osCons, k3_kvCons, k2_kvCons, k1_kvCons, ev_kvCons, k1_vTup, ev_vTup, k1_vLst, ev_vLst, k1_vDct, ev_vDct, k3_vSlc, k2_vSlc, k1_vSlc, ev_vSlc, k1_pI, pIv_int, ev_pI, k1_vNeg, ngv_int, ev_vNeg, k1_bOf, bov_bool, ev_bOf, k1_bAnd, ev_bAnd, k1_bOr, ev_bOr, k1_vIf, ev_vIf, k1_sIf, ev_sIf, chv_t, chv_f, k2_bChn, k1_bChn, ev_bChn, sq_nx, sq_brk, sq_ct, sq_ret, ev_sSeq, k1_sSet, ev_sSet, k1_sEx, ev_sEx, k1_sRet, ev_sRet, bdv_some, k1_sBnd, ev_sBnd, ev_gSet, ev_gTupT, ev_gTupL, ev_gAll0, ev_gAll1, parv_2, k1_sPar, ev_sPar, wh_t, wh_f, wh_nx, wh_brk, wh_ret, fo_nx, fo_ct, fo_brk, fo_ret, fov_some, for_nil, k1_sFor, ev_sFor, iov_0, iov_1, iov_2, k1_iOf, ev_iOf, r1_int, ev_iR1, r2_int, ev_iR2, en_l, ev_iEn, zp_l, zp_t, ev_iZp, cl_ret, cl_exc, cl_some, k1_call, ev_mCall, tk_nil, tk_lent, tkl_some, tk_frz, tkf_some, tk_dat, bk_lent, bk_f, bk_d, bk_nil, mk_nil, mk_cons, out_nx, out_ret, out_exc, ev_run, ev_io, put3_some, put2_some, k2_put, put1_some, k1_put, ev_sPut, app2_l, k1_app, app1_l, ev_vApp, i3Add_int, i2Add, i1Add_int, ev_sAdd, i3Sub_int, i2Sub, i1Sub_int, ev_sSub, lk_inl, lk_inr, lks_nil, lks_cons, bind_ok, bind_exc, bind_bad, of_some, of_none, peek_nil, peek_zero, peek_zero', peek_succ, fz_f, fz_l, fz_d, bin_add, bin_sub, bin_fdiv, bin_mod, bin_adds, bin_addt, bin_addl, cmp_eq, cmp_ne, cmp_in, cmp_nin, cmp_lt, cmp_le, cmp_gt, cmp_ge, cmp_is, cmp_isn, isD_int, isD_bool, isD_str, isD_list, isD_tuple, isD_dict, tru_int, tru_bool, tru_none, tru_list, tru_tuple, item_t, eqD_int, eqD_bool, eqD_str, bind_some, map_some, bLen, bTup, bMax2, bMin2, bAbs, bInt, List.getElem?_cons_zero, List.getElem?_cons_succ, List.set_cons_zero, List.set_cons_succ, List.length_cons, List.length_nil, List.length_set, List.replicate_succ, List.replicate_zero, List.map_cons, List.map_nil, List.cons_append, List.nil_append, Option.map_some, Option.map_none, Option.bind_some, Option.bind_none, if_true, if_false, Bool.not_true, Bool.not_false, Bool.false_eq_true, Bool.true_eq_false, reduceIte, Nat.reduceAdd, Nat.reduceSub, Nat.reduceLT, Nat.reduceLeDiff, Nat.reduceEqDiff, decide_true, decide_false, Int.reduceNeg, ne_eq, not_true_eq_false, not_false_eq_true, Nat.zero_lt_succ, Nat.lt_add_one, and_self, and_true, true_and, Bool.true_and, Bool.false_and, Bool.and_true, Bool.or_true, Bool.or_false, Bool.true_or, Bool.false_or, sizeOk_small, e1, e2, e3, l1, l2, l3, l4, p1, p2, hcell, io_pen_spread, hu, hm0, hlog, m1, g2, g3, w1]
        exact this
      · have e3 : decide ((0 : Int) < (cells.length : Int)) = false := decide_eq_false h2
        obtain ⟨u, hu⟩ := r_spread 0 a (by omega)
        have := fin u
        simp only [ev_run, ev_vCon, ev_oCon, ev_dCon, ev_sNil, ev_sBrk, ev_sCnt, ev_sRetN, ev_dsNil, ev_osNil, ev_kvNil, ev_pNo, ev_vDct0, ev_bYes, ev_frz_some, ev_oVar, pk_some, ev_vFrz, pf_some, ev_vMove, pm_some, k1_dOf, ev_dOf, k1_oOf, ev_oOf, k1_vB, ev_vB, k2_vBin, k1_vBin, ev_vBin, k2_bCmp, k1_bCmp, ev_bCmp, k2_vIdx, k1_vIdx, ev_vIdx, k1_vRev, ev_vRev, k1_bNot, ev_bNot, k1_bTru, ev_bTru, k1_vIsi, ev_vIsi, k1_vBi, ev_vBi, k2_dsCons, k1_dsCons, ev_dsCons, k2_osCons, k1_osCons, ev_osCons, k3_kvCons, k2_kvCons, k1_kvCons, ev_kvCons, k1_vTup, ev_vTup, k1_vLst, ev_vLst, k1_vDct, ev_vDct, k3_vSlc, k2_vSlc, k1_vSlc, ev_vSlc, k1_pI, pIv_int, ev_pI, k1_vNeg, ngv_int, ev_vNeg, k1_bOf, bov_bool, ev_bOf, k1_bAnd, ev_bAnd, k1_bOr, ev_bOr, k1_vIf, ev_vIf, k1_sIf, ev_sIf, chv_t, chv_f, k2_bChn, k1_bChn, ev_bChn, sq_nx, sq_brk, sq_ct, sq_ret, ev_sSeq, k1_sSet, ev_sSet, k1_sEx, ev_sEx, k1_sRet, ev_sRet, bdv_some, k1_sBnd, ev_sBnd, ev_gSet, ev_gTupT, ev_gTupL, ev_gAll0, ev_gAll1, parv_2, k1_sPar, ev_sPar, wh_t, wh_f, wh_nx, wh_brk, wh_ret, fo_nx, fo_ct, fo_brk, fo_ret, fov_some, for_nil, k1_sFor, ev_sFor, iov_0, iov_1, iov_2, k1_iOf, ev_iOf, r1_int, ev_iR1, r2_int, ev_iR2, en_l, ev_iEn, zp_l, zp_t, ev_iZp, cl_ret, cl_exc, cl_some, k1_call, ev_mCall, tk_nil, tk_lent, tkl_some, tk_frz, tkf_some, tk_dat, bk_lent, bk_f, bk_d, bk_nil, mk_nil, mk_cons, out_nx, out_ret, out_exc, ev_run, ev_io, put3_some, put2_some, k2_put, put1_some, k1_put, ev_sPut, app2_l, k1_app, app1_l, ev_vApp, i3Add_int, i2Add, i1Add_int, ev_sAdd, i3Sub_int, i2Sub, i1Sub_int, ev_sSub, lk_inl, lk_inr, lks_nil, lks_cons, bind_ok, bind_exc, bind_bad, of_some, of_none, peek_nil, peek_zero, peek_zero', peek_succ, fz_f, fz_l, fz_d, bin_add, bin_sub, bin_mul, bin_fdiv, bin_mod, bin_pow, bin_adds, bin_addt, bin_addl, cmp_eq, cmp_ne, cmp_in, cmp_nin, cmp_lt, cmp_le, cmp_gt, cmp_ge, cmp_is, cmp_isn, isD_int, isD_bool, isD_str, isD_list, isD_tuple, isD_dict, tru_int, tru_bool, tru_none, tru_list, tru_tuple, item_t, eqD_int, eqD_bool, eqD_str, bind_some, map_some, bLen, bTup, bMax2, bMin2, bAbs, bInt, List.getElem?_cons_zero, List.getElem?_cons_succ, List.set_cons_zero, List.set_cons_succ, List.length_cons, List.length_nil, List.length_set, List.replicate_succ, List.replicate_zero, List.map_cons, List.map_nil, List.cons_append, List.nil_append, Option.map_some, Option.map_none, Option.bind_some, Option.bind_none, if_true, if_false, Bool.not_true, Bool.not_false, Bool.false_eq_true, Bool.true_eq_false, reduceIte, Nat.reduceAdd, Nat.reduceSub, Nat.reduceLT, Nat.reduceLeDiff, Nat.reduceEqDiff, decide_true, decide_false, Int.reduceNeg, ne_eq, not_true_eq_false, not_false_eq_true, Nat.zero_lt_succ, Nat.lt_add_one, and_self, and_true, true_and, Bool.true_and, Bool.false_and, Bool.and_true, Bool.or_true, Bool.or_false, Bool.true_or, Bool.false_or, sizeOk_small, e1, e2, e3, l1, l2, l3, l4, p1, p2, io_pen_spread, hu, hm0, hlog]
        exact this
  · have e1 : decide (r < m) = false := decide_eq_false hr
    refine ⟨r.fmod m, .lst [.list cells, .int a, .int (r.fdiv m)], ?_, Int.fmod_nonneg_of_pos r h0, Int.fmod_lt_of_pos r h0, cells, a, _, rfl, hc, by omega⟩
    have i2 : ∀ r : Int, item (.list [.list cells, .int a, .int r]) (.int 2) = some (.int r) := fun r => rfl
    have p2 : ∀ r v : Int, putAt (.lst [.list cells, .int a, .int r]) (.int 2) (.int v) = some (.lst [.list cells, .int a, .int v]) := fun r v => rfl
    simp only [ev_run, ev_vCon, ev_oCon, ev_dCon, ev_sNil, ev_sBrk, ev_sCnt, ev_sRetN, ev_dsNil, ev_osNil, ev_kvNil, ev_pNo, ev_vDct0, ev_bYes, ev_frz_some, ev_oVar, pk_some, ev_vFrz, pf_some, ev_vMove, pm_some, k1_dOf, ev_dOf, k1_oOf, ev_oOf, k1_vB, ev_vB, k2_vBin, k1_vBin, ev_vBin, k2_bCmp, k1_bCmp, ev_bCmp, k2_vIdx, k1_vIdx, ev_vIdx, k1_vRev, ev_vRev, k1_bNot, ev_bNot, k1_bTru, ev_bTru, k1_vIsi, ev_vIsi, k1_vBi, ev_vBi, k2_dsCons, k1_dsCons, ev_dsCons, k2_osCons, k1_osCons, ev_osCons, k3_kvCons, k2_kvCons, k1_kvCons, ev_kvCons, k1_vTup, ev_vTup, k1_vLst, ev_vLst, k1_vDct, ev_vDct, k3_vSlc, k2_vSlc, k1_vSlc, ev_vSlc, k1_pI, pIv_int, ev_pI, k1_vNeg, ngv_int, ev_vNeg, k1_bOf, bov_bool, ev_bOf, k1_bAnd, ev_bAnd, k1_bOr, ev_bOr, k1_vIf, ev_vIf, k1_sIf, ev_sIf, chv_t, chv_f, k2_bChn, k1_bChn, ev_bChn, sq_nx, sq_brk, sq_ct, sq_ret, ev_sSeq, k1_sSet, ev_sSet, k1_sEx, ev_sEx, k1_sRet, ev_sRet, bdv_some, k1_sBnd, ev_sBnd, ev_gSet, ev_gTupT, ev_gTupL, ev_gAll0, ev_gAll1, parv_2, k1_sPar, ev_sPar, wh_t, wh_f, wh_nx, wh_brk, wh_ret, fo_nx, fo_ct, fo_brk, fo_ret, fov_some, for_nil, k1_sFor, ev_sFor, iov_0, iov_1, iov_2, k1_iOf, ev_iOf, r1_int, ev_iR1, r2_int, ev_iR2, en_l, ev_iEn, zp_l, zp_t, ev_iZp, cl_ret, cl_exc, cl_some, k1_call, ev_mCall, tk_nil, tk_lent, tkl_some, tk_frz, tkf_some, tk_dat, bk_lent, bk_f, bk_d, bk_nil, mk_nil, mk_cons, out_nx, out_ret, out_exc, ev_run, ev_io, put3_some, put2_some, k2_put, put1_some, k1_put, ev_sPut, app2_l, k1_app, app1_l, ev_vApp, i3Add_int, i2Add, i1Add_int, ev_sAdd, i3Sub_int, i2Sub, i1Sub_int, ev_sSub, lk_inl, lk_inr, lks_nil, lks_cons, bind_ok, bind_exc, bind_bad, of_some, of_none, peek_nil, peek_zero, peek_zero', peek_succ, fz_f, fz_l, fz_d, bin_add, bin_sub, bin_mul, bin_fdiv, bin_mod, bin_pow, bin_adds, bin_addt, bin_addl, cmp_eq, cmp_ne, cmp_in, cmp_nin, cmp_lt, cmp_le, cmp_gt, cmp_ge, cmp_is, cmp_isn, isD_int, isD_bool, isD_str, isD_list, isD_tuple, isD_dict, tru_int, tru_bool, tru_none, tru_list, tru_tuple, item_t, eqD_int, eqD_bool, eqD_str, bind_some, map_some, bLen, bTup, bMax2, bMin2, bAbs, bInt, List.getElem?_cons_zero, List.getElem?_cons_succ, List.set_cons_zero, List.set_cons_succ, List.length_cons, List.length_nil, List.length_set, List.replicate_succ, List.replicate_zero, List.map_cons, List.map_nil, List.cons_append, List.nil_append, Option.map_some, Option.map_none, Option.bind_some, Option.bind_none, if_true, if_false, Bool.not_true, Bool.not_false, Bool.false_eq_true, Bool.true_eq_false, reduceIte, Nat.reduceAdd, Nat.reduceSub, Nat.reduceLT, Nat.reduceLeDiff, Nat.reduceEqDiff, decide_true, decide_false, Int.reduceNeg, ne_eq, not_true_eq_false, not_false_eq_true, Nat.zero_lt_succ, Nat.lt_add_one, and_self, and_true, true_and, Bool.true_and, Bool.false_and, Bool.and_true, Bool.or_true, Bool.or_false, Bool.true_or, Bool.false_or, sizeOk_small, e1, i2, p2, hm0, hlog]
end Z

/-! Z24: loops by what stays true; the pen at the beginning. -/
namespace Z
open PySem
/-- a for whose turns all go on: what stays true -/
theorem forG_all {g : Bd} {b : M Flow} (P : Nat → Env → Prop) : ∀ {l : List PyData} {n : Nat} {e : Env}, P n e → (∀ (i : Nat) x, l[i]? = some x → ∀ e, P (n + i) e → ∃ e1 fl e2, g x e = some e1 ∧ b e1 = .ok fl e2 ∧ (fl = .nx ∨ fl = .ct) ∧ P (n + i + 1) e2) →
    ∃ e', sForG g b l e = .ok .nx e' ∧ P (n + l.length) e'
  | [], n, e, h, _ => ⟨e, rfl, h⟩
  | x :: xs, n, e, h, st => by
    obtain ⟨e1, fl, e2, h1, h2, h3, h4⟩ := st 0 x rfl e h
    rw [for_cons, h1, fov_some, h2, bind_ok]
    have hk : k1_for g b xs fl e2 = sForG g b xs e2 := by rcases h3 with rfl | rfl <;> rfl
    rw [hk]
    have st' : ∀ (i : Nat) y, xs[i]? = some y → ∀ e, P (n + 1 + i) e → ∃ e1 fl e2, g y e = some e1 ∧ b e1 = .ok fl e2 ∧ (fl = .nx ∨ fl = .ct) ∧ P (n + 1 + i + 1) e2 := fun i y hy e he => by
      have e1 : n + (i + 1) = n + 1 + i := by omega
      have := st (i + 1) y (by simpa using hy) e (by rw [e1]; exact he)
      rw [e1] at this
      exact this
    obtain ⟨e', q1, q2⟩ := forG_all P (n := n + 1) (l := xs) (e := e2) (by simpa using h4) st'
    refine ⟨e', q1, ?_⟩
    have e1 : n + (x :: xs).length = n + 1 + xs.length := by rw [List.length_cons]; omega
    rw [e1]
    exact q2
theorem enumD_at {l : List PyData} {i : Nat} {x : PyData} (h : (enumD 0 l)[i]? = some x) : ∃ p, l[i]? = some p ∧ x = .tuple [.int i, p] := by
  have hi : i < l.length := by
    have := (List.getElem?_eq_some_iff.mp h).1
    rwa [enumD_len] at this
  have e := List.getElem?_eq_getElem hi
  rw [enumD_get e] at h
  cases h
  exact ⟨_, e, by simp⟩
theorem rangeD_at {lo : Int} {n i : Nat} {x : PyData} (h : (rangeD lo n)[i]? = some x) : i < n ∧ x = .int (lo + i) := by
  have hi : i < n := by
    have := (List.getElem?_eq_some_iff.mp h).1
    rwa [rangeD_len] at this
  rw [rangeD_get hi] at h
  cases h
  exact ⟨hi, rfl⟩
theorem sl_l (l : List PyData) (lo hi : Option Int) : slice (.list l) (oi lo) (oi hi) = some (.lst (cut l lo hi)) := by
  cases lo <;> cases hi <;> rfl
theorem sl_t (l : List PyData) (lo hi : Option Int) : slice (.tuple l) (oi lo) (oi hi) = some (.f (.tuple (cut l lo hi))) := by
  cases lo <;> cases hi <;> rfl
theorem cut_nn (l : List PyData) (a b : Nat) : cut l (some (a : Int)) (some (b : Int)) = (l.drop (min a l.length)).take (min b l.length - min a l.length) := by
  unfold cut
  rw [HT.sIx_nat, HT.sIx_nat]
theorem cut_0n (l : List PyData) (b : Nat) : cut l none (some (b : Int)) = l.take (min b l.length) := by
  unfold cut
  rw [HT.sIx_nat, HT.sIx_none]
  simp
theorem cut_n0 (l : List PyData) (a : Nat) : cut l (some (a : Int)) none = l.drop (min a l.length) := by
  unfold cut
  rw [HT.sIx_nat, HT.sIx_none]
  rw [List.take_of_length_le (by rw [List.length_drop]; exact Nat.le_refl _)]
theorem r_open {l : List PyData} (hl : Ints l) : ∃ w, f_pen_open.run [.f (.list l)] = .ret w [none] ∧ Pen 0 w := by
  unfold f_pen_open b_pen_open
  have s1 : slice (.list l) (oi none) (oi (some 12)) = some (.lst (cut l none (some 12))) := sl_l _ _ _
  have s2 : slice (.list l) (oi (some 12)) (oi (some 63)) = some (.lst (cut l (some 12) (some 63))) := sl_l _ _ _
  have c1 : cut l none (some 12) = l.take (min 12 l.length) := cut_0n l 12
  have c2 : cut l (some 12) (some 63) = (l.drop (min 12 l.length)).take (min 63 l.length - min 12 l.length) := cut_nn l 12 63
  have hi : ∀ v, v ∈ cut l (some 12) (some 63) → ∃ i : Int, v = .int i := (hl.cut _ _)
  have hc : Ints (cut l none (some 12)) := hl.cut _ _
  have b1 : bList [.list (cut l none (some 12))] = some (.lst (cut l none (some 12))) := rfl
  -- the loop
  obtain ⟨e', q1, cells, x, y, q2, q3⟩ := forG_all (g := gTupB [gSet 2, gSet 3]) (b := sSeq (sPut 1 (oOf (vBin .Mod (oVar 2) (oCon (.int 12)))) (dOf (vBin .Add (oOf (vIdx (oVar 1) (oOf (vBin .Mod (oVar 2) (oCon (.int 12)))))) (oVar 3)))) sNil)
    (fun _ e => ∃ cells x y, e = [some (.f (.list l)), some (.lst cells), x, y] ∧ Ints cells ∧ cells.length = (cut l none (some 12)).length) (l := enumD 0 (cut l (some 12) (some 63))) (n := 0) (e := [some (.f (.list l)), some (.lst (cut l none (some 12))), none, none])
    ⟨_, _, _, rfl, hc, rfl⟩ (fun i x hx e he => by
      obtain ⟨cells, y, z, rfl, h1, h2⟩ := he
      obtain ⟨p, hp, rfl⟩ := enumD_at hx
      obtain ⟨v, rfl⟩ := hi p (List.mem_of_getElem? hp)
      have hlen : cells.length = 12 := by
        rw [h2, c1]
        have := (List.getElem?_eq_some_iff.mp hp).1
        rw [c2, List.length_take, List.length_drop] at this
        rw [List.length_take]
        omega
      have k0 := Int.fmod_nonneg_of_pos (i : Int) (b := 12) (by decide)
      have k1 := Int.fmod_lt_of_pos (i : Int) (b := 12) (by decide)
      obtain ⟨u, hu⟩ := h1.item k0 (by rw [hlen]; exact k1)
      have hp2 : ∀ w, putAt (.lst cells) (.int ((i : Int).fmod 12)) w = some (.lst (cells.set ((i : Int).fmod 12).toNat w)) := fun w => by
        rw [put_l, ix_of k0 (by rw [hlen]; exact k1)]
        rfl
      have f12 : ¬ ((12 : Int) = 0) := by decide
      refine ⟨[some (.f (.list l)), some (.lst cells), some (.f (.int i)), some (.f (.int v))], .nx, _, ?_, ?_, .inl rfl, cells.set ((i : Int).fmod 12).toNat (.int (u + v)), some (.f (.int i)), some (.f (.int v)), rfl, h1.set _ _, by rw [List.length_set]; exact h2⟩
      · simp only [ev_vCon, ev_oCon, ev_dCon, ev_sNil, ev_sBrk, ev_sCnt, ev_sRetN, ev_dsNil, ev_osNil, ev_kvNil, ev_pNo, ev_vDct0, ev_bYes, ev_frz_some, ev_oVar, pk_some, ev_vFrz, pf_some, ev_vMove, pm_some, k1_dOf, ev_dOf, k1_oOf, ev_oOf, k1_vB, ev_vB, k2_vBin, k1_vBin, ev_vBin, k2_bCmp, k1_bCmp, ev_bCmp, k2_vIdx, k1_vIdx, ev_vIdx, k1_vRev, ev_vRev, k1_bNot, ev_bNot, k1_bTru, ev_bTru, k1_vIsi, ev_vIsi, k1_vBi, ev_vBi, k2_dsCons, k1_dsCons, ev_dsCons, k2_osCons, k1_osCons, ev_osCons, k3_kvCons, k2_kvCons, k1_kvCons, ev_kvCons, k1_vTup, ev_vTup, k1_vLst, ev_vLst, k1_vDct, ev_vDct, k3_vSlc, k2_vSlc, k1_vSlc, ev_vSlc, k1_pI, pIv_int, ev_pI, k1_vNeg, ngv_int, ev_vNeg, k1_bOf, bov_bool, ev_bOf, k1_bAnd, ev_bAnd, k1_bOr, ev_bOr, k1_vIf, ev_vIf, k1_sIf, ev_sIf, chv_t, chv_f, k2_bChn, k1_bChn, ev_bChn, sq_nx, sq_brk, sq_ct, sq_ret, ev_sSeq, k1_sSet, ev_sSet, k1_sEx, ev_sEx, k1_sRet, ev_sRet, bdv_some, k1_sBnd, ev_sBnd, ev_gSet, ev_gTupT, ev_gTupL, ev_gAll0, ev_gAll1, parv_2, k1_sPar, ev_sPar, wh_t, wh_f, wh_nx, wh_brk, wh_ret, fo_nx, fo_ct, fo_brk, fo_ret, fov_some, for_nil, k1_sFor, ev_sFor, iov_0, iov_1, iov_2, k1_iOf, ev_iOf, r1_int, ev_iR1, r2_int, ev_iR2, en_l, ev_iEn, zp_l, zp_t, ev_iZp, cl_ret, cl_exc, cl_some, k1_call, ev_mCall, tk_nil, tk_lent, tkl_some, tk_frz, tkf_some, tk_dat, bk_lent, bk_f, bk_d, bk_nil, mk_nil, mk_cons, out_nx, out_ret, out_exc, ev_run, ev_io, put3_some, put2_some, k2_put, put1_some, k1_put, ev_sPut, app2_l, k1_app, app1_l, ev_vApp, i3Add_int, i2Add, i1Add_int, ev_sAdd, i3Sub_int, i2Sub, i1Sub_int, ev_sSub, lk_inl, lk_inr, lks_nil, lks_cons, bind_ok, bind_exc, bind_bad, of_some, of_none, peek_nil, peek_zero, peek_zero', peek_succ, fz_f, fz_l, fz_d, bin_add, bin_sub, bin_mul, bin_fdiv, bin_mod, bin_pow, bin_adds, bin_addt, bin_addl, cmp_eq, cmp_ne, cmp_in, cmp_nin, cmp_lt, cmp_le, cmp_gt, cmp_ge, cmp_is, cmp_isn, isD_int, isD_bool, isD_str, isD_list, isD_tuple, isD_dict, tru_int, tru_bool, tru_none, tru_list, tru_tuple, item_t, eqD_int, eqD_bool, eqD_str, bind_some, map_some, bLen, bTup, bMax2, bMin2, bAbs, bInt, List.getElem?_cons_zero, List.getElem?_cons_succ, List.set_cons_zero, List.set_cons_succ, List.length_cons, List.length_nil, List.length_set, List.replicate_succ, List.replicate_zero, List.map_cons, List.map_nil, List.cons_append, List.nil_append, Option.map_some, Option.map_none, Option.bind_some, Option.bind_none, if_true, if_false, Bool.not_true, Bool.not_false, Bool.false_eq_true, Bool.true_eq_false, reduceIte, Nat.reduceAdd, Nat.reduceSub, Nat.reduceLT, Nat.reduceLeDiff, Nat.reduceEqDiff, decide_true, decide_false, Int.reduceNeg, ne_eq, not_true_eq_false, not_false_eq_true, Nat.zero_lt_succ, Nat.lt_add_one, and_self, and_true, true_and, Bool.true_and, Bool.false_and, Bool.and_true, Bool.or_true, Bool.or_false, Bool.true_or, Bool.false_or, sizeOk_small]
      · simp only [ev_vCon, ev_oCon, ev_dCon, ev_sNil, ev_sBrk, ev_sCnt, ev_sRetN, ev_dsNil, ev_osNil, ev_kvNil, ev_pNo, ev_vDct0, ev_bYes, ev_frz_some, ev_oVar, pk_some, ev_vFrz, pf_some, ev_vMove, pm_some, k1_dOf, ev_dOf, k1_oOf, ev_oOf, k1_vB, ev_vB, k2_vBin, k1_vBin, ev_vBin, k2_bCmp, k1_bCmp, ev_bCmp, k2_vIdx, k1_vIdx, ev_vIdx, k1_vRev, ev_vRev, k1_bNot, ev_bNot, k1_bTru, ev_bTru, k1_vIsi, ev_vIsi, k1_vBi, ev_vBi, k2_dsCons, k1_dsCons, ev_dsCons, k2_osCons, k1_osCons, ev_osCons, k3_kvCons, k2_kvCons, k1_kvCons, ev_kvCons, k1_vTup, ev_vTup, k1_vLst, ev_vLst, k1_vDct, ev_vDct, k3_vSlc, k2_vSlc, k1_vSlc, ev_vSlc, k1_pI, pIv_int, ev_pI, k1_vNeg, ngv_int, ev_vNeg, k1_bOf, bov_bool, ev_bOf, k1_bAnd, ev_bAnd, k1_bOr, ev_bOr, k1_vIf, ev_vIf, k1_sIf, ev_sIf, chv_t, chv_f, k2_bChn, k1_bChn, ev_bChn, sq_nx, sq_brk, sq_ct, sq_ret, ev_sSeq, k1_sSet, ev_sSet, k1_sEx, ev_sEx, k1_sRet, ev_sRet, bdv_some, k1_sBnd, ev_sBnd, ev_gSet, ev_gTupT, ev_gTupL, ev_gAll0, ev_gAll1, parv_2, k1_sPar, ev_sPar, wh_t, wh_f, wh_nx, wh_brk, wh_ret, fo_nx, fo_ct, fo_brk, fo_ret, fov_some, for_nil, k1_sFor, ev_sFor, iov_0, iov_1, iov_2, k1_iOf, ev_iOf, r1_int, ev_iR1, r2_int, ev_iR2, en_l, ev_iEn, zp_l, zp_t, ev_iZp, cl_ret, cl_exc, cl_some, k1_call, ev_mCall, tk_nil, tk_lent, tkl_some, tk_frz, tkf_some, tk_dat, bk_lent, bk_f, bk_d, bk_nil, mk_nil, mk_cons, out_nx, out_ret, out_exc, ev_run, ev_io, put3_some, put2_some, k2_put, put1_some, k1_put, ev_sPut, app2_l, k1_app, app1_l, ev_vApp, i3Add_int, i2Add, i1Add_int, ev_sAdd, i3Sub_int, i2Sub, i1Sub_int, ev_sSub, lk_inl, lk_inr, lks_nil, lks_cons, bind_ok, bind_exc, bind_bad, of_some, of_none, peek_nil, peek_zero, peek_zero', peek_succ, fz_f, fz_l, fz_d, bin_add, bin_sub, bin_mul, bin_fdiv, bin_mod, bin_pow, bin_adds, bin_addt, bin_addl, cmp_eq, cmp_ne, cmp_in, cmp_nin, cmp_lt, cmp_le, cmp_gt, cmp_ge, cmp_is, cmp_isn, isD_int, isD_bool, isD_str, isD_list, isD_tuple, isD_dict, tru_int, tru_bool, tru_none, tru_list, tru_tuple, item_t, eqD_int, eqD_bool, eqD_str, bind_some, map_some, bLen, bTup, bMax2, bMin2, bAbs, bInt, List.getElem?_cons_zero, List.getElem?_cons_succ, List.set_cons_zero, List.set_cons_succ, List.length_cons, List.length_nil, List.length_set, List.replicate_succ, List.replicate_zero, List.map_cons, List.map_nil, List.cons_append, List.nil_append, Option.map_some, Option.map_none, Option.bind_some, Option.bind_none, if_true, if_false, Bool.not_true, Bool.not_false, Bool.false_eq_true, Bool.true_eq_false, reduceIte, Nat.reduceAdd, Nat.reduceSub, Nat.reduceLT, Nat.reduceLeDiff, Nat.reduceEqDiff, decide_true, decide_false, Int.reduceNeg, ne_eq, not_true_eq_false, not_false_eq_true, Nat.zero_lt_succ, Nat.lt_add_one, and_self, and_true, true_and, Bool.true_and, Bool.false_and, Bool.and_true, Bool.or_true, Bool.or_false, Bool.true_or, Bool.false_or, sizeOk_small, hu, hp2, f12])
  subst q2
  refine ⟨.lst [.list cells, .int 0, .int 0], ?_, cells, 0, 0, rfl, q3.1, Nat.le_refl _⟩
  simp only [ev_run, ev_vCon, ev_oCon, ev_dCon, ev_sNil, ev_sBrk, ev_sCnt, ev_sRetN, ev_dsNil, ev_osNil, ev_kvNil, ev_pNo, ev_vDct0, ev_bYes, ev_frz_some, ev_oVar, pk_some, ev_vFrz, pf_some, ev_vMove, pm_some, k1_dOf, ev_dOf, k1_oOf, ev_oOf, k1_vB, ev_vB, k2_vBin, k1_vBin, ev_vBin, k2_bCmp, k1_bCmp, ev_bCmp, k2_vIdx, k1_vIdx, ev_vIdx, k1_vRev, ev_vRev, k1_bNot, ev_bNot, k1_bTru, ev_bTru, k1_vIsi, ev_vIsi, k1_vBi, ev_vBi, k2_dsCons, k1_dsCons, ev_dsCons, k2_osCons, k1_osCons, ev_osCons, k3_kvCons, k2_kvCons, k1_kvCons, ev_kvCons, k1_vTup, ev_vTup, k1_vLst, ev_vLst, k1_vDct, ev_vDct, k3_vSlc, k2_vSlc, k1_vSlc, ev_vSlc, k1_pI, pIv_int, ev_pI, k1_vNeg, ngv_int, ev_vNeg, k1_bOf, bov_bool, ev_bOf, k1_bAnd, ev_bAnd, k1_bOr, ev_bOr, k1_vIf, ev_vIf, k1_sIf, ev_sIf, chv_t, chv_f, k2_bChn, k1_bChn, ev_bChn, sq_nx, sq_brk, sq_ct, sq_ret, ev_sSeq, k1_sSet, ev_sSet, k1_sEx, ev_sEx, k1_sRet, ev_sRet, bdv_some, k1_sBnd, ev_sBnd, ev_gSet, ev_gTupT, ev_gTupL, ev_gAll0, ev_gAll1, parv_2, k1_sPar, ev_sPar, wh_t, wh_f, wh_nx, wh_brk, wh_ret, fo_nx, fo_ct, fo_brk, fo_ret, fov_some, for_nil, k1_sFor, ev_sFor, iov_0, iov_1, iov_2, k1_iOf, ev_iOf, r1_int, ev_iR1, r2_int, ev_iR2, en_l, ev_iEn, zp_l, zp_t, ev_iZp, cl_ret, cl_exc, cl_some, k1_call, ev_mCall, tk_nil, tk_lent, tkl_some, tk_frz, tkf_some, tk_dat, bk_lent, bk_f, bk_d, bk_nil, mk_nil, mk_cons, out_nx, out_ret, out_exc, ev_run, ev_io, put3_some, put2_some, k2_put, put1_some, k1_put, ev_sPut, app2_l, k1_app, app1_l, ev_vApp, i3Add_int, i2Add, i1Add_int, ev_sAdd, i3Sub_int, i2Sub, i1Sub_int, ev_sSub, lk_inl, lk_inr, lks_nil, lks_cons, bind_ok, bind_exc, bind_bad, of_some, of_none, peek_nil, peek_zero, peek_zero', peek_succ, fz_f, fz_l, fz_d, bin_add, bin_sub, bin_mul, bin_fdiv, bin_mod, bin_pow, bin_adds, bin_addt, bin_addl, cmp_eq, cmp_ne, cmp_in, cmp_nin, cmp_lt, cmp_le, cmp_gt, cmp_ge, cmp_is, cmp_isn, isD_int, isD_bool, isD_str, isD_list, isD_tuple, isD_dict, tru_int, tru_bool, tru_none, tru_list, tru_tuple, item_t, eqD_int, eqD_bool, eqD_str, bind_some, map_some, bLen, bTup, bMax2, bMin2, bAbs, bInt, List.getElem?_cons_zero, List.getElem?_cons_succ, List.set_cons_zero, List.set_cons_succ, List.length_cons, List.length_nil, List.length_set, List.replicate_succ, List.replicate_zero, List.map_cons, List.map_nil, List.cons_append, List.nil_append, Option.map_some, Option.map_none, Option.bind_some, Option.bind_none, if_true, if_false, Bool.not_true, Bool.not_false, Bool.false_eq_true, Bool.true_eq_false, reduceIte, Nat.reduceAdd, Nat.reduceSub, Nat.reduceLT, Nat.reduceLeDiff, Nat.reduceEqDiff, decide_true, decide_false, Int.reduceNeg, ne_eq, not_true_eq_false, not_false_eq_true, Nat.zero_lt_succ, Nat.lt_add_one, and_self, and_true, true_and, Bool.true_and, Bool.false_and, Bool.and_true, Bool.or_true, Bool.or_false, Bool.true_or, Bool.false_or, sizeOk_small, s1, s2, b1, q1]
end Z

/-! Z25: isinstance with a tuple of types. -/
namespace Z
open PySem PySem.Spec PyProof.Rows L2
def tyNm : PyData → String
  | .none => "NoneType"
  | .bool _ => "bool"
  | .int _ => "int"
  | .str _ => "str"
  | .list _ => "list"
  | .tuple _ => "tuple"
  | .dict _ => "dict"
def isN (t n : String) : Bool := t == n || (n == "bool" && t == "int")
theorem isN_kit : ∀ n ∈ ["NoneType", "bool", "int", "str", "list", "tuple", "dict"], ∀ t ∈ ["int", "bool", "str", "list", "tuple", "dict"], kitB n t = some (isN t n) := by decide +kernel
theorem tyNm_mem (p : PyData) : tyNm p ∈ ["NoneType", "bool", "int", "str", "list", "tuple", "dict"] := by cases p <;> simp [tyNm]
theorem isD_isN (p : PyData) : ∀ t ∈ ["int", "bool", "str", "list", "tuple", "dict"], isD t p = isN t (tyNm p) := by
  intro t hm
  simp only [List.mem_cons, List.not_mem_nil, or_false] at hm
  rcases hm with rfl | rfl | rfl | rfl | rfl | rfl <;> cases p <;> rfl
theorem kit_isD {K : PySem.W.Frag} (p : PyData) {t : String} (ht : tyOk t = true) : PySem.W.kitOne K (.type (tyNm p)) (.type t) = some (isD t p) := by
  have hm : t ∈ ["int", "bool", "str", "list", "tuple", "dict"] := by simpa [tyOk] using ht
  rw [isD_isN p t hm]
  exact kit_ty (isN_kit _ (tyNm_mem p) t hm)
theorem kit_isDs {K : PySem.W.Frag} (p : PyData) : ∀ {ts : List String}, (∀ t ∈ ts, tyOk t = true) → PySem.W.kitAny K (.type (tyNm p)) (ts.map Value.type) = some (ts.any (isD · p))
  | [], _ => kitAny_nil
  | t :: ts, h => by
    refine kitAny_cons (kit_isD p (h t (by simp))) (fun hb => ?_) (fun hb => ?_)
    · rw [List.any_cons, hb]
      exact kit_isDs p fun u hu => h u (by simp [hu])
    · rw [List.any_cons, hb]
      rfl
theorem kitx_reads {K : PySem.W.Frag} {h : Heap} {u : Value} {p : PyData} {as : List Addr} (r : Reads h u p as) : ∃ P : Heap → Prop, PySem.W.KitX K u (.type (tyNm p)) P ∧ P h ∧ u ≠ .builtin "__main__.__loader__#opaque" := by
  cases r with
  | none => exact ⟨_, PySem.W.kitx_none, True.intro, fun z => nomatch z⟩
  | bool b => exact ⟨_, PySem.W.kitx_bool, True.intro, fun z => nomatch z⟩
  | int n t => exact ⟨_, PySem.W.kitx_int, True.intro, fun z => nomatch z⟩
  | str x t => exact ⟨_, PySem.W.kitx_str, True.intro, fun z => nomatch z⟩
  | list h1 h2 h3 h4 => exact ⟨_, PySem.W.kitx_list, ⟨_, h1, h2⟩, fun z => nomatch z⟩
  | tuple h1 h2 h3 h4 => exact ⟨_, PySem.W.kitx_tuple, ⟨_, h1, h2⟩, fun z => nomatch z⟩
  | dict h1 h2 h3 h4 h5 => exact ⟨_, PySem.W.kitx_dict, ⟨_, h1, h2⟩, fun z => nomatch z⟩
theorem tys_all : ∀ {ts : List String} {ws : List Value}, Vals (ts.map V.ty) ws → ws = ts.map Value.type
  | [], _, .nil => rfl
  | t :: ts, _, .cons r q => by
    rw [tys_all q]
    cases r
    rfl
def vIsiT (ts : List String) (m : M Op) : M Bool := fun env => (m env).bind fun x e => .of ((look e x).map fun p => ts.any (isD · p)) e
section
variable {X : L2.Cx}
def rIsT (X : L2.Cx) : List V → Hp → VK → Prop := fun vs H Q => ∃ (F : Fz) (v : V) (p : PyData) (tp : Addr) (ts : List String), vs = [v, .ref tp] ∧ H tp = some (.tup (ts.map V.ty)) ∧ (∀ t ∈ ts, tyOk t = true) ∧ RepV X.w X.K F H v p ∧ Q (.bl (ts.any (isD · p))) H
theorem cr_isiT : CallR X (.builtin "isinstance") (rIsT X) := by
  intro pins s σ H xs us Q I r ⟨F, v, p, tp, ts, e, hT, ht, d, q⟩
  subst e
  obtain ⟨u1, u2, rfl, r1, r2⟩ := vals2 r
  cases (show u2 = Value.ref tp from r2)
  obtain ⟨as, rd⟩ := d.reads I.hok I.kIn r1
  obtain ⟨P, Z, pp, hx⟩ := kitx_reads (K := X.K) rd
  obtain ⟨_, its, rv, o, h1, h2, n, h3⟩ := (show ObjOk X.prog X.w H s.heap tp (.tup (ts.map V.ty)) from I.hok tp _ hT)
  have e3 := tys_all rv
  subst e3
  obtain ⟨oc, od, dt, sl⟩ := o
  simp only at h2 h3
  subst h2 h3
  exact PySem.W.kia_tup Z I.kIn pp h1 (kit_isDs p ht) hx fun tk => ⟨.bl _, H, I.tok tk, rfl, q⟩
/-- names of built-in types -/
structure TyNs (X : L2.Cx) (es : List Expr) (ts : List String) : Prop where
  pa : PA X es fun _ H Q => Q (ts.map V.ty) H
  ok : ∀ t ∈ ts, tyOk t = true
theorem tn_nil : TyNs X [] [] := ⟨pa_nil, fun _ h => by simp at h⟩
theorem tn_cons {t : String} {y : Str} {p : Pos} {es : List Expr} {ts : List String} (ht : tyOk t = true) (hg : Gl X y) (hm : X.mg y = none) (hv : bootBuiltins y = some (.type t)) (h : TyNs X es ts) (hn : y ≠ "__name__" := by decide) (hd : (y == ("__debug__" : Str)) = false := by decide)
    (he : starEach (.Name y p :: es) X.env = (false, eval (.Name y p) X.env) :: starEach es X.env := by rfl) : TyNs X (.Name y p :: es) (t :: ts) :=
  ⟨pa_cons (pe_bltn (v := .ty t) hg hm hv rfl hn hd) h.pa he, fun u hu => by
    simp only [List.mem_cons] at hu
    rcases hu with rfl | hu
    · exact ht
    · exact h.ok u hu⟩
theorem z_isiT {a : Expr} {es : List Expr} {ts : List String} {m : M Op} {p p2 pos : Pos} {c : Nat} (h : ZO X a m) (hts : TyNs X es ts) (hg : Gl X "isinstance") (hm : X.mg "isinstance" = none) (hsz : ts.length ≤ 1000 := by decide)
    (he : starEach [a, .Tuple es c p2] X.env = (false, eval a X.env) :: starEach [.Tuple es c p2] X.env := by rfl) (hpl : (backTo pos (starEach [.Tuple es c p2] X.env)).any (·.1) = false := by rfl) (he2 : starEach [.Tuple es c p2] X.env = (false, eval (.Tuple es c p2) X.env) :: starEach [] X.env := by rfl) :
    ZB X (.Call (.Name "isinstance" p) [a, .Tuple es c p2] [] pos) (vIsiT ts m) :=
  ⟨fun U tk => (pe_callB cr_isiT hg hm (by rfl) (pa_cons (h.run U tk) (pa_cons (pe_tup hts.pa) pa_nil he2) he) (by decide) (by decide) he hpl).weak fun σ H Q ⟨F, fp, env, r, g⟩ => ⟨F, fp, env, r, g.bnd fun xo e1 F1 fp1 H1 st1 g1 x r1 o1 => by
    obtain ⟨z, ez, g2⟩ := g1.of
    obtain ⟨d, ed, rfl⟩ := Option.map_eq_some_iff.mp ez
    refine ⟨?_, fun tp n => ?_⟩
    · rw [List.length_map]
      exact Nat.le_of_lt (small1000 hsz)
    · obtain ⟨st, r2, kp⟩ := r1.newF (o := .tup (ts.map V.ty)) n
      exact ⟨_, x, d, tp, ts, rfl, upd_same, hts.ok, OpR.look (OpR.mono o1 kp) r2 ed, (g2.step st).here _ r2 rfl⟩⟩⟩
end
/-! ### constants of the module -/
def GlC (mg : Str → Option Value) (x : Str) (v : V) : Prop := ∃ u, mg x = some u ∧ RelV v u
section
variable {X : L2.Cx} {x : Str} {pos : Pos} {p : PyData} {v : V}
theorem z_gl (g : GlC X.mg x v) (hg : Gl X x) (h : cV p = some v) (hd : (x == ("__debug__" : Str)) = false := by decide) : ZV X (.Name x pos) (vCon p) := by
  obtain ⟨u, hm, r⟩ := g
  exact zc h (pe_glob hg hm r hd)
theorem zo_gl (g : GlC X.mg x v) (hg : Gl X x) (h : cV p = some v) (hd : (x == ("__debug__" : Str)) = false := by decide) : ZO X (.Name x pos) (oCon p) := by
  obtain ⟨u, hm, r⟩ := g
  exact zco h (pe_glob hg hm r hd)
theorem zd_gl (g : GlC X.mg x v) (hg : Gl X x) (h : cV p = some v) (hd : (x == ("__debug__" : Str)) = false := by decide) : ZD X (.Name x pos) (dCon p) := by
  obtain ⟨u, hm, r⟩ := g
  exact zcd h (pe_glob hg hm r hd)
end
end Z

/-! Zdv: methods of a dict; its views are walked. -/
namespace Z
open PySem PySem.Spec PyProof.Rows L2
/-- the receiver's type, whatever the state -/
def TyG (X : L2.Cx) (T : String) (x : V) (H : Hp) : Prop := ∀ (pins : List (Addr × Obj)) (σ : L2.St) (s : Shared) (v : Value), L2.Inv X pins σ H s → RelV x v → s.TypeIs v T ∧ ∀ a, v = .ref a → ∃ ob, s.heap.get? a = some ob ∧ ob.dict = none
theorem tyG_dict {X : L2.Cx} {H : Hp} {d : Addr} {es : List (Int × V × V)} (h : RdD H d es) : TyG X "dict" (.ref d) H := fun pins σ s v I r => by
  cases r
  obtain ⟨⟨o, ents, ep, ho, hc, hd, pr⟩, _⟩ := h.ok I.hok
  exact ⟨⟨o, ho, hc.1⟩, fun a e => by cases e; exact ⟨o, ho, hc.2.1⟩⟩
theorem tyG_of {X : L2.Cx} {T : String} {x : V} {H : Hp} (h : tyV X.K T x H) : TyG X T x H := fun pins σ s v I r => tyV_is I r h
section
variable {X : L2.Cx} {o e : Expr} {es : List Expr} {to : TE} {t : TA} {name : Str} {apos cpos : Pos} {T id : String} {r : V → List V → Hp → VK → Prop}
def tBM0G (X : L2.Cx) (T : String) (r : V → List V → Hp → VK → Prop) (to : TE) : TE := fun σ H Q => to σ H fun x H1 => TyG X T x H1 ∧ r x [] H1 Q
def tBMG (X : L2.Cx) (T : String) (r : V → List V → Hp → VK → Prop) (to : TE) (t : TA) : TE := fun σ H Q => to σ H fun x H1 => TyG X T x H1 ∧ t σ H1 fun xs H2 => r x xs H2 Q
theorem pe_bm0G (pa : PlainAttrs T) (slot : Slot T name id) (hty : typeOf (.builtin id) = pure (.type "method_descriptor")) (hm : MtR X id r) (ho : PE X o to)
    (hbase : attributeBase o name X.env (eval o X.env) = eval o X.env := by rfl) (hline : (apos.endLine == cpos.line) = true := by rfl) : PE X (.Call (.Attribute o name apos) [] [] cpos) (tBM0G X T r to) := by
  refine ⟨fun pins s σ H Q I h => ?_⟩
  refine wpAny_Call_method0_late hbase hline (thn (ho.run pins s σ H _ I h) fun v s1 ⟨x, H1, I1, r1, ty, q1⟩ => ?_)
  obtain ⟨h1, h2⟩ := ty pins σ s1 v I1 r1
  exact ⟨T, id, pa, slot, hty, h1, h2, Calls.callWith_builtin rfl (PySem.evalArgs_none (hm pins s1 σ H1 x [] v [] Q I1 r1 .nil q1))⟩
theorem pe_bmG (pa : PlainAttrs T) (slot : Slot T name id) (hty : typeOf (.builtin id) = pure (.type "method_descriptor")) (hm : MtR X id r) (ho : PE X o to) (ha : PA X (e :: es) t)
    (hbase : attributeBase o name X.env (eval o X.env) = eval o X.env := by rfl)
    (hfew : ((backTo cpos (starEach (e :: es) X.env)).all (fun x => !x.1) && (backToKw cpos (keywordEach [] X.env)).all (fun x => x.1.isSome)
      && decide ((e :: es).length + ([] : List Keyword).length + (if ([] : List Keyword).isEmpty then 0 else 1) < 30)) = true := by rfl)
    (hline : (apos.endLine == cpos.line) = true := by rfl) (hs : starEach (e :: es) X.env = (false, eval e X.env) :: starEach es X.env := by rfl) (hplain : (backTo cpos (starEach es X.env)).any (·.1) = false := by rfl) :
    PE X (.Call (.Attribute o name apos) (e :: es) [] cpos) (tBMG X T r to t) := by
  refine ⟨fun pins s σ H Q I h => ?_⟩
  refine wpAny_Call_method_late hbase hfew hline rfl (thn (ho.run pins s σ H _ I h) fun v s1 ⟨x, H1, I1, r1, ty, q1⟩ => ?_)
  obtain ⟨h1, h2⟩ := ty pins σ s1 v I1 r1
  refine ⟨T, id, pa, slot, hty, h1, h2, ?_⟩
  have hA := ha.run cpos pins s1 σ H1 _ I1 q1
  rw [hs] at hA ⊢
  refine Calls.callWith_builtin (by show (false || (backTo cpos (starEach es X.env)).any (·.1)) = false; rw [hplain] <;> rfl) (Calls.evalArgs_plain ?_)
  exact thn hA fun us s2 ⟨vs, H2, I2, r2, q2⟩ => hm pins s2 σ H2 x vs v us Q I2 r1 r2 q2
/-! ### views -/
def valsO (p d : Addr) : HO := .ext fun h => h.IsValuesView p d
theorem valsO_ok {P : Program} {w : World} {H : Hp} {h : Heap} {p d : Addr} (e : h.get? p = some { cls := .type "dict_values", data := .fields #[.ref d] }) : ObjOk P w H h p (valsO p d) :=
  ⟨⟨_, e, rfl, rfl⟩, ⟨_, e⟩, fun h1 h2 x k => let ⟨o, ho, r⟩ := x; ⟨o, k o ho, r⟩⟩
def rView (vw : Addr → Addr → HO) : V → List V → Hp → VK → Prop := fun x xs H Q => ∃ (d : Addr) (es : List (Int × V × V)), x = .ref d ∧ xs = [] ∧ (d == sysModules) = false ∧ RdD H d es ∧ ∀ p, H p = none → Q (.ref p) (upd H p (vw p d))
theorem mt_itemsD : MtR X "dict.items" (rView L2.DX.itemsO) := by
  intro pins s σ H x xs v us Q I rx rxs h
  obtain ⟨d, es, rfl, rfl, hd, hr, q⟩ := h
  cases rx
  cases rxs
  obtain ⟨⟨o, ents, ep, ho, hc, hdd, pr⟩, _⟩ := hr.ok I.hok
  refine DT.callItems (es := ents) (ep := ep) hd ⟨o, ho, hc, hdd⟩ ?_
  have hf : H s.heap.objs.size = none := I.hok.fresh (Nat.le_refl _)
  exact ⟨.ref s.heap.objs.size, _, I.laid (t' := s.toks) (fun b u e => Heap.get?_push_of_some _ e) (Nat.le_refl _) (L2.DX.itemsO_ok (Heap.get?_push_size _ rfl)), rfl, q _ hf⟩
theorem turn_vals {P : Program} {w : World} {K : PySem.W.Frag} {tg : Expr} (d it : Addr) (ep n : Nat) : Turn P w K tg (ItD (fun e => e.2.2) d ep n) [it] it (fun i h => h.IsValIter it d i n ep) where
  mem := by simp
  obj := fun i h st b hb => by
    have e : b = it := by simpa using hb
    subst e
    obtain ⟨o, e, c, d⟩ := st
    exact ⟨o, e, fun v z => by rw [d] at z; cases z⟩
  keep := fun i h h' st k => st.at fun o e => k it (by simp) o e
  item := by
    intro X hP hw hK hc i pins s σ H E I hf st hg
    subst hP hw hK
    obtain ⟨es, e, hq, hn, hx⟩ := hg
    obtain ⟨ents, raw, pr⟩ := dRaw I.hok hq
    obtain ⟨de, hu, r1, r2, r3⟩ := pr_get pr hx
    have hz : ents.size = n := by rw [← hn, pr_len pr, Array.length_toList]
    have hi : i < ents.size := by
      have := (List.getElem?_eq_some_iff.mp hu).1
      rwa [Array.length_toList] at this
    have hde : ents[i] = de := by
      rw [Array.getElem?_toList, Array.getElem?_eq_getElem hi] at hu
      exact Option.some.inj hu
    obtain ⟨f0, f1, f2, f3, f4, f5⟩ := hf it (by simp)
    subst hz
    refine wpAny_pyNext_values_item_raw st raw hi fun h' st' sb => ?_
    have I1 : Inv X pins σ H { s with heap := h' } := I.turned (t' := s.toks) (fun b o hb e => (sb.2 b hb).trans e) f0 f1 f3 f4 f5
    obtain ⟨o, e0, c, dd⟩ := id st'
    refine ⟨_, rfl, go_of (s := { s with heap := h' }) e0 c dd (by decide) ⟨e.2.2, H, I1, by rw [hde]; exact r3, ⟨rfl, fun es2 hy => ?_⟩, st', fun b hb => (hf b hb).1⟩⟩
    obtain ⟨ents2, raw2, pr2⟩ := dRaw I.hok hy
    obtain rfl := raw_inj raw raw2
    have l2 : i < es2.length := by rw [pr_len pr2, Array.length_toList]; exact hi
    have g2 := List.getElem?_eq_getElem l2
    obtain ⟨de2, hu2, q1, q2, q3⟩ := pr_get pr2 g2
    rw [hu] at hu2
    cases hu2
    exact ⟨_, g2, r3.inj q3⟩
  done := by
    intro X hP hw hK hc i pins s σ H E I hf st hg
    subst hP hw hK
    obtain ⟨es, hq, hn, hx⟩ := hg
    obtain ⟨ents, raw, pr⟩ := dRaw I.hok hq
    have hz : ents.size = n := by rw [← hn, pr_len pr, Array.length_toList]
    obtain ⟨f0, f1, f2, f3, f4, f5⟩ := hf it (by simp)
    subst hz
    exact wpAny_pyNext_values_end_raw (I.ok.hd hc) st raw hx fun h' eb => ⟨rfl, I.turned (t' := s.toks) (fun b o hb e => eb b o hb e) f0 f1 f3 f4 f5⟩
  self := fun _ _ _ _ _ st h => wpAny_pyIter_valiter st h
theorem callValues {prog : Program} {w : World} {A : Around} {E : Value → Shared → Prop} {s : Shared} {d : Addr} {es : Array DictEntry} {ep : Nat} {Q : Value → Shared → Prop} (hd : (d == sysModules) = false) (hm : s.heap.DictRaw d es ep)
    (h : Q (.ref s.heap.objs.size) { s with heap := s.heap.push { cls := .type "dict_values", data := .fields #[.ref d] } }) : wpAny (model prog w) A (call (.builtin "dict.values") [.ref d]) Q E s :=
  call_meetsIn PySem.F.slot_dict_values hm.typeIs PySem.F.entry_dict_values (PySem.F.args_dict_values_1 _) (meets_dict_values_raw d hd) ⟨⟨es, ep, hm⟩, h⟩
theorem mt_valuesD : MtR X "dict.values" (rView valsO) := by
  intro pins s σ H x xs v us Q I rx rxs h
  obtain ⟨d, es, rfl, rfl, hd, hr, q⟩ := h
  cases rx
  cases rxs
  obtain ⟨⟨o, ents, ep, ho, hc, hdd, pr⟩, _⟩ := hr.ok I.hok
  refine callValues (es := ents) (ep := ep) hd ⟨o, ho, hc, hdd⟩ ?_
  have hf : H s.heap.objs.size = none := I.hok.fresh (Nat.le_refl _)
  exact ⟨.ref s.heap.objs.size, _, I.laid (t' := s.toks) (fun b u e => Heap.get?_push_of_some _ e) (Nat.le_refl _) (valsO_ok (Heap.get?_push_size _ rfl)), rfl, q _ hf⟩
/-- the pairs -/
def ItP (d : Addr) (ep n : Nat) : L2.It :=
  ⟨fun i H => ∃ es e, Rd H d (DO d ep es) ∧ es.length = n ∧ es[i]? = some e,
   fun i H x H' => ∃ T a b, x = .ref T ∧ H T = none ∧ H' = upd H T (.tup [a, b]) ∧ ∀ es, Rd H d (DO d ep es) → ∃ e, es[i]? = some e ∧ a = e.2.1 ∧ b = e.2.2,
   fun i H => ∃ es, Rd H d (DO d ep es) ∧ es.length = n ∧ n ≤ i⟩
theorem turn_items {P : Program} {w : World} {K : PySem.W.Frag} {elts : List Expr} {kk : Nat} {tpos : Pos} (d it : Addr) (ep n : Nat) (hne : d ≠ it) : Turn P w K (.Tuple elts kk tpos) (ItP d ep n) [it] it (fun i h => ∃ ok ov, IsItemIter h it d i n ep ok ov) where
  mem := by simp
  obj := fun i h st b hb => by
    have e : b = it := by simpa using hb
    subst e
    obtain ⟨ok, ov, q⟩ := st
    exact ⟨_, q, fun v z => nomatch z⟩
  keep := fun i h h' ⟨ok, ov, st⟩ k => ⟨ok, ov, k it (by simp) _ st⟩
  item := by
    intro X hP hw hK hc i pins s σ H E I hf st hg
    subst hP hw hK
    obtain ⟨es, e, hq, hn, hx⟩ := hg
    obtain ⟨ents, raw, pr⟩ := dRaw I.hok hq
    obtain ⟨de, hu, r1, r2, r3⟩ := pr_get pr hx
    have hz : ents.size = n := by rw [← hn, pr_len pr, Array.length_toList]
    have hi : i < ents.size := by
      have := (List.getElem?_eq_some_iff.mp hu).1
      rwa [Array.length_toList] at this
    have hde : ents[i] = de := by
      rw [Array.getElem?_toList, Array.getElem?_eq_getElem hi] at hu
      exact Option.some.inj hu
    subst hz
    have W := WalksT.rawItems (prog := X.prog) (w := X.w) (I.ok.hd hc) it d hne ents ep
    refine W.item i s _ _ hi ⟨st, raw⟩ fun T vals h' tk hv hT hT2 mid hk => ?_
    obtain ⟨_, rfl⟩ := hv
    refine ⟨_, rfl, W.go elts kk tpos i T { s with heap := h', toks := tk } _ _ mid fun h'' st2 hk2 => ?_⟩
    have hTn : T ∉ [it] := W.apart i T _ mid
    obtain ⟨oT, e1, e2, m, e3⟩ := hT2
    have new : ObjOk X.prog X.w (upd H T (.tup [e.2.1, e.2.2])) h'' T (.tup [e.2.1, e.2.2]) :=
      ⟨by show 2 ≤ sizeLine; decide, [ents[i].key, ents[i].val], .cons (by rw [hde]; exact r2) (.cons (by rw [hde]; exact r3) .nil), ⟨oT, hk2 T oT hTn e1, e2, m, e3⟩⟩
    have I1 : Inv X pins σ (upd H T (.tup [e.2.1, e.2.2])) { s with heap := h'', toks := tk } :=
      I.turnedNew (t' := tk) (ch := [it]) (fun c o hb q => hk2 c o hb (hk c o hb q)) hf hT new
    refine ⟨.ref T, _, I1, rfl, ⟨T, _, _, rfl, I.hok.fresh hT, rfl, fun es2 hy => ?_⟩, st2.1, fun b hb => ?_⟩
    · obtain ⟨ents2, raw2, pr2⟩ := dRaw I.hok hy
      obtain rfl := raw_inj raw raw2
      have l2 : i < es2.length := by rw [pr_len pr2, Array.length_toList]; exact hi
      have g2 := List.getElem?_eq_getElem l2
      obtain ⟨de2, hu2, q1, q2, q3⟩ := pr_get pr2 g2
      rw [hu] at hu2
      cases hu2
      exact ⟨_, g2, r2.inj q2, r3.inj q3⟩
    · have hbT : b ≠ T := fun z => hTn (by rw [← z]; exact hb)
      rw [upd_ne hbT]
      exact (hf b hb).1
  done := by
    intro X hP hw hK hc i pins s σ H E I hf st hg
    subst hP hw hK
    obtain ⟨es, hq, hn, hx⟩ := hg
    obtain ⟨ents, raw, pr⟩ := dRaw I.hok hq
    have hz : ents.size = n := by rw [← hn, pr_len pr, Array.length_toList]
    obtain ⟨f0, f1, f2, f3, f4, f5⟩ := hf it (by simp)
    subst hz
    obtain ⟨ok, ov, st⟩ := st
    exact wpAny_pyNext_items_end_raw (I.ok.hd hc) st raw hx fun h' eb => ⟨rfl, I.turned (t' := s.toks) (fun b o hb e => eb b o hb e) f0 f1 f3 f4 f5⟩
  self := fun _ _ _ _ _ ⟨_, _, st⟩ h => wpAny_pyIter_itemiter st h
end
end Z

/-! Z26: d.values(), d.items() walked. -/
namespace Z
open PySem PySem.Spec PyProof.Rows L2
section
variable {X : L2.Cx} {tg : Expr} {e : Expr} {apos cpos : Pos}
def iVwV (tl : TE) : TI := fun σ H R => tl σ H fun x H1 => ∃ p d ep es, x = .ref p ∧ H1 p = some (valsO p d) ∧ Rd H1 d (DO d ep es) ∧ R (ItD (fun e => e.2.2) d ep es.length) H1
def iVwI (tl : TE) : TI := fun σ H R => tl σ H fun x H1 => ∃ p d ep es, x = .ref p ∧ H1 p = some (L2.DX.itemsO p d) ∧ Rd H1 d (DO d ep es) ∧ R (ItP d ep es.length) H1
theorem pi_vals {l : Expr} {tl : TE} (hl : PE X l tl) : PI X tg l (iVwV tl) := by
  refine ⟨fun pins s σ H R I h => ?_⟩
  refine thn (hl.run pins s σ H _ I h) fun v s1 ⟨x, H1, I1, r1, q1⟩ => ?_
  obtain ⟨p, d, ep, es, e, hv, hq, q⟩ := q1
  subst e
  cases r1
  obtain ⟨ents, raw, pr⟩ := dRaw I1.hok hq
  have hz : ents.size = es.length := by rw [pr_len pr, Array.length_toList]
  obtain ⟨vw, _⟩ := (show ObjOk X.prog X.w H1 s1.heap p (valsO p d) from I1.hok p _ hv)
  refine wpAny_pyIter_values_raw vw raw ?_
  refine ⟨s1.heap.objs.size, [s1.heap.objs.size], _, _, H1, rfl, I1.kept (t' := s1.toks) fun b o e => Heap.get?_push_of_some _ e, turn_vals d _ ep es.length, ⟨_, Heap.get?_push_size _ rfl, rfl, by rw [hz]; rfl⟩, fun b hb => ?_, q⟩
  have e : b = s1.heap.objs.size := by simpa using hb
  subst e
  exact I1.fpOk (Nat.le_refl _) (I1.hok.fresh (Nat.le_refl _))
theorem pi_items {l : Expr} {tl : TE} {elts : List Expr} {kk : Nat} {tpos : Pos} (hl : PE X l tl) : PI X (.Tuple elts kk tpos) l (iVwI tl) := by
  refine ⟨fun pins s σ H R I h => ?_⟩
  refine thn (hl.run pins s σ H _ I h) fun v s1 ⟨x, H1, I1, r1, q1⟩ => ?_
  obtain ⟨p, d, ep, es, e, hv, hq, q⟩ := q1
  subst e
  cases r1
  obtain ⟨ents, raw, pr⟩ := dRaw I1.hok hq
  have hz : ents.size = es.length := by rw [pr_len pr, Array.length_toList]
  obtain ⟨vw, _⟩ := (show ObjOk X.prog X.w H1 s1.heap p (L2.DX.itemsO p d) from I1.hok p _ hv)
  have hd : d ≠ s1.heap.objs.size := by
    obtain ⟨o, e, _⟩ := raw
    exact Nat.ne_of_lt (Heap.lt_size e)
  refine wpAny_pyIter_items_raw vw raw ?_
  refine ⟨s1.heap.objs.size, [s1.heap.objs.size], _, _, H1, rfl, I1.kept (t' := s1.toks) fun b o e => Heap.get?_push_of_some _ e, turn_items d _ ep es.length hd, ⟨.none, .none, ?_⟩, fun b hb => ?_, q⟩
  · rw [← hz]
    exact Heap.get?_push_size _ rfl
  · have e : b = s1.heap.objs.size := by simpa using hb
    subst e
    exact I1.fpOk (Nat.le_refl _) (I1.hok.fresh (Nat.le_refl _))
theorem itp_ok {w : World} {K : PySem.W.Frag} {F : Fz} {H : Hp} {d : Addr} {ep : Nat} {es : List (Int × V × V)} {l : List (PyData × PyData)} (hf : F d) (h : Rd H d (DO d ep es)) (rs : RepEs w K F H es l) : ItOk w K F H (ItP d ep es.length) (l.map fun p => .tuple [p.1, p.2]) := fun F2 H2 k i => by
  have h2 := k.rd d _ hf h
  have hl : l.length = es.length := by rw [rs.length]
  refine ⟨fun p hp => ?_, fun hl2 => ⟨es, h2, rfl, by rw [List.length_map] at hl2; omega⟩⟩
  rw [List.getElem?_map] at hp
  obtain ⟨kv, hp1, rfl⟩ := Option.map_eq_some_iff.mp hp
  obtain ⟨v1, e1, d1⟩ := (rs.kds.mono k).get (show (l.map (·.1))[i]? = some kv.1 by rw [List.getElem?_map, hp1]; rfl)
  obtain ⟨v2, e2, d2⟩ := (rs.vds.mono k).get (show (l.map (·.2))[i]? = some kv.2 by rw [List.getElem?_map, hp1]; rfl)
  rw [List.getElem?_map] at e1 e2
  obtain ⟨en, g1, g2⟩ := Option.map_eq_some_iff.mp e1
  rw [g1] at e2
  have g3 : en.2.2 = v2 := by simpa using e2
  refine ⟨⟨es, en, h2, rfl, g1⟩, fun x H3 y => .inr ?_⟩
  obtain ⟨T, a, b, rfl, hn, rfl, hy⟩ := y
  obtain ⟨e', q1, q2, q3⟩ := hy es h2
  rw [g1] at q1
  cases q1
  subst q2 q3
  rw [g2, g3]
  exact ⟨T, _, _, rfl, hn, rfl, rfl, .cons d1 (.cons d2 .nil)⟩
def iVals (m : M PyData) : M (List PyData) := fun env => (m env).bind fun p e => match p with
  | .dict l => .ok (l.map (·.2)) e
  | _ => .bad
def iItems (m : M PyData) : M (List PyData) := fun env => (m env).bind fun p e => match p with
  | .dict l => .ok (l.map fun p => .tuple [p.1, p.2]) e
  | _ => .bad
theorem zi_vals {m : M PyData} (h : ZD X e m) (hbase : attributeBase e "values" X.env (eval e X.env) = eval e X.env := by rfl) (hline : (apos.endLine == cpos.line) = true := by rfl) : ZI X tg (.Call (.Attribute e "values" apos) [] [] cpos) (iVals m) :=
  ⟨fun U tk => (pi_vals (pe_bm0G PySem.F.plainAttrs_dict PySem.F.slot_dict_values PySem.F.type_dict_values mt_valuesD (h.run U tk) hbase hline)).weak fun σ H R ⟨F, fp, env, r, g⟩ => ⟨F, fp, env, r, g.bnd fun p e1 F1 fp1 H1 st1 g1 v r1 d1 => by
    split at g1
    · rename_i l
      cases d1 with
      | dict ht rs pw =>
        rename_i a es
        obtain ⟨⟨ep, q1⟩, q2, q3⟩ := ht
        refine ⟨tyG_dict ⟨ep, q1⟩, a, es, rfl, rfl, q3, ⟨ep, q1⟩, fun p n => ?_⟩
        obtain ⟨st, r2, k⟩ := r1.newF (o := valsO p a) n
        exact ⟨p, a, ep, es, rfl, upd_same, k.rd a _ q2 q1, (g1.step st).here r2 _ (itd_ok _ (.inl q2) (k.rd a _ q2 q1) (rs.mono k).vds)⟩
    · exact False.elim g1⟩⟩
theorem zi_items {elts : List Expr} {kk : Nat} {tpos : Pos} {m : M PyData} (h : ZD X e m) (hbase : attributeBase e "items" X.env (eval e X.env) = eval e X.env := by rfl) (hline : (apos.endLine == cpos.line) = true := by rfl) : ZI X (.Tuple elts kk tpos) (.Call (.Attribute e "items" apos) [] [] cpos) (iItems m) :=
  ⟨fun U tk => (pi_items (pe_bm0G PySem.F.plainAttrs_dict PySem.F.slot_dict_items PySem.F.type_dict_items mt_itemsD (h.run U tk) hbase hline)).weak fun σ H R ⟨F, fp, env, r, g⟩ => ⟨F, fp, env, r, g.bnd fun p e1 F1 fp1 H1 st1 g1 v r1 d1 => by
    split at g1
    · rename_i l
      cases d1 with
      | dict ht rs pw =>
        rename_i a es
        obtain ⟨⟨ep, q1⟩, q2, q3⟩ := ht
        refine ⟨tyG_dict ⟨ep, q1⟩, a, es, rfl, rfl, q3, ⟨ep, q1⟩, fun p n => ?_⟩
        obtain ⟨st, r2, k⟩ := r1.newF (o := L2.DX.itemsO p a) n
        exact ⟨p, a, ep, es, rfl, upd_same, k.rd a _ q2 q1, (g1.step st).here r2 _ (itp_ok (.inl q2) (k.rd a _ q2 q1) (rs.mono k))⟩
    · exact False.elim g1⟩⟩
end
/-! ### evaluation -/
def k1_iVals (p : PyData) (e : Env) : Res (List PyData) := match p with
  | .dict l => .ok (l.map (·.2)) e
  | _ => .bad
theorem ev_iVals (m : M PyData) (e : Env) : iVals m e = (m e).bind k1_iVals := (rfl)
theorem iva_d (l : List (PyData × PyData)) (e : Env) : k1_iVals (.dict l) e = .ok (l.map (·.2)) e := (rfl)
def k1_iItems (p : PyData) (e : Env) : Res (List PyData) := match p with
  | .dict l => .ok (l.map fun p => .tuple [p.1, p.2]) e
  | _ => .bad
theorem ev_iItems (m : M PyData) (e : Env) : iItems m e = (m e).bind k1_iItems := (rfl)
theorem iit_d (l : List (PyData × PyData)) (e : Env) : k1_iItems (.dict l) e = .ok (l.map fun p => .tuple [p.1, p.2]) e := (rfl)
def k1_vIsiT (ts : List String) (x : Op) (e : Env) : Res Bool := .of ((look e x).map fun p => ts.any (isD · p)) e
theorem ev_vIsiT (ts : List String) (m : M Op) (e : Env) : vIsiT ts m e = (m e).bind (k1_vIsiT ts) := (rfl)
end Z

/-! Z27: methods that only read. -/
namespace Z
open PySem PySem.Spec PyProof.Rows L2
section
variable {X : L2.Cx} {o e : Expr} {es : List Expr} {name : Str} {apos cpos : Pos} {T id : String} {f : BiF}
theorem tyG_rep {H : Hp} {F : Fz} {v : V} {p : PyData} (h : RepV X.w X.K F H v p) (hT : tyNm p = T) (hm : T ∈ ["str", "list", "dict"]) : TyG X T v H := by
  subst hT
  cases p with
  | str y =>
    obtain rfl := h.str
    exact tyG_of rfl
  | list l =>
    obtain ⟨a, xs, rfl, h1, d⟩ := h.list
    exact tyG_of (.inl ⟨rfl, xs, h1.sq⟩)
  | dict l =>
    obtain ⟨a, es, rfl, h1, _⟩ := h.dict
    exact tyG_dict h1
  | none => simp [tyNm] at hm
  | bool b => simp [tyNm] at hm
  | int i => simp [tyNm] at hm
  | tuple l => simp [tyNm] at hm
def vMe (T : String) (f : BiF) (m : M Op) (ms : M (List Op)) : M W := fun env => (m env).bind fun x e => if (look e x).any (fun p => tyNm p == T) then (ms e).bind fun xs e2 => .of ((looks e2 (x :: xs)).bind f) e2 else .bad
def MeR (X : L2.Cx) (id : String) (f : BiF) : Prop := MtR X id (fun x xs H Q => rBi X f (x :: xs) H Q)
theorem z_me {m : M Op} {ms : M (List Op)} (hu : X.A.units + 200 < cLine) (hc : X.calm = true) (hgd : X.A.guards = some []) (pa : PlainAttrs T) (slot : Slot T name id) (hty : typeOf (.builtin id) = pure (.type "method_descriptor")) (hr : MeR X id f) (hT : T ∈ ["str", "list", "dict"])
    (ho : ZO X o m) (ha : ZOs X (e :: es) ms)
    (hbase : attributeBase o name X.env (eval o X.env) = eval o X.env := by rfl)
    (hfew : ((backTo cpos (starEach (e :: es) X.env)).all (fun x => !x.1) && (backToKw cpos (keywordEach [] X.env)).all (fun x => x.1.isSome)
      && decide ((e :: es).length + ([] : List Keyword).length + (if ([] : List Keyword).isEmpty then 0 else 1) < 30)) = true := by rfl)
    (hline : (apos.endLine == cpos.line) = true := by rfl) (hs : starEach (e :: es) X.env = (false, eval e X.env) :: starEach es X.env := by rfl) (hplain : (backTo cpos (starEach es X.env)).any (·.1) = false := by rfl) :
    ZV X (.Call (.Attribute o name apos) (e :: es) [] cpos) (vMe T f m ms) :=
  ⟨fun U tk => (pe_bmG pa slot hty hr (ho.run U tk) (ha.run U tk) hbase hfew hline hs hplain).weak fun σ H Q ⟨F, fp, env, r, g⟩ => ⟨F, fp, env, r, g.bnd fun x e1 F1 fp1 H1 st1 g1 v r1 o1 => by
    split at g1
    · rename_i hl
      have o1 : OpR X.w X.K F1 H1 σ x v := o1
      rw [Option.any_eq_true] at hl
      obtain ⟨p, hp, hq⟩ := hl
      refine ⟨tyG_rep (OpR.look o1 r1 hp) (by simpa using hq) hT, F1, fp1, e1, r1, g1.bnd fun xs e2 F2 fp2 H2 st2 g2 vs r2 o2 => ?_⟩
      have o2 : OpsR X.w X.K F2 H2 σ xs vs := o2
      obtain ⟨z, ez, g3⟩ := g2.of
      obtain ⟨ps, e3, e4⟩ := Option.bind_eq_some_iff.mp ez
      exact ⟨hu, hc, hgd, F2, fp2, σ, e2, ps, z, r2, OpsR.looks (.cons (o1.mono (st2.kpr r1)) o2) r2 e3, e4, g3.ans⟩
    · exact False.elim g1⟩⟩
theorem z_me0 {m : M Op} (hu : X.A.units + 200 < cLine) (hc : X.calm = true) (hgd : X.A.guards = some []) (pa : PlainAttrs T) (slot : Slot T name id) (hty : typeOf (.builtin id) = pure (.type "method_descriptor")) (hr : MeR X id f) (hT : T ∈ ["str", "list", "dict"])
    (ho : ZO X o m) (hbase : attributeBase o name X.env (eval o X.env) = eval o X.env := by rfl) (hline : (apos.endLine == cpos.line) = true := by rfl) :
    ZV X (.Call (.Attribute o name apos) [] [] cpos) (vMe T f m osNil) :=
  ⟨fun U tk => (pe_bm0G pa slot hty hr (ho.run U tk) hbase hline).weak fun σ H Q ⟨F, fp, env, r, g⟩ => ⟨F, fp, env, r, g.bnd fun x e1 F1 fp1 H1 st1 g1 v r1 o1 => by
    split at g1
    · rename_i hl
      have o1 : OpR X.w X.K F1 H1 σ x v := o1
      rw [Option.any_eq_true] at hl
      obtain ⟨p, hp, hq⟩ := hl
      obtain ⟨z, ez, g3⟩ := (show Post X U σ F1 fp1 H1 (Res.of _ e1) _ from g1).of
      obtain ⟨ps, e3, e4⟩ := Option.bind_eq_some_iff.mp ez
      exact ⟨tyG_rep (OpR.look o1 r1 hp) (by simpa using hq) hT, hu, hc, hgd, F1, fp1, σ, e1, ps, z, r1, OpsR.looks (.cons o1 .nil) r1 e3, e4, g3.ans⟩
    · exact False.elim g1⟩⟩
end
end Z

/-! Z28: dict.get. -/
namespace Z
open PySem PySem.Spec PyProof.Rows L2
def isBox : PyData → Bool
  | .list _ | .dict _ => true
  | _ => false
def bGet : BiF
  | [.dict l, k] => if keyOk k then some (.f ((dget l k).getD .none)) else none
  | [.dict l, k, d] => if keyOk k && !isBox d then some (.f ((dget l k).getD d)) else none
  | _ => none
section
variable {X : L2.Cx}
theorem RepVs.three {w : World} {K : PySem.W.Frag} {F : Fz} {H : Hp} {vs : List V} {p q r : PyData} (h : RepVs w K F H vs [p, q, r]) : ∃ v u t, vs = [v, u, t] ∧ RepV w K F H v p ∧ RepV w K F H u q ∧ RepV w K F H t r := by
  cases h with
  | cons a b =>
    obtain ⟨u, t, rfl, c, d⟩ := b.two
    exact ⟨_, _, _, rfl, a, c, d⟩
theorem RepV.key {w : World} {K : PySem.W.Frag} {F : Fz} {H : Hp} {v : V} {k : PyData} (h : RepV w K F H v k) (hk : keyOk k = true) : RepD w K F H v k := h.d (fun l z => by subst z; cases hk) fun l z => by subst z; cases hk
theorem vals3 {v v' v'' : V} {us : List Value} (r : Vals [v, v', v''] us) : ∃ u u' u'', us = [u, u', u''] ∧ RelV v u ∧ RelV v' u' ∧ RelV v'' u'' := by
  cases r with
  | cons a b =>
    obtain ⟨u, u', rfl, c, d⟩ := vals2 b
    exact ⟨_, _, _, rfl, a, c, d⟩
theorem me_get : MeR X "dict.get" bGet := by
  intro pins s σ H x xs v us Q I rx rxs ⟨hu, hc, hgd, F, fp, σ', env, ps, z, r, d, e, an⟩
  unfold bGet at e
  split at e
  · rename_i l k
    split at e
    · rename_i hk
      cases e
      obtain ⟨v1, v2, e0, d1, d2⟩ := d.two
      cases e0
      obtain ⟨u, rfl, ru⟩ := vals1 rxs
      obtain ⟨a, es, rfl, hd, hs, re, pw⟩ := d1.dict
      cases rx
      have ty := DO.typeIs I hd
      refine wpAny_call_entry PySem.F.slot_dict_get ty PySem.F.entry_dict_get ?_ (PySem.F.args_dict_get_2 _ _)
      unfold Builtin.«dict.get»
      refine wpAny_bind ?_
      unfold Builtin.Dict.keyAndDefault
      refine wpAny_bind (wpAny_notOrdered_dict ty ?_)
      show wpAny _ _ (pure (a, u, none)) _ _ s
      refine wpAny_pure ?_
      show wpAny _ _ (dictGet a u >>= _) _ _ s
      refine wpAny_bind (dGet I hd re pw (d2.key hk) hk ru (by show X.A.units + 1 + 8 < cLine; omega) fun tk o ho => ?_)
      cases hp : dget l k with
      | some p =>
        rw [hp] at ho an
        obtain ⟨v', u', rfl, r1, r2⟩ := ho
        exact wpAny_pure ⟨u', rfl, ⟨v', H, I.tok _, r1, an.f r r2⟩⟩
      | none =>
        rw [hp] at ho an
        have ho : o = none := ho
        subst ho
        show wpAny _ _ (Builtin.Dict.missed a u >>= _) _ _ _
        exact wpAny_bind (wpAny_missed_other hs (wpAny_pure ⟨.none, rfl, ⟨.non, H, I.tok _, rfl, an.non r⟩⟩))
    · cases e
  · rename_i l k dd
    split at e
    · rename_i hk
      cases e
      rw [Bool.and_eq_true] at hk
      obtain ⟨hk, hb⟩ := hk
      obtain ⟨v1, v2, v3, e0, d1, d2, d3⟩ := d.three
      cases e0
      obtain ⟨u, u3, rfl, ru, ru3⟩ := vals2 rxs
      obtain ⟨a, es, rfl, hd, hs, re, pw⟩ := d1.dict
      cases rx
      have d3 : RepD X.w X.K F H v3 dd := d3.d (fun l z => by subst z; cases hb) fun l z => by subst z; cases hb
      have ty := DO.typeIs I hd
      refine wpAny_call_entry PySem.F.slot_dict_get ty PySem.F.entry_dict_get ?_ (PySem.F.args_dict_get_3 _ _ _)
      unfold Builtin.«dict.get»
      refine wpAny_bind ?_
      unfold Builtin.Dict.keyAndDefault
      refine wpAny_bind (wpAny_notOrdered_dict ty ?_)
      show wpAny _ _ (pure (a, u, some u3)) _ _ s
      refine wpAny_pure ?_
      show wpAny _ _ (dictGet a u >>= _) _ _ s
      refine wpAny_bind (dGet I hd re pw (d2.key hk) hk ru (by show X.A.units + 1 + 8 < cLine; omega) fun tk o ho => ?_)
      cases hp : dget l k with
      | some p =>
        rw [hp] at ho an
        obtain ⟨v', u', rfl, r1, r2⟩ := ho
        exact wpAny_pure ⟨u', rfl, ⟨v', H, I.tok _, r1, an.f r r2⟩⟩
      | none =>
        rw [hp] at ho an
        have ho : o = none := ho
        subst ho
        show wpAny _ _ (Builtin.Dict.missed a u >>= _) _ _ _
        exact wpAny_bind (wpAny_missed_other hs (wpAny_pure ⟨u3, rfl, ⟨v3, H, I.tok _, ru3, an.f r d3⟩⟩))
    · cases e
  · cases e
end
end Z

/-! Z29: str.join. -/
namespace Z
open PySem PySem.Spec PyProof.Rows L2
def strsD : List PyData → Option (List Str)
  | [] => some []
  | .str x :: r => (strsD r).map (x :: ·)
  | _ => none
def bJoin : BiF
  | [.str a, p] => (seqOf p).bind fun l => (strsD l).bind fun ys => if (ys.map (·.length)).sum + ys.length * a.length ≤ 16777216 then some (.f (.str (Txt.join a ys))) else none
  | _ => none
theorem strsD_rep {w : World} {K : PySem.W.Frag} {F : Fz} {H : Hp} : ∀ {l : List PyData} {ys : List Str} {xs : List V}, strsD l = some ys → RepDs w K F H xs l → xs = ys.map V.str
  | [], ys, _, e, .nil => by cases e; rfl
  | p :: l, ys, _, e, .cons d ds => by
    unfold strsD at e
    split at e
    · rename_i h; cases h
    · rename_i x r h
      cases h
      obtain ⟨zs, e1, rfl⟩ := Option.map_eq_some_iff.mp e
      cases d
      rw [strsD_rep e1 ds]
      rfl
    · cases e
section
variable {X : L2.Cx}
theorem me_join : MeR X "str.join" bJoin := by
  intro pins s σ H x xs v us Q I rx rxs ⟨hu, hc, hgd, F, fp, σ', env, ps, z, r, d, e, an⟩
  unfold bJoin at e
  split at e
  · rename_i a p
    obtain ⟨l, e1, e⟩ := Option.bind_eq_some_iff.mp e
    obtain ⟨ys, e2, e⟩ := Option.bind_eq_some_iff.mp e
    split at e
    · rename_i hz
      cases e
      obtain ⟨v1, v2, e0, d1, d2⟩ := d.two
      cases e0
      obtain rfl := d1.str
      cases p with
      | list l' =>
        cases e1
        obtain ⟨b, xs, rfl, h1, dd⟩ := d2.list
        obtain rfl := strsD_rep e2 dd
        exact mt_join pins s σ H _ _ v us Q I rx rxs ⟨a, b, ys, rfl, rfl, .inl h1.sq, hz, an.str r⟩
      | tuple l' =>
        cases e1
        obtain ⟨b, xs, rfl, h1, dd⟩ := d2.tup
        obtain rfl := strsD_rep e2 dd
        exact mt_join pins s σ H _ _ v us Q I rx rxs ⟨a, b, ys, rfl, rfl, .inr h1, hz, an.str r⟩
      | _ => cases e1
    · cases e
  · cases e
end
/-! ### evaluation -/
def k2_vMe (f : BiF) (x : Op) (xs : List Op) (e : Env) : Res W := .of ((looks e (x :: xs)).bind f) e
def k1_vMe (T : String) (f : BiF) (ms : M (List Op)) (x : Op) (e : Env) : Res W := if (look e x).any (fun p => tyNm p == T) then (ms e).bind (k2_vMe f x) else .bad
theorem ev_vMe (T : String) (f : BiF) (m : M Op) (ms : M (List Op)) (e : Env) : vMe T f m ms e = (m e).bind (k1_vMe T f ms) := rfl
theorem any_s {α : Type} (p : α → Bool) (x : α) : (some x).any p = p x := rfl
end Z

/-! Z30: list.index. -/
namespace Z
open PySem PySem.Spec PyProof.Rows L2
def bIndex : BiF
  | [.list l, d] => if SeqAt.shaped (.list l) && SeqAt.shaped d then (l.findIdx? fun z => z.eqv d).map fun j => .f (.int (j : Nat)) else none
  | _ => none
section
variable {X : L2.Cx}
theorem me_index : MeR X "list.index" bIndex := by
  intro pins s σ H x xs v us Q I rx rxs ⟨hu, hc, hgd, F, fp, σ', env, ps, z, r, d, e, an⟩
  unfold bIndex at e
  split at e
  · rename_i ds dd
    split at e
    · rename_i hsh
      rw [Bool.and_eq_true] at hsh
      obtain ⟨sl, sd⟩ := hsh
      obtain ⟨j, hj0, rfl⟩ := Option.map_eq_some_iff.mp e
      rw [List.findIdx?_eq_some_iff_getElem] at hj0
      obtain ⟨hjd, hzj, hno⟩ := hj0
      obtain ⟨v1, v2, e0, d1, d2⟩ := d.two
      cases e0
      obtain ⟨uy, rfl, ry⟩ := vals1 rxs
      obtain ⟨a, xs, rfl, h1, dx⟩ := d1.list
      cases rx
      obtain ⟨bs, r1⟩ := d2.reads I.hok I.kIn ry
      have hxs : PyData.canLayAll0 ds = true := SeqAt.canLay_of_shaped sl
      have hroom : X.A.units + 1 + min (PyData.depthAll ds) dd.depth < cLine := room_in_shaped sd (by omega)
      obtain ⟨its, rv, ⟨⟨cls, odd, data, sls⟩, n, ho, hc', hdn, hdt⟩, hlen⟩ := I.list h1.sq
      simp only at hc' hdt
      subst hc' hdt
      obtain ⟨as, h4⟩ := RepDs.reads I.hok I.kIn dx rv
      have hn : its.length = ds.length := SeqAt.ReadsAll.length ds its as h4
      have hmap : its.map (SeqAt.readOf s.heap) = ds := SeqAt.readsAll_map ds its as hxs h4
      have hvl := rv.length
      have hsl := sizeLine_eq
      have hjl : j < its.length := by omega
      have hj : j < its.toArray.size := by simpa using hjl
      have at_ : ∀ (m : Nat) (hm : m < its.toArray.size) (z' : PyData), ds[m]? = some z' → SeqAt.readOf s.heap its.toArray[m] = z' := by
        intro m hm z' hz'
        have hml : m < its.length := by simpa using hm
        rw [← hmap, List.getElem?_map, List.getElem?_eq_getElem hml] at hz'
        have e1 : SeqAt.readOf s.heap its[m] = z' := Option.some.inj (show some (SeqAt.readOf s.heap its[m]) = some z' from hz')
        simpa using e1
      refine call_meets PySem.F.slot_list_index ⟨_, ho, rfl⟩ PySem.F.entry_list_index (PySem.F.args_list_index_2 _ _)
        (SeqAt.list_indexAt a its.toArray n odd sls uy (fun u => PyData.eqv (SeqAt.readOf s.heap u) dd) j hj (by omega) ?_ ?_) ⟨ho, SeqAt.items_eqAt (vs := its.toArray) (show ReadsAll s.heap its.toArray.toList ds as from h4) r1 hxs (SeqAt.canLay_of_shaped sd) hroom, ?_⟩
      · show PyData.eqv (SeqAt.readOf s.heap its.toArray[j]) dd = true
        rw [at_ j hj _ (List.getElem?_eq_getElem hjd)]
        exact hzj
      · intro m hm hmj
        have hmd : m < ds.length := by omega
        show PyData.eqv (SeqAt.readOf s.heap its.toArray[m]) dd = false
        rw [at_ m hm _ (List.getElem?_eq_getElem hmd)]
        simpa using hno m hmj
      · exact ⟨.int (j : Nat), H, I.tok _, ⟨_, rfl⟩, an.int r⟩
    · cases e
  · cases e
end
end Z

/-! Z31: list.clear. -/
namespace Z
open PySem PySem.Spec PyProof.Rows L2
def vClr (i : Nat) : M W := fun env => match env[i]? with
  | some (some (.lst _)) => .ok (.f .none) (env.set i (some (.lst [])))
  | _ => .bad
section
variable {X : L2.Cx} {i : Nat} {x : Str} {px apos cpos : Pos}
theorem z_clear (hN : X.N[i]? = some x) (hv : Vis X.env.scope x) (hd : (x == ("__debug__" : Str)) = false := by decide) (hcd : (x == ("__classdict__" : Str)) = false := by decide)
    (hbase : attributeBase (.Name x px) "clear" X.env (eval (.Name x px) X.env) = eval (.Name x px) X.env := by rfl) (hline : (apos.endLine == cpos.line) = true := by rfl) :
    ZV X (.Call (.Attribute (.Name x px) "clear" apos) [] [] cpos) (vClr i) :=
  ⟨fun U tk => (pe_bm0 PySem.F.plainAttrs_list PySem.F.slot_list_clear (by first | rfl | exact PySem.F.type_list_clear) mt_clear (pe_var hN hv hd hcd) hbase hline).weak fun σ H Q ⟨F, fp, env, r, g⟩ => by
    unfold vClr at g
    split at g
    · rename_i l e0
      obtain ⟨a, xs, ev, ha, dx, wr, hm⟩ := own_at r e0
      obtain ⟨st2, r2, k2⟩ := wr [] [] .nil
      exact ⟨_, ev, .inl ⟨rfl, xs, .inl (.inl ha)⟩, a, xs, rfl, rfl, ha, g F fp _ st2 fp .non [] rfl r2 (.f .none r2.nd)⟩
    · exact False.elim g⟩
end
def vc1 (i : Nat) (e : Env) : Option (Option W) → Res W
  | some (some (.lst _)) => .ok (.f .none) (e.set i (some (.lst [])))
  | _ => .bad
theorem vc1_l (i : Nat) (e : Env) (l : List PyData) : vc1 i e (some (some (.lst l))) = .ok (.f .none) (e.set i (some (.lst []))) := (rfl)
theorem ev_vClr (i : Nat) (e : Env) : vClr i e = vc1 i e (e[i]?) := by
  unfold vClr vc1
  split <;> rfl
end Z

/-! Z32: list.extend by a list just made. -/
namespace Z
open PySem PySem.Spec PyProof.Rows L2
def vExt (i : Nat) (m : M W) : M W := fun env => match env[i]? with
  | some (some (.lst _)) => (m env).bind fun w e => match w, e[i]? with
    | .lst zs, some (some (.lst l)) => if l.length + zs.length ≤ sizeLine then .ok (.f .none) (e.set i (some (.lst (l ++ zs)))) else .bad
    | _, _ => .bad
  | _ => .bad
section
variable {X : L2.Cx} {i : Nat} {x : Str} {e : Expr} {px apos cpos : Pos}
theorem reps_append {w : World} {K : PySem.W.Frag} {F : Fz} {H : Hp} : ∀ {xs ys : List V} {ps qs : List PyData}, RepDs w K F H xs ps → RepDs w K F H ys qs → RepDs w K F H (xs ++ ys) (ps ++ qs)
  | _, _, _, _, .nil, h => h
  | _, _, _, _, .cons a r, h => .cons a (reps_append r h)
theorem z_extend {m : M W} (h : ZV X e m) (hN : X.N[i]? = some x) (hv : Vis X.env.scope x) (hd : (x == ("__debug__" : Str)) = false := by decide) (hcd : (x == ("__classdict__" : Str)) = false := by decide)
    (hbase : attributeBase (.Name x px) "extend" X.env (eval (.Name x px) X.env) = eval (.Name x px) X.env := by rfl)
    (hfew : ((backTo cpos (starEach [e] X.env)).all (fun x => !x.1) && (backToKw cpos (keywordEach [] X.env)).all (fun x => x.1.isSome) && decide ([e].length + ([] : List Keyword).length + (if ([] : List Keyword).isEmpty then 0 else 1) < 30)) = true := by rfl)
    (hline : (apos.endLine == cpos.line) = true := by rfl) (hs : starEach [e] X.env = (false, eval e X.env) :: starEach [] X.env := by rfl) (hplain : (backTo cpos (starEach [] X.env)).any (·.1) = false := by rfl) :
    ZV X (.Call (.Attribute (.Name x px) "extend" apos) [e] [] cpos) (vExt i m) :=
  ⟨fun U tk => (pe_bm PySem.F.plainAttrs_list PySem.F.slot_list_extend (by first | rfl | exact PySem.F.type_list_extend) mt_extend (pe_var hN hv hd hcd) (pa_cons (h.run U tk) pa_nil hs) hbase hfew hline hs hplain).weak fun σ H Q ⟨F, fp, env, r, g⟩ => by
    unfold vExt at g
    split at g
    · rename_i l0 e0
      obtain ⟨a, xs0, ev, h0, _⟩ := own_at r e0
      refine ⟨_, ev, .inl ⟨rfl, xs0, .inl (.inl h0)⟩, F, fp, env, r, g.bnd fun w e1 F1 fpT H1 st1 g1 fp' v q hq r1 o1 => ?_⟩
      split at g1
      · rename_i zs l e2
        split at g1
        · rename_i hz
          obtain ⟨a', xs, ev', ha, dx, wr, hm⟩ := own_at r1 e2
          rw [ev] at ev'
          cases ev'
          obtain ⟨b, ys, rfl, rfl, hb, dz⟩ := o1.rep.lstI
          have k := r1.kpU (o := .lst (xs ++ ys)) hm
          obtain ⟨st2, r2, k2⟩ := wr (xs ++ ys) (l ++ zs) (reps_append (dx.mono k) (dz.mono k))
          subst hq
          exact ⟨a, b, xs, ys, rfl, rfl, ha, hb, by rw [dx.length, dz.length]; exact hz, g1 F1 fp' _ (Step.drop.trans st2) fp' .non [] rfl r2 (.f .none r2.nd)⟩
        · exact False.elim g1
      · exact False.elim g1
    · exact False.elim g⟩
end
def ve2 (i : Nat) (zs : List PyData) (e : Env) : Option (Option W) → Res W
  | some (some (.lst l)) => if l.length + zs.length ≤ sizeLine then .ok (.f .none) (e.set i (some (.lst (l ++ zs)))) else .bad
  | _ => .bad
theorem ve2_l (i : Nat) (zs : List PyData) (e : Env) (l : List PyData) : ve2 i zs e (some (some (.lst l))) = if l.length + zs.length ≤ sizeLine then .ok (.f .none) (e.set i (some (.lst (l ++ zs)))) else .bad := (rfl)
def k1_vExt (i : Nat) (w : W) (e : Env) : Res W := match w with
  | .lst zs => ve2 i zs e (e[i]?)
  | _ => .bad
theorem kx_l (i : Nat) (zs : List PyData) (e : Env) : k1_vExt i (.lst zs) e = ve2 i zs e (e[i]?) := (rfl)
def ve1 (i : Nat) (m : M W) (e : Env) : Option (Option W) → Res W
  | some (some (.lst _)) => (m e).bind (k1_vExt i)
  | _ => .bad
theorem ve1_l (i : Nat) (m : M W) (e : Env) (l : List PyData) : ve1 i m e (some (some (.lst l))) = (m e).bind (k1_vExt i) := (rfl)
theorem ev_vExt (i : Nat) (m : M W) (e : Env) : vExt i m e = ve1 i m e (e[i]?) := by
  unfold vExt ve1
  split
  · congr 1
    funext w e
    cases w <;> try rfl
    unfold k1_vExt ve2
    dsimp only
    split <;> rename_i h <;> simp_all
  · rfl
end Z

/-! Z33: a def that calls itself: a family by depth. -/
namespace Z
open PySem PySem.Spec PyProof.Rows L2
def badFu (io : List Bool) : Fu := ⟨io, fun _ => .bad⟩
def recFu (io : List Bool) (ns : Nat) (m : Fu → M Flow) : Nat → Fu
  | 0 => badFu io
  | n + 1 => mkFu io ns (m (recFu io ns m n))
theorem rec_io (io : List Bool) (ns : Nat) (m : Fu → M Flow) : ∀ n, (recFu io ns m n).io = io
  | 0 => rfl
  | _ + 1 => rfl
theorem rec_succ (io : List Bool) (ns : Nat) (m : Fu → M Flow) (n : Nat) : recFu io ns m (n + 1) = mkFu io ns (m (recFu io ns m n)) := rfl
section
variable {P : Program} {w : World} {K : PySem.W.Frag} {mg : Str → Option Value} {base : Heap}
theorem bad_fn {k : Nat} {f : Addr} {fd : FuncData} {ps : List Str} {io : List Bool} (h : io.length = ps.length) : FnZ P w K mg base k f fd ps (badFu io) where
  ln := h
  go := fun A fr s H args us vs Q E _ _ _ _ _ ⟨_, F, ws, fp, r, z⟩ => False.elim z
theorem z_rec {x qual : Str} {st : Stmt} {f : Addr} {fd : FuncData} {N ps : List Str} {j : Nat} {io : List Bool} {m : Fu → M Flow} (F : Fun K x x st f fd) (gm : mg x = some (.ref f)) (S : FnScope N ps (defScope st)) (hio : io.length = ps.length) (b : Binds K fd ps [])
    (hb : ∀ (k : Nat) (fu : Fu), j ≤ k → fu.io = io → CalZ P w K mg base k x fu → ∀ (cdv : Value) (A : Around) (fr : List PySem.Env) (s : Shared) (H : Hp) (E : XK), Ct k (cxOf (L2.CX P w) P w K mg base N x (defScope st) f cdv A fr s H E) →
      ZSs (cxOf (L2.CX P w) P w K mg base N x (defScope st) f cdv A fr s H E) (lentAt io 0) (defBody st) (m fu)) : ∀ n, CalZ P w K mg base (j + n) x (recFu io N.length m n)
  | 0 => cal_mk F gm b (bad_fn hio)
  | n + 1 => cal_mk F gm b (z_def (k := j + n) F S hio fun cdv A fr s H E c => hb (j + n) _ (Nat.le_add_right j n) (rec_io ..) (z_rec (qual := qual) F gm S hio b hb n) cdv A fr s H E c)
end
end Z

/-! Z34: a call that only reads: what is handed to it stays one's own. -/
namespace Z
open PySem PySem.Spec PyProof.Rows L2
def scal : PyData → Bool
  | .none | .bool _ | .int _ | .str _ => true
  | _ => false
def mCallP (fu : Fu) (m : M (List Op)) : M W := fun env => (m env).bind fun xs e => match looks e xs with
  | some ps => if ps.length = fu.io.length then (match fu.run (ps.map .f) with
      | .ret (.f p) _ => if scal p then .ok (.f p) e else .bad
      | _ => .bad) else .bad
  | none => .bad
theorem RepV.all {w : World} {K : PySem.W.Frag} {F : Fz} {H : Hp} (good : ∀ a, F a → H a ≠ none) {v : V} {p : PyData} (h : RepV w K F H v p) : RepD w K (fun a => H a ≠ none) H v p := by
  have k : Kp F H (fun a => H a ≠ none) H := ⟨good, fun _ _ _ h => h⟩
  rcases h with h | ⟨a, xs, ps, rfl, rfl, h, r⟩ | ⟨a, ep, es, kvs, rfl, rfl, h, z, r, n⟩
  · exact h.mono k
  · exact .list (.inl ⟨show H a ≠ none by rw [h]; simp, .inl h⟩) (r.mono k)
  · exact .dict ⟨⟨ep, .inl h⟩, show H a ≠ none by rw [h]; simp, z⟩ (r.mono k) n
theorem RepVs.all {w : World} {K : PySem.W.Frag} {F : Fz} {H : Hp} (good : ∀ a, F a → H a ≠ none) : ∀ {vs : List V} {ps : List PyData}, RepVs w K F H vs ps → RepE w K (fun a => H a ≠ none) H (vs.map some) ((ps.map W.f).map some) []
  | _, _, .nil => .nil
  | _, _, .cons a b => .so (fp := []) (fp' := []) (.f (RepV.all good a)) (RepVs.all good b)
theorem RepVs.length {w : World} {K : PySem.W.Frag} {F : Fz} {H : Hp} : ∀ {vs : List V} {ps : List PyData}, RepVs w K F H vs ps → vs.length = ps.length
  | _, _, .nil => rfl
  | _, _, .cons a b => by simp [RepVs.length b]
theorem scal_rep {w : World} {K : PySem.W.Frag} {F F' : Fz} {H H' : Hp} {v : V} {p : PyData} (h : scal p = true) (r : RepD w K F H v p) : RepD w K F' H' v p := by
  cases r with
  | none => exact .none
  | bool b => exact .bool b
  | int i => exact .int i
  | str x => exact .str x
  | list _ _ => cases h
  | tuple _ _ => cases h
  | dict _ _ _ => cases h
section
variable {X : L2.Cx} {e : Expr} {es : List Expr} {x : Str} {p pos : Pos} {j k : Nat}
theorem callP_weak {fu : Fu} {m : M (List Op)} {U : WX} {σ : L2.St} {H : Hp} {Q : VK} (h : zV X U (mCallP fu m) σ H Q) : zG rOs X U m σ H (fun vs H2 => spZ X.w X.K X.mg fu vs H2 Q (WE U σ)) := by
  obtain ⟨F, fp, env, r, g⟩ := h
  refine ⟨F, fp, env, r, g.bnd fun xs e1 F1 fp1 H1 st1 g1 vs r1 o1 => ?_⟩
  have o1 : OpsR X.w X.K F1 H1 σ xs vs := o1
  split at g1
  · rename_i ps hps
    split at g1
    · rename_i hl
      have rv : RepVs X.w X.K F1 H1 vs ps := o1.looks r1 hps
      refine ⟨by rw [rv.length, hl], fun a => H1 a ≠ none, ps.map .f, [], ⟨fun _ h => h, RepVs.all r1.good rv, .nil, fun a ha => by simp at ha⟩, ?_⟩
      split at g1
      · rename_i q out hr
        rw [hr]
        split at g1
        · rename_i hs
          intro F' fp' H' cs v st r' ow
          have k : Kp F1 H1 F1 H' := ⟨fun _ h => h, fun a u f h => st.rd a u h (by simp)⟩
          have r2 : R X.w X.K F1 H' σ e1 fp1 := ⟨fun a h => st.dom a (r1.good a h), r1.rep.mono k fun a _ u h => st.ex a u h (by simp), r1.nd, r1.dj⟩
          have s2 : Step F1 fp1 H1 F1 fp1 H' := ⟨fun _ h => h, fun _ h => .inl h, fun _ h => .inl h, fun a u h _ => st.rd a u h (by simp), fun a u h _ => st.ex a u h (by simp), st.dom⟩
          have d : RepD X.w X.K F' H' v q := by
            cases ow.rep with
            | f d => exact d
          exact g1 F1 fp1 H' s2 fp1 v [] rfl r2 (.f (scal_rep hs d) r2.nd)
        · exact False.elim g1
      · exact False.elim g1
    · exact False.elim g1
  · exact False.elim g1
theorem z_callP {f : Addr} {fd : FuncData} {ps : List Str} {fu : Fu} {m : M (List Op)} (Fn : FnZ X.prog X.w X.K X.mg X.base k f fd ps fu) (hr : Room k X.A) (hgd : X.A.guards = some []) (hg : Gl X x) (hm : X.mg x = some (.ref f)) (hk : PySem.W.keepIn X.K (.ref f) = true) (hb : Binds X.K fd ps [])
    (ha : ZOs X (e :: es) m) (hdb : (x == ("__debug__" : Str)) = false := by decide) (he : starEach (e :: es) X.env = (false, eval e X.env) :: starEach es X.env := by rfl) (hpl : (backTo pos (starEach es X.env)).any (·.1) = false := by rfl) :
    ZV X (.Call (.Name x p) (e :: es) [] pos) (mCallP fu m) :=
  ⟨fun U tk => ⟨fun pins s σ H Q I h => wpAny_Call_Name_kw (ld_glob I hg hm (PySem.W.callWith_K (h₀ := X.base) I.ok.mod.kin hk
    (thn ((ha.run U tk).run pos pins s σ H _ I (callP_weak h)) fun us t ⟨vs, H2, J, rv, q⟩ => ⟨J.kIn, run_z Fn hr hgd hb tk J rv q⟩) he hpl) hdb)⟩⟩
theorem z_cP {fu : Fu} {m : M (List Op)} (c : CalZ X.prog X.w X.K X.mg X.base j x fu) (hr : Room k X.A) (hj : j ≤ k) (hgd : X.A.guards = some []) (hg : Gl X x) (ha : ZOs X (e :: es) m) (hdb : (x == ("__debug__" : Str)) = false := by decide)
    (he : starEach (e :: es) X.env = (false, eval e X.env) :: starEach es X.env := by rfl) (hpl : (backTo pos (starEach es X.env)).any (·.1) = false := by rfl) : ZV X (.Call (.Name x p) (e :: es) [] pos) (mCallP fu m) := by
  obtain ⟨f, fd, ps, Fn, gm, hk, hb⟩ := c.ex
  exact z_callP (Fn.more hj) hr hgd hg gm hk hb ha hdb he hpl
end
/-! ### evaluation -/
def clp (e : Env) : FR → Res W
  | .ret (.f p) _ => if scal p then .ok (.f p) e else .bad
  | _ => .bad
def clq (fu : Fu) (e : Env) : Option (List PyData) → Res W
  | some ps => if ps.length = fu.io.length then clp e (fu.run (ps.map .f)) else .bad
  | none => .bad
def k1_callP (fu : Fu) (xs : List Op) (e : Env) : Res W := clq fu e (looks e xs)
theorem ev_mCallP (fu : Fu) (m : M (List Op)) (e : Env) : mCallP fu m e = (m e).bind (k1_callP fu) := by
  unfold mCallP
  show _ = (m e).bind (k1_callP fu)
  have : (fun (xs : List Op) (e : Env) => (match looks e xs with
    | some ps => if ps.length = fu.io.length then (match fu.run (ps.map .f) with
      | .ret (.f p) _ => if scal p then .ok (.f p) e else .bad
      | _ => .bad) else .bad
    | none => .bad : Res W)) = k1_callP fu := by
    funext xs e
    unfold k1_callP clq
    cases looks e xs with
    | none => rfl
    | some ps =>
      dsimp only
      by_cases h : ps.length = fu.io.length
      · rw [if_pos h, if_pos h]
        unfold clp
        cases fu.run (ps.map .f) with
        | ret w out => cases w <;> rfl
        | exc x out => rfl
        | bad => rfl
      · rw [if_neg h, if_neg h]
  exact congrArg (fun k => (m e).bind k) this
theorem clq_some (fu : Fu) (e : Env) (ps : List PyData) : clq fu e (some ps) = if ps.length = fu.io.length then clp e (fu.run (ps.map .f)) else .bad := (rfl)
theorem clp_b (e : Env) (b : Bool) (out : Env) : clp e (.ret (.f (.bool b)) out) = .ok (.f (.bool b)) e := (rfl)
theorem clp_i (e : Env) (b : Int) (out : Env) : clp e (.ret (.f (.int b)) out) = .ok (.f (.int b)) e := (rfl)
theorem clp_s (e : Env) (b : Str) (out : Env) : clp e (.ret (.f (.str b)) out) = .ok (.f (.str b)) e := (rfl)
theorem clp_n (e : Env) (out : Env) : clp e (.ret (.f .none) out) = .ok (.f .none) e := (rfl)
end Z

/-! Zg1: dict(..) of pairs, of a dict by texts. -/
namespace Z
open PySem PySem.Spec PyProof.Rows L2
/-- what stands at a dict's address -/
def RawD (h : Heap) (d : Addr) (es : List (Int × V × V)) : Prop := ∃ o ents ep, h.get? d = some o ∧ o.ExactDict ∧ o.data = .dict ents ep ∧ Paired EntR es ents.toList
section
variable {X : L2.Cx} {A : Around} {E : Value → Shared → Prop} {F : Fz} {H : Hp} {s : Shared}
/-- d[k] = v by what the heap holds -/
theorem dSetH (ok : HOk X.prog X.w H s.heap) (kin : X.K.In s.heap) {d : Addr} {es : List (Int × V × V)} {kvs : List (PyData × PyData)} (hd : RawD s.heap d es) (re : RepEs X.w X.K F H es kvs) (pw : kvs.Pairwise (fun p q => p.1.eqv q.1 = false))
    {kV vV : V} {k : PyData} {u v : Value} (rk : RepD X.w X.K F H kV k) (hk : keyOk k = true) (ru : RelV kV u) (rv : RelV vV v) (hu : A.units + 8 < cLine) (hz : kvs.length ≤ sizeLine) {Q : Unit → Shared → Prop}
    (h : ∀ h' tk, Heap.SameBut d s.heap h' → RawD h' d (putE es (kix kvs k) ((nk k).hash X.w) kV vV) → Q () { s with heap := h', toks := tk }) :
    wpAny (model X.prog X.w) A (dictSet d u v) Q E s := by
  obtain ⟨o, ents, ep, ho, hc, hdd, pr⟩ := hd
  obtain ⟨as, rds⟩ := rk.reads ok kin ru
  obtain ⟨k1, k2⟩ := keyOk_hk hk
  have e1 := ents_len pr
  have e2 := re.length
  have e3 : ents.toList.length = ents.size := Array.length_toList
  have esz : ents.size ≤ sizeLine := by omega
  unfold dictSet
  refine wpAny_holding (wpAny_bind (pyHash_key (nk k) u A s _ (nested_of k1 rds) (by rw [depth_nk k k1]; omega) ?_))
  unfold dictSetHashed
  obtain ⟨S, e⟩ := seek_of (A := A) (s := { s with toks := s.toks + (nk k).draws }) ok kin pr re pw rk hk ru hu
  refine wpAny_holding (wpAny_bind (dfind (s := { s with toks := s.toks + (nk k).draws }) S ho hdd ?_))
  rw [e]
  cases hj : kix kvs k with
  | none =>
    refine wpAny_bind (wpAny_rule (wpAny_updateDictKeys (f := fun x => x.push ⟨(nk k).hash X.w, u, v⟩) (hz := esz) (hf := by simp) (s := { s with toks := s.toks + (nk k).draws }) ho hdd ?_))
    refine h _ _ (Heap.SameBut.update ..) ⟨_, _, ep + 1, Heap.get?_update_self _ ho (Obj.isFreed_of_dict (Obj.data_mapDictKeys hdd _)), hc.mapDictKeys _, Obj.data_mapDictKeys hdd _, ?_⟩
    rw [hj, Array.toList_push]
    exact entR_append pr (.cons ⟨rfl, ru, rv⟩ .nil)
  | some j =>
    refine wpAny_bind (wpAny_rule (wpAny_bind (wpAny_updateDict (f := fun x => x.modify j fun e => { e with val := v }) (hz := by simp) (s := { s with toks := s.toks + (nk k).draws }) ho hdd (wpAny_point ?_))))
    refine h _ _ (Heap.SameBut.update ..) ⟨_, _, ep, Heap.get?_update_self _ ho (Obj.isFreed_of_dict (Obj.data_mapDict hdd _)), hc.mapDict _, Obj.data_mapDict hdd _, ?_⟩
    rw [hj, Array.toList_modify]
    exact entR_modify pr rv j
theorem dputs_len : ∀ (ps kvs : List (PyData × PyData)), (dputs kvs ps).length ≤ kvs.length + ps.length
  | [], kvs => Nat.le_refl _
  | (k, v) :: ps, kvs => by
    have h := dputs_len ps (dput kvs k v)
    have h2 : (dput kvs k v).length ≤ kvs.length + 1 := by
      unfold dput
      split
      · rw [List.length_map]; omega
      · rw [List.length_append, List.length_singleton]; omega
    show (dputs (dput kvs k v) ps).length ≤ _
    rw [List.length_cons]
    omega
theorem dputs_snoc : ∀ (ps kvs : List (PyData × PyData)) (k v : PyData), dputs kvs (ps ++ [(k, v)]) = dput (dputs kvs ps) k v
  | [], kvs, k, v => rfl
  | (a, b) :: ps, kvs, k, v => dputs_snoc ps (dput kvs a b) k v
theorem hasKeys_at {ps : List (PyData × PyData)} (h : hasKeys ps = true) {i : Nat} {k v : PyData} (e : ps[i]? = some (k, v)) : keyOk k = true :=
  List.all_eq_true.mp h (k, v) (List.mem_of_getElem? e)
/-- dict(arg): the state s goes on from s0, of which all stays -/
theorem dictArg {pins : List (Addr × Obj)} {σ : L2.St} {s0 : Shared} (I : L2.Inv X pins σ H s0) (ext : ∀ b o, s0.heap.get? b = some o → s.heap.get? b = some o) {T : String} {a : Addr} {fp wr : List Addr} {n : Nat} {Rel : Nat → Value → Value → Prop} {OK : Heap → Prop}
    (P : PairArg X.prog X.w T a fp wr n Rel OK) (hwr : ∀ b ∈ wr, s0.heap.get? b = none) (hh : A.handled = none) (hu : A.units + 12 < cLine) (ok : OK s.heap) {ps : List (PyData × PyData)} (hn : n = ps.length) (hk : hasKeys ps = true) (hz : ps.length ≤ sizeLine)
    (rel : ∀ i k v, Rel i k v → ∃ pk pv kV vV, ps[i]? = some (pk, pv) ∧ RelV kV k ∧ RelV vV v ∧ RepD X.w X.K F H kV pk ∧ RepD X.w X.K F H vV pv) {Q : Value → Shared → Prop}
    (q : ∀ h' tk es, (∀ b o, s0.heap.get? b = some o → h'.get? b = some o) → RawD h' s.heap.objs.size es → RepEs X.w X.K F H es (dputs [] ps) → (dputs [] ps).Pairwise (fun p q => p.1.eqv q.1 = false) → Q (.ref s.heap.objs.size) { s with heap := h', toks := tk }) :
    wpAny (model X.prog X.w) A (call (.type "dict") [.ref a]) Q E s := by
  refine call_dict_arg P ok fun s1 e1 hdf ok1 => ?_
  have ext1 : ∀ b o, s0.heap.get? b = some o → s1.heap.get? b = some o := fun b o e => by
    subst e1
    exact Heap.get?_push_of_some _ (ext b o e)
  have hD1 : RawD s1.heap s.heap.objs.size [] := by
    subst e1
    exact ⟨_, #[], 0, Heap.get?_push_size _ rfl, ⟨rfl, rfl, rfl⟩, rfl, .nil⟩
  have old : ∀ b o, s0.heap.get? b = some o → b ≠ s.heap.objs.size := fun b o e => Nat.ne_of_lt (Heap.lt_size (ext b o e))
  refine updateFrom_arg (A := A.in1) (d := s.heap.objs.size) (Tab := fun i h => (∀ b o, s0.heap.get? b = some o → h.get? b = some o) ∧ ∃ es, RawD h s.heap.objs.size es ∧ RepEs X.w X.K F H es (dputs [] (ps.take i)) ∧ (dputs [] (ps.take i)).Pairwise (fun p q => p.1.eqv q.1 = false))
    P .none hh ok1 hdf ⟨ext1, [], hD1, .nil, .nil⟩ ?_ ?_ ?_ ?_
  · rintro i h ⟨_, es, ⟨o, _, _, ho, _⟩, _⟩
    exact Heap.lt_size ho
  · rintro i h h' wr' hD hw ⟨x1, es, ⟨o, ents, ep, ho, r⟩, x2⟩ k
    refine ⟨fun b o e => k b o (fun hb => ?_) (x1 b o e), es, ⟨o, ents, ep, k _ _ hD ho, r⟩, x2⟩
    rcases hw b hb with z | z
    · rw [hwr b z] at e; cases e
    · rw [ext1 b o e] at z; cases z
  · rintro i k v t Q' E' hi hr ⟨x1, es, x2, x3, x4⟩ _ q'
    obtain ⟨pk, pv, kV, vV, e1, r1, r2, d1, d2⟩ := rel i k v hr
    have hkk := hasKeys_at hk e1
    have hl := dputs_len (ps.take i) []
    have hm : (ps.take i).length ≤ ps.length := by rw [List.length_take]; omega
    refine dSetH (X := X) (F := F) (H := H) (I.hok.kept x1) (fun b o e => x1 b o (I.kIn b o e)) x2 x3 x4 d1 hkk r1 r2 (by show A.units + 1 + 1 + 8 < cLine; omega) (by rw [List.length_nil] at hl; omega) fun h' tk sb rd => q' h' tk ⟨fun b o e => sb.2 b (old b o e) ▸ x1 b o e, _, rd, ?_⟩ sb
    have ht : ps.take (i + 1) = ps.take i ++ [(pk, pv)] := by rw [List.take_add_one, e1]; rfl
    rw [ht, dputs_snoc]
    exact RepEs.put x3 x4 d1 hkk d2
  · rintro h' tk ⟨x1, es, x2, x3, x4⟩ _
    rw [hn, List.take_length] at x3 x4
    subst e1
    exact ⟨rfl, q h' tk es x1 x2 x3 x4⟩
end
section
variable {X : L2.Cx} {w : World} {K : PySem.W.Frag} {F : Fz} {H : Hp}
theorem pairs_mem : ∀ {l : List PyData} {ps : List (PyData × PyData)}, pairs? l = some ps → l = ps.map fun p => .tuple [p.1, p.2]
  | [], ps, h => by cases h; rfl
  | x :: l, ps, h => by
    unfold pairs? at h
    split at h
    · rename_i e
      cases e
    · rename_i a b r e
      cases e
      obtain ⟨qs, h1, rfl⟩ := Option.map_eq_some_iff.mp h
      rw [pairs_mem h1]
      rfl
    · cases h
/-- a tuple of two in the model's heap -/
theorem two_at {P : Program} {h : Heap} (ok : HOk P w H h) (kin : K.In h) {v : V} {a b : PyData} (r : RepD w K F H v (.tuple [a, b])) {u : Value} (rv : RelV v u) :
    ∃ T k e kV vV, u = .ref T ∧ PairAt h T k e ∧ RelV kV k ∧ RelV vV e ∧ RepD w K F H kV a ∧ RepD w K F H vV b := by
  cases r with
  | tuple h rs =>
    cases rs with
    | cons ra rs =>
      cases rs with
      | cons rb rs =>
        cases rs
        cases rv
        rcases h with ⟨_, h⟩ | ⟨o, its, n, hk, hc, hs, hz, rv⟩
        · obtain ⟨z, its, rv, o, e, hc, n, hd⟩ := h.ok ok
          cases rv with
          | cons r1 rv =>
            cases rv with
            | cons r2 rv =>
              cases rv
              exact ⟨_, _, _, _, _, rfl, .inl ⟨o, e, hc, n, hd⟩, r1, r2, ra, rb⟩
        · obtain ⟨il, hil⟩ : ∃ il, its.toList = il := ⟨_, rfl⟩
          have hia : its = il.toArray := by rw [← hil]
          rw [hil] at rv
          cases rv with
          | cons r1 rv =>
            cases rv with
            | cons r2 rv =>
              cases rv
              exact ⟨_, _, _, _, _, rfl, .inl ⟨o, kin _ _ hk, hc, n, by rw [hs, hia]⟩, r1, r2, ra, rb⟩
theorem pairs_at {P : Program} {h : Heap} (ok : HOk P w H h) (kin : K.In h) : ∀ {ps : List (PyData × PyData)} {xs : List V} {its : List Value}, RepDs w K F H xs (ps.map fun p => .tuple [p.1, p.2]) → Vals xs its →
    ∃ (Tl : List Addr) (pv : List (Value × Value)), its = Tl.map .ref ∧ pv.length = ps.length ∧ Tl.length = ps.length ∧ ∀ (j : Nat) k e, pv[j]? = some (k, e) → ∃ T pk pe kV vV, Tl[j]? = some T ∧ PairAt h T k e ∧ ps[j]? = some (pk, pe) ∧ RelV kV k ∧ RelV vV e ∧ RepD w K F H kV pk ∧ RepD w K F H vV pe
  | [], xs, its, r, rv => by
    cases r
    cases rv
    exact ⟨[], [], rfl, rfl, rfl, fun j k e h => by simp at h⟩
  | (a, b) :: ps, xs, its, r, rv => by
    cases r with
    | cons r1 r2 =>
      cases rv with
      | cons v1 v2 =>
        obtain ⟨T, k, e, kV, vV, rfl, q⟩ := two_at ok kin r1 v1
        obtain ⟨Tl, pv, rfl, h1, h2, h3⟩ := pairs_at ok kin r2 v2
        refine ⟨T :: Tl, (k, e) :: pv, rfl, by simp [h1], by simp [h2], fun j k' e' hj => ?_⟩
        cases j with
        | zero =>
          cases hj
          exact ⟨T, a, b, kV, vV, rfl, q.1, rfl, q.2.1, q.2.2.1, q.2.2.2.1, q.2.2.2.2⟩
        | succ j =>
          obtain ⟨T', pk, pe, kV', vV', a1, a2, a3, a4⟩ := h3 j k' e' (by simpa using hj)
          exact ⟨T', pk, pe, kV', vV', by simpa using a1, a2, by simpa using a3, a4⟩
end
/-- dict(x): of a dict with text keys, of a list of pairs -/
def txK (p : PyData × PyData) : Bool := match p.1 with
  | .str _ => true
  | _ => false
def bDict : BiF
  | [.dict l] => if l.all txK && sizeOk l.length then some (.dct l) else none
  | [.list l] => (pairs? l).bind fun ps => if hasKeys ps && sizeOk ps.length then some (.dct (dputs [] ps)) else none
  | _ => none
section
variable {X : L2.Cx} {pins : List (Addr × Obj)} {σ : L2.St} {s : Shared} {H : Hp} {F : Fz} {fp : List Addr} {env : Env} {Q : VK} {w : World} {K : PySem.W.Frag}
/-- the new dict stands -/
theorem laid_dict {σ₂ : L2.St} (I : L2.Inv X pins σ H s) (r : R X.w X.K F H σ₂ env fp) {h' : Heap} {tk : Tok} {D : Addr} {es : List (Int × V × V)} {kvs : List (PyData × PyData)} (hD : s.heap.objs.size ≤ D) (ext : ∀ b o, s.heap.get? b = some o → h'.get? b = some o) (rd : RawD h' D es)
    (re : RepEs X.w X.K F H es kvs) (pw : kvs.Pairwise (fun p q => p.1.eqv q.1 = false)) (an : Ans X.w X.K F fp H σ₂ env (.dct kvs) Q) : EP X pins σ Q (.ref D) { s with heap := h', toks := tk } := by
  obtain ⟨o, ents, ep, ho, x⟩ := rd
  have lo : (D == sysModules) = false := beq_eq_false_iff_ne.mpr (Nat.ne_of_gt (Nat.lt_of_lt_of_le I.big hD))
  have hn : H D = none := I.hok.fresh hD
  exact ⟨.ref D, upd H D (DO D ep es), I.laid (t' := tk) ext hD (DO.ok ⟨o, ents, ho, x⟩), rfl, an.dct r D hn lo (re.mono (r.newO hn).2.2.1) pw⟩
theorem isStr_self (x : Str) (t : Tok) : (leafKind P0 w).is (.text x) (.str x t) = true := by
  show Value.isStrOf x (.str x t) = true
  simp [Value.isStrOf]
theorem leaf_pairs : ∀ {es : List (Int × V × V)} {ds : List DictEntry} {kvs : List (PyData × PyData)}, Paired EntR es ds → RepEs w K F H es kvs → kvs.all txK = true →
    ∃ ls : List (PySem.Leaf × Value), Pairs (leafKind P0 w) ds ls ∧ ls.length = kvs.length ∧ (∀ e ∈ ds, ∃ k, (leafKind P0 w).is k e.key = true ∧ e.hash = (leafKind P0 w).hash k) ∧ (∀ l ∈ ls, ∃ p ∈ kvs, ∃ x, p.1 = .str x ∧ l.1 = .text x) ∧ (kvs.Pairwise (fun p q => p.1.eqv q.1 = false) → (ls.map (·.1)).Nodup) ∧
      ∀ ds' : List DictEntry, Pairs (leafKind P0 w) ds' ls → (∀ e ∈ ds', ∃ k, (leafKind P0 w).is k e.key = true ∧ e.hash = (leafKind P0 w).hash k) → Paired EntR es ds' := by
  intro es
  induction es with
  | nil => intro ds kvs pr re _; cases pr; cases re; exact ⟨[], .nil, rfl, fun e he => by simp at he, fun l hl => by simp at hl, fun _ => .nil, fun ds' p _ => by cases p; exact .nil⟩
  | cons e es ih =>
    intro ds kvs pr re h
    cases pr with
    | cons p1 p2 =>
      cases re with
      | @cons i k v _ pk pv kvs e1 e2 e3 e4 e5 =>
        rename_i d ds
        simp only [List.all_cons, Bool.and_eq_true] at h
        obtain ⟨ls, q1, q2, q3, q4, q5, q6⟩ := ih p2 e5 h.2
        obtain ⟨h1, h2, h3⟩ := p1
        cases pk with
        | str x =>
          cases e3
          obtain ⟨t, ht⟩ := h2
          have ht : d.key = .str x t := ht
          refine ⟨(.text x, d.val) :: ls, .cons (by rw [ht]; exact isStr_self x t) rfl q1, by simp [q2], fun e he => ?_, fun l hl => ?_, fun pw => ?_, fun ds' p hk => ?_⟩
          · rcases List.mem_cons.mp he with rfl | he
            · exact ⟨.text x, by rw [ht]; exact isStr_self x t, by rw [← h1]; exact e1⟩
            · exact q3 e he
          · rcases List.mem_cons.mp hl with rfl | hl
            · exact ⟨(.str x, pv), by simp, x, rfl, rfl⟩
            · obtain ⟨p, hp, y, r1, r2⟩ := q4 l hl
              exact ⟨p, by simp [hp], y, r1, r2⟩
          · obtain ⟨w1, w2⟩ := List.pairwise_cons.mp pw
            rw [List.map_cons, List.nodup_cons]
            refine ⟨fun hm => ?_, q5 w2⟩
            obtain ⟨l, hl, el⟩ := List.mem_map.mp hm
            obtain ⟨p, hp, y, r1, r2⟩ := q4 l hl
            have := w1 p hp
            rw [r2] at el
            cases el
            rw [r1] at this
            simp [PyData.eqv] at this
          · cases p with
            | cons g1 g2 g3 =>
              rename_i d' ds'
              obtain ⟨u, hu⟩ := Value.isStrOf_shape (x := x) g1
              refine .cons ⟨?_, ⟨u, hu⟩, ?_⟩ (q6 ds' g3 fun e he => hk e (by simp [he]))
              · obtain ⟨k', k1, k2⟩ := hk d' (by simp)
                have : k' = .text x := (leafKind P0 w).inj _ _ _ k1 g1
                rw [k2, this]
                exact e1
              · show L2.RelV v d'.val
                rw [g2]
                exact h3
        | none => exact absurd h.1 (by simp [txK])
        | bool _ => exact absurd h.1 (by simp [txK])
        | int _ => exact absurd h.1 (by simp [txK])
        | list _ => exact absurd h.1 (by simp [txK])
        | tuple _ => exact absurd h.1 (by simp [txK])
        | dict _ => exact absurd h.1 (by simp [txK])
theorem cr_dict : CallR X (.type "dict") (rBi X bDict) := by
  intro pins s σ H vs us Q I rv ⟨hu, hc, hgd, F, fp, σ', env, ps, z, r, d, e, an⟩
  have hh : X.A.handled = none := I.ok.hd hc
  unfold bDict at e
  split at e
  · rename_i l
    obtain ⟨v, rfl, dv⟩ := d.one
    split at e
    · rename_i hz
      cases e
      rw [Bool.and_eq_true] at hz
      have hz2 := of_decide_eq_true hz.2
      obtain ⟨a, es, ents, ep, rfl, hs, re, pr, raw, hn⟩ := dv.raw I
      obtain ⟨_, _, _, _, _, _, pw⟩ := dv.dict
      obtain ⟨u, rfl, ru⟩ := vals1 rv
      cases ru
      obtain ⟨ls, q1, q2, q3, q4, q5, q6⟩ := leaf_pairs (P0 := X.prog) pr re hz.1
      obtain ⟨o, ho, hx, hd⟩ := raw
      refine PySem.kt_call_dict (knd := leafKind X.prog X.w) hs ⟨o, ents, ep, ho, hx, hd, fun e he => q3 e (Array.mem_toList_iff.mpr he), q1, q5 pw⟩ (by rw [q2]; exact hz2) fun h' hd' sb => ?_
      obtain ⟨o', es', ep', ho', hx', hd2, hk', p', _⟩ := hd'
      refine laid_dict (tk := s.toks) I r (Nat.le_refl _) (fun b o e => sb.2 b (Nat.ne_of_lt (Heap.lt_size e)) ▸ Heap.get?_push_of_some _ e) ⟨o', es', ep', ho', hx', hd2, q6 _ p' fun e he => hk' e (Array.mem_toList_iff.mp he)⟩ re pw an
    · cases e
  · rename_i l
    obtain ⟨v, rfl, dv⟩ := d.one
    obtain ⟨qs, e1, e2⟩ := Option.bind_eq_some_iff.mp e
    split at e2
    · rename_i hz
      cases e2
      rw [Bool.and_eq_true] at hz
      have hz2 := of_decide_eq_true hz.2
      obtain ⟨a, xs, rfl, h1, d1⟩ := dv.list
      obtain ⟨u, rfl, ru⟩ := vals1 rv
      cases ru
      rw [pairs_mem e1] at d1
      obtain ⟨z, its, n, rv', hl, ho⟩ := lstR I h1
      obtain ⟨Tl, pv, rfl, p1, p2, p3⟩ := pairs_at I.hok I.kIn d1 rv'
      refine dictArg (F := F) (H := H) I (fun b o e => e) (PairArg.list a (Tl.map Value.ref).toArray (fun j => Tl.getD j 0) pv) (fun b hb => by simp at hb) hh (by omega) ⟨⟨_, n, ho, rfl, rfl, rfl⟩, by simp [p1, p2], fun j k v hj => ?_⟩ p1 hz.1 hz2 (fun i k v hr => ?_) fun h' tk es x1 x2 x3 x4 => laid_dict I r (Nat.le_refl _) x1 x2 x3 x4 an
      · obtain ⟨T, pk, pe, kV, vV, a1, a2, _⟩ := p3 j k v hj
        refine ⟨by simp [a1], ?_⟩
        have : Tl.getD j 0 = T := by rw [List.getD_eq_getElem?_getD, a1]; rfl
        show PairAt s.heap (Tl.getD j 0) k v
        rw [this]
        exact a2
      · obtain ⟨T, pk, pe, kV, vV, a1, a2, a3, a4, a5, a6, a7⟩ := p3 i k v hr
        exact ⟨pk, pe, kV, vV, a3, a4, a5, a6, a7⟩
    · cases e2
  · cases e
end
end Z

/-! Zg2: dict comprehensions, keys of any kind. -/
namespace Z
open PySem PySem.Spec PyProof.Rows L2
/-- {k: v for target in iter if ..}: D is the new dict -/
def tDcZ (X : L2.Cx) (wi : TI) (g : TG) (tt : TT) (tk tv : TE) (vs : List Nat) : TE := fun σ H Q => wi σ H fun J H1 => ∀ D, H1 D = none → (D == sysModules) = false → ∃ Inw : Nat → Nat → Hp → Prop, (∃ m, Inw 0 m (upd H1 D (DO D 0 []))) ∧ ∀ i m H, Inw i m H →
  (J.stop i H ∧ Q (.ref D) H) ∨ (J.go i H ∧ ∃ Nx : Hp → Prop, (∀ H', Nx H' → ∃ m', m' < m ∧ Inw (i + 1) m' H') ∧ ∀ x H', J.yld i H x H' → g x (L2.wipe σ vs) H' fun σ2 H2 => L2.wipe σ2 vs = L2.wipe σ vs ∧ tt σ2 H2 fun b H3 =>
    if b = true then tk σ2 H3 fun y H4 => tv σ2 H4 fun z H5 => ∃ (F : Fz) (ep : Nat) (es : List (Int × V × V)) (kvs : List (PyData × PyData)) (k : PyData), RepD X.w X.K F H5 y k ∧ keyOk k = true ∧ H5 D = some (DO D ep es) ∧ RepEs X.w X.K F H5 es kvs ∧ kvs.Pairwise (fun p q => p.1.eqv q.1 = false) ∧ kvs.length ≤ sizeLine ∧
      ∀ ep', Nx (upd H5 D (DO D ep' (putE es (kix kvs k) ((nk k).hash X.w) y z))) else Nx H3)
section
variable {X : L2.Cx} {pins : List (Addr × Obj)} {s : Shared} {σ : L2.St} {H : Hp} {Q : VK} {kx vx tg iter : Expr} {ifs : List Expr} {scope : Scope} {own : List (Str × Nat)} {pos : Pos} {wi : TI} {g : TG} {tt : TT} {tk tv : TE}
/-- d[k] = v in a block -/
theorem dSetB {pins : List (Addr × Obj)} {A : Around} {E : Value → Shared → Prop} (I : L2.Inv X pins σ H s) (hu : A.units + 8 < cLine) {F : Fz} {D : Addr} {ep : Nat} {es : List (Int × V × V)} {kvs : List (PyData × PyData)} {k : PyData} {y z : V} {u v : Value} (ry : RelV y u) (rz : RelV z v) (rk : RepD X.w X.K F H y k)
    (hk : keyOk k = true) (hD : H D = some (DO D ep es)) (re : RepEs X.w X.K F H es kvs) (pw : kvs.Pairwise (fun p q => p.1.eqv q.1 = false)) (hl : kvs.length ≤ sizeLine) {Q' : Unit → Shared → Prop}
    (q : ∀ ep' t, L2.Inv X pins σ (upd H D (DO D ep' (putE es (kix kvs k) ((nk k).hash X.w) y z))) t → Q' () t) : wpAny (model X.prog X.w) A (dictSet D u v) Q' E s := by
  have hd : RdD H D es := ⟨ep, .inl hD⟩
  obtain ⟨⟨o, ents, ep1, ho, r⟩, _⟩ := hd.ok I.hok
  refine dSetH (X := X) (F := F) (H := H) I.hok I.kIn ⟨o, ents, ep1, ho, r⟩ re pw rk hk ry rz hu hl fun h' tk sb rd => ?_
  obtain ⟨o', ents', ep', ho', r'⟩ := rd
  exact q ep' _ (I.write (t' := tk) (x := D) (e := D) (by rw [hD]; trivial) (.inl rfl) (fun b u nb e => (sb.2 b nb).trans e) ⟨o', ho'⟩ (DO.ok ⟨o', ents', ho', r'⟩))
theorem dcZ_core {use : Option (Value → Sem Unit)} {Qf : Value → Shared → Prop} {pos' : Pos} (I : L2.Inv X pins σ H s) (hc : X.calm = true) (hN : X.N.Nodup) (hu : X.A.units + 200 < cLine) (hi : PI X tg iter wi) (ok : BlkOk X.N X.env.scope scope own)
    (hg : ∀ (s : Shared) (H : Hp) (C : Addr) (cl : List (Str × Addr)) (fp : List Addr), PG (X.blk s H scope (compEnvC scope cl C X.env) fp) tg g) (ht : ∀ (s : Shared) (H : Hp) (C : Addr) (cl : List (Str × Addr)) (fp : List Addr), PTs (X.blk s H scope (compEnvC scope cl C X.env) fp) ifs tt)
    (hk : ∀ (s : Shared) (H : Hp) (C : Addr) (cl : List (Str × Addr)) (fp : List Addr), PE (X.blk s H scope (compEnvC scope cl C X.env) fp) kx tk) (hv : ∀ (s : Shared) (H : Hp) (C : Addr) (cl : List (Str × Addr)) (fp : List Addr), PE (X.blk s H scope (compEnvC scope cl C X.env) fp) vx tv)
    (hs : ∀ x, foldedSetIterable iter X.env x = pure x) (h : tDcZ X wi g tt tk tv (own.map (·.2)) σ H Q)
    (hRR : ∀ D C s' m H', L2.Inv X pins σ H' s' → Q (.ref D) H' → s'.heap.Ns C m → FpOk X pins H' C → compPost (model X.prog X.w) X.A X.xe use Qf (.ref D) C (.ok .next) s') :
    wpAny (model X.prog X.w) X.A (comprehension (.DictComp kx vx [⟨tg, iter, ifs, 0⟩] scope pos) scope X.env pos' newDict false (eval iter X.env) use) Qf X.xe s := by
  have cl0 : ∀ y ∈ scope.names, y.2 = .free → ∃ c, X.env.cells.lookup y.1 = some c := fun y hy e => (ok.free y hy e).elim (fun k => I.ok.has _ (.inl k)) fun k => I.ok.has _ (.inr k)
  refine wpAny_comprehension_free (use := use) rfl hs (closure_ok cl0) ok.kind (fun y hy e => by rw [ok.uniq y hy, e]) (thn (hi.run pins s σ H _ I h) fun xv s1 hx => thn hx fun itv s2 h2 => ?_)
  obtain ⟨it, fp, tn, J, H2, rfl, I2, T, st2, f2, q⟩ := h2
  refine wpAny_newObj_type <| newEnv_comp ?_
  obtain ⟨D, hD⟩ : ∃ D, s2.heap.objs.size = D := ⟨_, rfl⟩
  have nD : H2 D = none := I2.hok.fresh (by rw [hD]; exact Nat.le_refl _)
  have lo : (D == sysModules) = false := by rw [← hD]; exact not_low I2
  obtain ⟨Inw, ⟨m0, w0⟩, turn⟩ := q D nD lo
  have I3 : L2.Inv X pins σ (upd H2 D (DO D 0 [])) { s2 with heap := s2.heap.push { cls := .type "dict", data := .dict #[] } } := by
    have := new_dict I2
    rwa [hD] at this
  rw [hD]
  obtain ⟨s3, hs3⟩ : ∃ s3 : Shared, s3 = { s2 with heap := s2.heap.push { cls := .type "dict", data := .dict #[] } } := ⟨_, rfl⟩
  have h3 : s3.heap = s2.heap.push { cls := .type "dict", data := .dict #[] } := by rw [hs3]
  rw [← hs3] at I3
  have up : ∀ b o, s2.heap.get? b = some o → s3.heap.get? b = some o := fun b o e => by rw [h3]; exact Heap.get?_push_of_some _ e
  have there : ∀ b ∈ fp, b < s2.heap.objs.size := fun b hb => let ⟨_, e, _⟩ := T.obj _ _ st2 b hb; Heap.lt_size e
  have f3 : ∀ b ∈ fp, FpOk X pins (upd H2 D (DO D 0 [])) b ∧ b < s3.heap.objs.size := fun b hb => by
    have lt := there b hb
    have ne : b ≠ D := by rw [← hD]; exact Nat.ne_of_lt lt
    exact ⟨⟨(upd_ne ne).trans (f2 b hb).1, (f2 b hb).2⟩, by rw [h3, Heap.size_push]; exact Nat.lt_succ_of_lt lt⟩
  have st3 : tn 0 s3.heap := T.keep _ _ _ st2 fun b _ o => up b o
  have I4 := block_start I3 ok hN f3
  obtain ⟨C, hC⟩ : ∃ C, s3.heap.objs.size = C := ⟨_, rfl⟩
  obtain ⟨ce, hce⟩ : ∃ ce, compEnvC scope (cellsFrom (C + 1) scope.names (cloFrom X.env.cells scope.names [])) C X.env = ce := ⟨_, rfl⟩
  have pg := hg s3 (upd H2 D (DO D 0 [])) C (cellsFrom (C + 1) scope.names (cloFrom X.env.cells scope.names [])) fp
  have pt := ht s3 (upd H2 D (DO D 0 [])) C (cellsFrom (C + 1) scope.names (cloFrom X.env.cells scope.names [])) fp
  have pk := hk s3 (upd H2 D (DO D 0 [])) C (cellsFrom (C + 1) scope.names (cloFrom X.env.cells scope.names [])) fp
  have pv := hv s3 (upd H2 D (DO D 0 [])) C (cellsFrom (C + 1) scope.names (cloFrom X.env.cells scope.names [])) fp
  rw [hC] at I4
  rw [hce] at I4 pg pt pk pv
  have cL : ce.locals = C := by rw [← hce]; rfl
  show codeAny _ _ (.compStart (.DictComp kx vx [⟨tg, iter, ifs, 0⟩] scope pos) 0 (.ref it) (.ref D) (compEnvC scope (cellsFrom ((s2.heap.push { cls := .type "dict", data := .dict #[] }).objs.size + 1) scope.names (cloFrom X.env.cells scope.names [])) (s2.heap.push { cls := .type "dict", data := .dict #[] }).objs.size X.env)) _ _
  rw [← h3, hC, hce]
  obtain ⟨H3, hH3⟩ : ∃ H3, upd H2 D (DO D 0 []) = H3 := ⟨_, rfl⟩
  rw [hH3] at I3 I4 pg pt pk pv w0 f3
  obtain ⟨s4, hs4⟩ : ∃ s4 : Shared, ({ s3 with heap := pushCells (s3.heap.push { cls := .type "dict", data := .dict #[] }) scope.names } : Shared) = s4 := ⟨_, rfl⟩
  rw [hs4] at I4
  have e4 : ({ heap := pushCells (s3.heap.push { cls := .type "dict", data := .dict #[] }) scope.names, gens := s2.gens, drawn := s2.drawn, toks := s2.toks, os := s2.os } : Shared) = s4 := by rw [← hs4, hs3]
  rw [e4]
  have st4 : tn 0 s4.heap := T.keep _ _ _ st3 fun b _ o e => by rw [← hs4]; exact pushCells_keeps _ _ _ _ (Heap.get?_push_of_some _ e)
  have stays : ∀ {τ : L2.St} {G : Hp} {t : Shared}, L2.Inv (X.blk s3 H3 scope ce fp) [] τ G t → (∀ b ∈ fp, G b = none) → ∀ b ∈ fp, FpOk (X.blk s3 H3 scope ce fp) [] G b := fun {τ G t} J hn b hb =>
    ⟨hn b hb, (J.ok.exf b hb).1, J.ok.exfs b hb, .inl hb, fun x c e => (J.ok.exf b hb).2 x c e, fun p hp => absurd (show p ∈ ([] : List (Addr × Obj)) ++ [] from hp) (by simp)⟩
  have loop : codeAny (model X.prog X.w) X.A (.compLoop (.DictComp kx vx [⟨tg, iter, ifs, 0⟩] scope pos) 0 (.ref it) (.ref D) ce) (compPost (model X.prog X.w) X.A X.xe use Qf (.ref D) C) s4 := by
    refine compLoop_anyD (fun n t => ∃ i G, L2.Inv (X.blk s3 H3 scope ce fp) [] (L2.wipe σ (own.map (·.2))) G t ∧ tn i t.heap ∧ (∀ b ∈ fp, G b = none) ∧ Inw i n G) ?_ m0 ⟨0, H3, I4, st4, fun b hb => (f3 b hb).1.1, w0⟩
    rintro n s5 ⟨i, H5, I5, st5, n5, w5⟩
    rcases turn i n H5 w5 with ⟨stop, qq⟩ | ⟨go, Nx, hNx, step⟩
    · refine thnF (T.done (X.blk s3 H3 scope ce fp) rfl rfl rfl hc i [] s5 _ H5 (fun _ _ => False) I5 (stays I5 n5) st5 stop) fun r s6 ⟨hr, I6⟩ => ?_
      subst hr
      have I7 : L2.Inv X pins σ H5 s6 := I3.call' (ch := fp) I6.os I6.base I6.hok I6.bare fun b hb => by
        obtain ⟨_, a1, a2, a3, a4, a5⟩ := (f3 b hb).1
        exact ⟨a3, a1, a4, a5⟩
      have nC : H5 C = none := by
        have z : H5 ce.locals = none := I6.free
        rwa [cL] at z
      obtain ⟨m, hn, _⟩ := I6.loc
      have hn : s6.heap.Ns ce.locals m := hn
      rw [cL] at hn
      exact hRR D C s6 m H5 I7 qq hn (I3.fpOk (Nat.le_of_eq hC) nC)
    · refine thnF (T.item (X.blk s3 H3 scope ce fp) rfl rfl rfl hc i [] s5 _ H5 (fun _ _ => False) I5 (stays I5 n5) st5 go) fun r s6 ⟨u, hr, h6⟩ => ?_
      subst hr
      refine thnF h6 fun _ s7 ⟨x, H7, I7, r7, y7, st7, n7⟩ => ?_
      have J7 := I7.pinned (stays I7 n7) (T.obj _ _ st7)
      refine thnF (pg.run _ s7 _ H7 x u _ J7 r7 (step x H7 y7)) fun _ s8 ⟨σ8, H8, I8, hw8, q8⟩ => thnF (pt.run _ s8 σ8 H8 _ I8 q8) fun b s9 ⟨H9, I9, q9⟩ => ?_
      have fin : ∀ {t : Shared} {G : Hp}, L2.Inv (X.blk s3 H3 scope ce fp) ([] ++ pinsAt fp s7.heap) σ8 G t → Nx G → ∃ m, m < n ∧ ∃ i G, L2.Inv (X.blk s3 H3 scope ce fp) [] (L2.wipe σ (own.map (·.2))) G t ∧ tn i t.heap ∧ (∀ b ∈ fp, G b = none) ∧ Inw i m G := fun {t G} J nx => by
        obtain ⟨m', hm, w'⟩ := hNx G nx
        have pin' : ∀ b ∈ fp, ∀ o, s7.heap.get? b = some o → t.heap.get? b = some o ∧ G b = none := fun b hb o e => by
          have z := J.pin (b, o) (List.mem_append_right _ (List.mem_append_right _ (mem_pinsAt hb e)))
          exact ⟨z.1, z.2.1⟩
        refine ⟨m', hm, i + 1, G, (J.unpinned (pins := [])).weak (by rw [← hw8, wipe_length]) (fun j v e => ?_), T.keep _ _ _ st7 fun b hb o e => (pin' b hb o e).1, fun b hb => ?_, w'⟩
        · rw [← hw8] at e
          exact (wipe_some e).1
        · obtain ⟨o, e, _⟩ := T.obj _ _ st7 b hb
          exact (pin' b hb o e).2
      cases b with
      | false =>
        rw [if_neg Bool.false_ne_true] at q9 ⊢
        exact fin I9 q9
      | true =>
        rw [if_pos rfl] at q9 ⊢
        refine thnF (pk.run _ s9 σ8 H9 _ I9 q9) fun z s10 ⟨yk, H10, I10, r10, q10⟩ => thnF (pv.run _ s10 σ8 H10 _ I10 q10) fun z2 s11 ⟨yv, H11, I11, r11, F, ep, es, kvs, k, d1, d2, d3, d4, d5, d6, nx⟩ => ?_
        exact dSetB (X := X.blk s3 H3 scope ce fp) I11 (by show X.A.units + 8 < cLine; omega) r10 r11 d1 d2 d3 d4 d5 d6 fun ep' s12 I12 => fin I12 (nx ep')
  exact codeAny_compStart_dict loop (T.self X.A 0 _ _ _ st4 loop)
theorem pe_dcZ (hc : X.calm = true) (hN : X.N.Nodup) (hu : X.A.units + 200 < cLine) (hi : PI X tg iter wi) (ok : BlkOk X.N X.env.scope scope own)
    (hg : ∀ (s : Shared) (H : Hp) (C : Addr) (cl : List (Str × Addr)) (fp : List Addr), PG (X.blk s H scope (compEnvC scope cl C X.env) fp) tg g) (ht : ∀ (s : Shared) (H : Hp) (C : Addr) (cl : List (Str × Addr)) (fp : List Addr), PTs (X.blk s H scope (compEnvC scope cl C X.env) fp) ifs tt)
    (hk : ∀ (s : Shared) (H : Hp) (C : Addr) (cl : List (Str × Addr)) (fp : List Addr), PE (X.blk s H scope (compEnvC scope cl C X.env) fp) kx tk) (hv : ∀ (s : Shared) (H : Hp) (C : Addr) (cl : List (Str × Addr)) (fp : List Addr), PE (X.blk s H scope (compEnvC scope cl C X.env) fp) vx tv)
    (hs : ∀ x, foldedSetIterable iter X.env x = pure x := by intro _; rfl) : PE X (.DictComp kx vx [⟨tg, iter, ifs, 0⟩] scope pos) (tDcZ X wi g tt tk tv (own.map (·.2))) := by
  refine ⟨fun pins s σ H Q I h => ?_⟩
  rw [arm_eval_DictComp]
  refine dcZ_core I hc hN hu hi ok hg ht hk hv hs h fun D C s' m H' I' q hn f => ⟨m, hn, fun h'' sb => ?_⟩
  obtain ⟨c0, c1, c2, c3, c4, c5⟩ := f
  exact ⟨.ref D, H', I'.turned (t' := s'.toks) (fun b o hb e => (sb.2 b hb).trans e) c0 c1 c3 c4 c5, rfl, q⟩
theorem ps_setDcZ {i : Nat} {y : Str} {py spos : Pos} (hc : X.calm = true) (hN : X.N.Nodup) (hu : X.A.units + 200 < cLine) (hy : X.N[i]? = some y) (hyl : X.env.scope.names.lookup y = some .local)
    (hsw : swapsWith (.DictComp kx vx [⟨tg, iter, ifs, 0⟩] scope pos) (some (.Name y py)) spos.line X.env = pure true) (hi : PI X tg iter wi) (ok : BlkOk X.N X.env.scope scope own)
    (hg : ∀ (s : Shared) (H : Hp) (C : Addr) (cl : List (Str × Addr)) (fp : List Addr), PG (X.blk s H scope (compEnvC scope cl C X.env) fp) tg g) (ht : ∀ (s : Shared) (H : Hp) (C : Addr) (cl : List (Str × Addr)) (fp : List Addr), PTs (X.blk s H scope (compEnvC scope cl C X.env) fp) ifs tt)
    (hk : ∀ (s : Shared) (H : Hp) (C : Addr) (cl : List (Str × Addr)) (fp : List Addr), PE (X.blk s H scope (compEnvC scope cl C X.env) fp) kx tk) (hv : ∀ (s : Shared) (H : Hp) (C : Addr) (cl : List (Str × Addr)) (fp : List Addr), PE (X.blk s H scope (compEnvC scope cl C X.env) fp) vx tv)
    (hs : ∀ x, foldedSetIterable iter X.env x = pure x := by intro _; rfl) : PS X (.Assign [.Name y py] (.DictComp kx vx [⟨tg, iter, ifs, 0⟩] scope pos) spos) (tAsg (tDcZ X wi g tt tk tv (own.map (·.2))) (gName i)) := by
  refine ⟨fun pins s σ H D I h => ?_⟩
  rw [exec_Assign_Name_used _ _ _ _ hsw]
  refine wpAny_bind (wpAny_standAt (wpAny_bind ?_))
  show wpAny _ X.A (do let _ ← comprehension (.DictComp kx vx [⟨tg, iter, ifs, 0⟩] scope pos) scope X.env (firstIterPos [⟨tg, iter, ifs, 0⟩] pos) newDict false (eval iter X.env) (some (assign (.Name y py) X.env))) _ _ s
  have h : tDcZ X wi g tt tk tv (own.map (·.2)) σ H (fun x H1 => gName i x σ H1 D.nx) := h
  refine wpAny_bind (thn (dcZ_core (Qf := fun _ s' => SP X pins D .next s') I hc hN hu hi ok hg ht hk hv hs h fun L C s' m H' I' q hn f => ?_) fun _ s' hq => wpAny_pure (wpAny_pure hq))
  refine wpAny_assign_Name (store_ok2 (v := V.ref L) I' hN hy (.inl hyl) rfl (fun s2 I2 ⟨a, sb, ha⟩ => ?_) <| .inr hyl)
  obtain ⟨c0, c1, c2, c3, c4, c5⟩ := f
  have nCa : C ≠ a := ha.elim (fun z => by rw [z]; exact c1) fun z e => c4 y a z e.symm
  exact ⟨m, hn.sameBut sb nCa, fun h3 sb3 => ⟨_, H', I2.turned (t' := s2.toks) (fun b o hb e => (sb3.2 b hb).trans e) c0 c1 c3 c4 c5, q⟩⟩
theorem swD_true {kx vx : Expr} {gs : List Comprehension} {scope : Scope} {pos py : Pos} {y : Str} {l : Nat} {env : PySem.Env} (hk : env.scope.kind = .function) (hy : env.scope.names.lookup y = some .local) (hl : (py.line == pos.line) = true)
    (ha : (scope.names.any fun (n, k) => n == y && (k == .local || k == .cell)) = false) : swapsWith (.DictComp kx vx gs scope pos) (some (.Name y py)) l env = pure true := by
  have e1 : env.kindOf y = some .local := hy
  have e2 : env.blockKind = .function := by unfold Env.blockKind; rw [hk]; rfl
  unfold swapsWith
  simp only [e1, e2, ha, Expr.pos, hl]
  rfl
end
def dcG (own : List Nat) (g : Bd) (tt : M Bool) (mk mv : M PyData) : List PyData → KVs → Env → Res KVs
  | [], acc, e => .ok acc e
  | x :: xs, acc, e => match g x (wipeE e own) with
    | none => .bad
    | some e1 => (tt e1).bind fun b e2 => if b = true then (mk e2).bind fun p e3 => (mv e3).bind fun q e4 => if (keyOk p && decide (acc.length < sizeLine)) = true then dcG own g tt mk mv xs (dput acc p q) e4 else .bad else dcG own g tt mk mv xs acc e2
def vDc (own : List Nat) (g : Bd) (it : M (List PyData)) (tt : M Bool) (mk mv : M PyData) : M W := fun env => (it env).bind fun l e => match dcG own g tt mk mv l [] (frzE own e) with
  | .ok acc e2 => .ok (.dct acc) (unwE own (frzE own e) (wipeE e2 own))
  | _ => .bad
section
variable {X : L2.Cx}
theorem dc_weak {own : List Nat} {g : Bd} {it : M (List PyData)} {tt : M Bool} {mk elt : M PyData} {U : WX} {σ : L2.St} {H : Hp} {Q : VK} (hnd : own.Nodup) (n : Nat) (hbl : BdL g) (hσ : σ.length ≤ n) (h : zV X U (vDc own g it tt mk elt) σ H Q) : tDcZ X (zI X U it) (zGt X (compl n own) g) (zG rB X noU tt) (zG rD X noU mk) (zG rD X noU elt) own σ H Q := by
  obtain ⟨F, fp, env, r, gg⟩ := h
  refine ⟨F, fp, env, r, gg.bnd fun l e1 F1 fp1 H1 st1 g1 r1 J hJ => ?_⟩
  intro D hD lo
  -- the whole block goes through
  cases hq : dcG own g tt mk elt l [] (frzE own e1) with
  | bad => rw [hq] at g1; exact False.elim g1
  | exc x e => rw [hq] at g1; exact False.elim g1
  | ok accF eF =>
    rw [hq] at g1
    obtain ⟨F2, fp2, st2, r2⟩ := frz_ok (own := own) r1
    have fz : FrzAt own (frzE own e1) := by
      have := frzE_at (own := own) (env := e1) (S := []) fun i hi => by simp at hi
      simpa using this
    obtain ⟨st3, r3, k3, nd3, dj3⟩ := r2.newO (o := DO D 0 []) hD
    obtain ⟨fp4, s4, r4⟩ := wipe_ok r3 own
    have dfp : D ∉ fp4 := fun z => by
      have := s4.subset z
      rw [List.nodup_append] at nd3
      exact nd3.2.2 D (by simp) D this rfl
    -- at turn i
    refine ⟨fun i m' H' => i + m' = l.length ∧ ∃ F' fp' env' acc accV ep, R X.w X.K F' H' (L2.wipe σ own) (wipeE env' own) fp' ∧ Kp F2 (upd H1 D (DO D 0 [])) F' H' ∧ D ∉ fp' ∧ ¬ F' D ∧ H' D = some (DO D ep accV) ∧ (RepEs X.w X.K F' H' accV acc ∧ acc.Pairwise (fun p q => p.1.eqv q.1 = false)) ∧
      Step F1 fp1 H1 F' ([D] ++ fp') H' ∧ dcG own g tt mk elt (l.drop i) acc env' = .ok accF eF, ⟨l.length, by omega, F2, fp4, frzE own e1, [], [], 0, r4, .refl, dfp, dj3 D (by simp), upd_same, ⟨.nil, .nil⟩, ?_, by rw [List.drop_zero]; exact hq⟩, ?_⟩
    · exact (st2.trans st3).sub2 fun a ha => by
        refine (st2.trans st3).own a ?_
        rcases List.mem_append.mp ha with z | z
        · exact List.mem_append_left _ z
        · exact List.mem_append_right _ (s4.subset z)
    rintro i m' H' ⟨him, F', fp', env', acc, accV, ep, r', k', nD, nF, hDv, da, st', hlc⟩
    have jk := hJ F' H' ((st2.kpr r1).trans (k3.trans k')) i
    cases hqi : l[i]? with
    | none =>
      have hl : l.length ≤ i := List.getElem?_eq_none_iff.mp hqi
      refine .inl ⟨jk.2 hl, ?_⟩
      rw [List.drop_eq_nil_of_le hl] at hlc
      unfold dcG at hlc
      cases hlc
      obtain ⟨fp5, s5, r5⟩ := unw_ok (k3.trans k') r2 hnd fz r'
      refine g1 F' ([D] ++ fp5) H' (st'.sub2 fun a ha => ?_) fp5 (.ref D) [D] rfl r5 ⟨.dct hDv lo da.1 da.2, ?_, fun a ha => by simp at ha; subst ha; exact nF⟩
      · refine st'.own a ?_
        rcases List.mem_append.mp ha with z | z
        · exact List.mem_append_left _ z
        · exact List.mem_append_right _ (s5 a z)
      · rw [List.nodup_append]
        refine ⟨by simp, r5.nd, fun a ha b hb h => ?_⟩
        simp at ha
        subst ha h
        exact nD (s5 _ hb)
    | some d =>
      have hl : i < l.length := (List.getElem?_eq_some_iff.mp hqi).1
      obtain ⟨go, yl⟩ := jk.1 d hqi
      refine .inr ⟨go, fun H2 => ∃ m2, m2 < m' ∧ (i + 1) + m2 = l.length ∧ ∃ F' fp' env' acc accV ep, R X.w X.K F' H2 (L2.wipe σ own) (wipeE env' own) fp' ∧ Kp F2 (upd H1 D (DO D 0 [])) F' H2 ∧ D ∉ fp' ∧ ¬ F' D ∧ H2 D = some (DO D ep accV) ∧ (RepEs X.w X.K F' H2 accV acc ∧ acc.Pairwise (fun p q => p.1.eqv q.1 = false)) ∧
        Step F1 fp1 H1 F' ([D] ++ fp') H2 ∧ dcG own g tt mk elt (l.drop (i + 1)) acc env' = .ok accF eF, fun H2 ⟨m2, a, b, c⟩ => ⟨m2, a, b, c⟩, ?_⟩
      intro x H3 y
      have hd : l.drop i = d :: l.drop (i + 1) := by
        rw [List.drop_eq_getElem_cons hl]
        have := (List.getElem?_eq_some_iff.mp hqi).2
        rw [this]
      rw [hd] at hlc
      unfold dcG at hlc
      -- the item
      obtain ⟨F3, st3', r3', d3, nF3, hD3⟩ : ∃ F3, Step F' fp' H' F3 fp' H3 ∧ R X.w X.K F3 H3 (L2.wipe σ own) (wipeE env' own) fp' ∧ RepD X.w X.K F3 H3 x d ∧ ¬ F3 D ∧ H3 D = some (DO D ep accV) := by
        rcases yl x H3 y with ⟨rfl, d3⟩ | ⟨a, xs, ps, rfl, nn, rfl, rfl, rs⟩
        · exact ⟨F', .refl, r', d3, nF, hDv⟩
        · obtain ⟨st, r2, k2⟩ := r'.newF (o := .tup xs) nn
          have na : D ≠ a := fun z => by rw [z, nn] at hDv; cases hDv
          refine ⟨_, st, r2, .tuple (.inl ⟨.inr rfl, .inl upd_same⟩) (rs.mono k2), fun z => ?_, by rw [upd_ne na]; exact hDv⟩
          rcases z with z | z
          · exact nF z
          · exact na z
      cases hg : g d (wipeE env' own) with
      | none => rw [hg] at hlc; cases hlc
      | some eg =>
        rw [hg] at hlc
        dsimp only at hlc
        refine ⟨F3, fp', wipeE env' own, d, eg, r3', d3, hg, fun σ4 fp5 s5 r5 m5 => ?_⟩
        have hl4 : σ4.length = (L2.wipe σ own).length := by
          rw [r5.rep.len, hbl _ _ _ hg, r3'.rep.len]
        have hw4 : L2.wipe σ4 own = L2.wipe σ own := by
          rw [compl_sm hl4 (by rw [wipe_length]; exact hσ) m5]
          exact wipe_same (wipe_length _ _) fun i hi => wipe_get hi
        refine ⟨hw4, F3, fp5, eg, r5, ?_⟩
        have nD5 : D ∉ fp5 := fun z => nD (s5 _ z)
        have st5 : Step F' fp' H' F3 fp5 H3 := st3'.sub fun a h => s5 a h
        cases ht : tt eg with
        | bad => rw [ht] at hlc; cases hlc
        | exc x e => rw [ht] at hlc; cases hlc
        | ok b e2 =>
          rw [ht] at hlc
          dsimp only [bind_ok] at hlc
          intro F6 fp6 H6 st6 b' r6 eb
          cases eb
          have nF6 : ¬ F6 D := fun z => by
            rcases st6.fr D z with q | q | q
            · exact nF3 q
            · exact nD5 q
            · rw [hD3] at q; cases q
          have nD6 : D ∉ fp6 := fun z => by
            rcases st6.own D z with q | q
            · exact nD5 q
            · rw [hD3] at q; cases q
          have hD6 : H6 D = some (DO D ep accV) := st6.ex D _ hD3 nD5
          have st56 : Step F' fp' H' F6 fp6 H6 := st5.trans st6
          -- a turn's end
          have fin : ∀ {F7 : Fz} {fp7 : List Addr} {H7 : Hp} {e7 : Env} {acc' : KVs} {accV' : List (Int × V × V)} {ep' : Nat}, Step F' fp' H' F7 fp7 H7 → R X.w X.K F7 H7 σ4 e7 fp7 → D ∉ fp7 → ¬ F7 D → RepEs X.w X.K F7 H7 accV' acc' → acc'.Pairwise (fun p q => p.1.eqv q.1 = false) →
              dcG own g tt mk elt (l.drop (i + 1)) acc' e7 = .ok accF eF → ∃ m2, m2 < m' ∧ (i + 1) + m2 = l.length ∧ ∃ F' fp' env' acc accV ep, R X.w X.K F' (upd H7 D (DO D ep' accV')) (L2.wipe σ own) (wipeE env' own) fp' ∧ Kp F2 (upd H1 D (DO D 0 [])) F' (upd H7 D (DO D ep' accV')) ∧ D ∉ fp' ∧ ¬ F' D ∧
                (upd H7 D (DO D ep' accV')) D = some (DO D ep accV) ∧ (RepEs X.w X.K F' (upd H7 D (DO D ep' accV')) accV acc ∧ acc.Pairwise (fun p q => p.1.eqv q.1 = false)) ∧ Step F1 fp1 H1 F' ([D] ++ fp') (upd H7 D (DO D ep' accV')) ∧ dcG own g tt mk elt (l.drop (i + 1)) acc env' = .ok accF eF := by
            intro F7 fp7 H7 e7 acc' accV' ep' s7 r7 nD7 nF7 da7 pw7 hl7
            obtain ⟨fp8, s8, r8⟩ := wipe_ok r7 own
            rw [hw4] at r8
            have nD8 : D ∉ fp8 := fun z => nD7 (s8.subset z)
            refine ⟨m' - 1, by omega, by omega, F7, fp8, e7, acc', accV', ep', r8.upd nD8 nF7, (k'.trans (s7.kpr r')).trans (.upd nF7), nD8, nF7, upd_same, ⟨da7.mono (.upd nF7), pw7⟩, ?_, hl7⟩
            exact (st'.trans (s7.addD.trans (.upd (by simp)))).sub fun a ha => by
              rcases List.mem_append.mp ha with z | z
              · exact List.mem_append_left _ z
              · exact List.mem_append_right _ (s8.subset z)
          cases b with
          | false =>
            simp only [Bool.false_eq_true, if_false] at hlc ⊢
            have e6 : upd H6 D (DO D ep accV) = H6 := by
              funext c
              unfold upd
              split
              · rename_i hc
                subst hc
                exact hD6.symm
              · rfl
            have := fin (ep' := ep) st56 r6 nD6 nF6 (da.1.mono (st56.kpr r')) da.2 hlc
            rw [e6] at this
            exact this
          | true =>
            simp only [if_true] at hlc ⊢
            refine ⟨F6, fp6, e2, r6, ?_⟩
            cases hmk : mk e2 with
            | bad => rw [hmk] at hlc; cases hlc
            | exc x e => rw [hmk] at hlc; cases hlc
            | ok pk e3 =>
              rw [hmk] at hlc
              dsimp only [bind_ok] at hlc
              intro F7 fp7 H7 st7 yv r7 dk
              have dk : RepD X.w X.K F7 H7 yv pk := dk
              refine ⟨F7, fp7, e3, r7, ?_⟩
              cases he : elt e3 with
              | bad => rw [he] at hlc; cases hlc
              | exc x e => rw [he] at hlc; cases hlc
              | ok p e4 =>
                rw [he] at hlc
                dsimp only [bind_ok] at hlc
                intro F8 fp8 H8 st8 zv r8 d8
                have d8 : RepD X.w X.K F8 H8 zv p := d8
                have st78 := st7.trans st8
                have hD8 : H8 D = some (DO D ep accV) := st78.ex D _ hD6 nD6
                split at hlc
                · rename_i hz
                  rw [Bool.and_eq_true] at hz
                  have dk8 := dk.mono (st8.kpr r7)
                  have da8 := da.1.mono ((st56.trans st78).kpr r')
                  have hp := RepEs.put da8 da.2 dk8 hz.1 d8
                  exact ⟨F8, ep, accV, acc, pk, dk8, hz.1, hD8, da8, da.2, Nat.le_of_lt (of_decide_eq_true hz.2), fun ep' => fin (ep' := ep') (st56.trans st78) r8 (fun z => by
                    rcases st78.own D z with q | q
                    · exact nD6 q
                    · rw [hD6] at q; cases q) (fun z => by
                    rcases st78.fr D z with q | q | q
                    · exact nF6 q
                    · exact nD6 q
                    · rw [hD6] at q; cases q) hp.1 hp.2 hlc⟩
                · cases hlc
theorem z_dc {kx vx tg iter : Expr} {ifs : List Expr} {scope : Scope} {own : List (Str × Nat)} {pos : Pos} {g : Bd} {mi : M (List PyData)} {tt : M Bool} {mk mv : M PyData} (hu : X.A.units + 200 < cLine) (hc : X.calm = true) (hN : X.N.Nodup) (hnd : (own.map (·.2)).Nodup) (hi : ZI X tg iter mi) (ok : BlkOk X.N X.env.scope scope own)
    (hg : ∀ (s : Shared) (H : Hp) (C : Addr) (cl : List (Str × Addr)) (fp : List Addr), ZG (X.blk s H scope (compEnvC scope cl C X.env) fp) (compl X.N.length (own.map (·.2))) tg g)
    (ht : ∀ (s : Shared) (H : Hp) (C : Addr) (cl : List (Str × Addr)) (fp : List Addr), ZTs (X.blk s H scope (compEnvC scope cl C X.env) fp) ifs tt)
    (hk : ∀ (s : Shared) (H : Hp) (C : Addr) (cl : List (Str × Addr)) (fp : List Addr), ZD (X.blk s H scope (compEnvC scope cl C X.env) fp) kx mk)
    (he : ∀ (s : Shared) (H : Hp) (C : Addr) (cl : List (Str × Addr)) (fp : List Addr), ZD (X.blk s H scope (compEnvC scope cl C X.env) fp) vx mv) (hs : ∀ x, foldedSetIterable iter X.env x = pure x := by intro _; rfl) :
    ZV X (.DictComp kx vx [⟨tg, iter, ifs, 0⟩] scope pos) (vDc (own.map (·.2)) g mi tt mk mv) :=
  ⟨fun U tk => ⟨fun pins s σ H Q I h => (pe_dcZ hc hN hu (hi.run U tk) ok (fun s H C cl fp => (hg s H C cl fp).run) (fun s H C cl fp => (ht s H C cl fp).run noU takes0) (fun s H C cl fp => (hk s H C cl fp).run noU takes0) (fun s H C cl fp => (he s H C cl fp).run noU takes0) hs).run pins s σ H Q I
    (dc_weak hnd X.N.length (hg s H 0 [] []).bl (by rw [I.len]; exact Nat.le_refl _) h)⟩⟩
theorem zs_setDc {fx : List Nat} {i : Nat} {y : Str} {py : Pos} {kx vx tg iter : Expr} {ifs : List Expr} {scope : Scope} {own : List (Str × Nat)} {pos spos : Pos} {g : Bd} {mi : M (List PyData)} {tt : M Bool} {mk mv : M PyData} (hfx : fx.contains i = false) (hu : X.A.units + 200 < cLine) (hc : X.calm = true) (hN : X.N.Nodup) (hy : X.N[i]? = some y)
    (hyl : X.env.scope.names.lookup y = some .local) (hsw : swapsWith (.DictComp kx vx [⟨tg, iter, ifs, 0⟩] scope pos) (some (.Name y py)) spos.line X.env = pure true) (hnd : (own.map (·.2)).Nodup) (hi : ZI X tg iter mi) (ok : BlkOk X.N X.env.scope scope own)
    (hg : ∀ (s : Shared) (H : Hp) (C : Addr) (cl : List (Str × Addr)) (fp : List Addr), ZG (X.blk s H scope (compEnvC scope cl C X.env) fp) (compl X.N.length (own.map (·.2))) tg g)
    (ht : ∀ (s : Shared) (H : Hp) (C : Addr) (cl : List (Str × Addr)) (fp : List Addr), ZTs (X.blk s H scope (compEnvC scope cl C X.env) fp) ifs tt)
    (hk : ∀ (s : Shared) (H : Hp) (C : Addr) (cl : List (Str × Addr)) (fp : List Addr), ZD (X.blk s H scope (compEnvC scope cl C X.env) fp) kx mk)
    (he : ∀ (s : Shared) (H : Hp) (C : Addr) (cl : List (Str × Addr)) (fp : List Addr), ZD (X.blk s H scope (compEnvC scope cl C X.env) fp) vx mv) (hs : ∀ x, foldedSetIterable iter X.env x = pure x := by intro _; rfl) :
    ZS X fx (.Assign [.Name y py] (.DictComp kx vx [⟨tg, iter, ifs, 0⟩] scope pos) spos) (sSet i (vDc (own.map (·.2)) g mi tt mk mv)) :=
  ⟨fun U tk => ⟨fun pins s σ H D I h => (ps_setDcZ hc hN hu hy hyl hsw (hi.run U tk) ok (fun s H C cl fp => (hg s H C cl fp).run) (fun s H C cl fp => (ht s H C cl fp).run noU takes0) (fun s H C cl fp => (hk s H C cl fp).run noU takes0) (fun s H C cl fp => (he s H C cl fp).run noU takes0) hs).run pins s σ H D I
    (dc_weak hnd X.N.length (hg s H 0 [] []).bl (by rw [I.len]; exact Nat.le_refl _) (set_weak hfx h))⟩⟩
end
/-! ### evaluating -/
def dc3 (own : List Nat) (g : Bd) (tt : M Bool) (mk mv : M PyData) (xs : List PyData) (acc : KVs) (p q : PyData) (e : Env) : Res KVs := if (keyOk p && decide (acc.length < sizeLine)) = true then dcG own g tt mk mv xs (dput acc p q) e else .bad
def dc2b (own : List Nat) (g : Bd) (tt : M Bool) (mk mv : M PyData) (xs : List PyData) (acc : KVs) (p : PyData) (e : Env) : Res KVs := (mv e).bind (dc3 own g tt mk mv xs acc p)
def dc2 (own : List Nat) (g : Bd) (tt : M Bool) (mk mv : M PyData) (xs : List PyData) (acc : KVs) (b : Bool) (e : Env) : Res KVs := if b = true then (mk e).bind (dc2b own g tt mk mv xs acc) else dcG own g tt mk mv xs acc e
def dc1 (own : List Nat) (g : Bd) (tt : M Bool) (mk mv : M PyData) (xs : List PyData) (acc : KVs) : Option Env → Res KVs
  | some e => (tt e).bind (dc2 own g tt mk mv xs acc)
  | none => .bad
theorem dc1_some (own : List Nat) (g : Bd) (tt : M Bool) (mk mv : M PyData) (xs : List PyData) (acc : KVs) (e : Env) : dc1 own g tt mk mv xs acc (some e) = (tt e).bind (dc2 own g tt mk mv xs acc) := (rfl)
theorem dc_nil (own : List Nat) (g : Bd) (tt : M Bool) (mk mv : M PyData) (acc : KVs) (e : Env) : dcG own g tt mk mv [] acc e = .ok acc e := (rfl)
theorem dc_cons (own : List Nat) (g : Bd) (tt : M Bool) (mk mv : M PyData) (x : PyData) (xs : List PyData) (acc : KVs) (e : Env) : dcG own g tt mk mv (x :: xs) acc e = dc1 own g tt mk mv xs acc (g x (wipeE e own)) := by
  show (match g x (wipeE e own) with | none => Res.bad | some e1 => _) = _
  cases g x (wipeE e own) <;> rfl
def dc0 (own : List Nat) (f : Env) : Res KVs → Res W
  | .ok acc e2 => .ok (.dct acc) (unwE own f (wipeE e2 own))
  | _ => .bad
theorem dc0_ok (own : List Nat) (f : Env) (acc : KVs) (e2 : Env) : dc0 own f (.ok acc e2) = .ok (.dct acc) (unwE own f (wipeE e2 own)) := (rfl)
def k1_vDc (own : List Nat) (g : Bd) (tt : M Bool) (mk mv : M PyData) (l : List PyData) (e : Env) : Res W := dc0 own (frzE own e) (dcG own g tt mk mv l [] (frzE own e))
theorem ev_vDc (own : List Nat) (g : Bd) (it : M (List PyData)) (tt : M Bool) (mk mv : M PyData) (e : Env) : vDc own g it tt mk mv e = (it e).bind (k1_vDc own g tt mk mv) := by
  show (it e).bind _ = _
  congr 1
end Z

/-! Zg3: setdefault, pop of a dict at a name. -/
namespace Z
open PySem PySem.Spec PyProof.Rows L2
/-- d.setdefault(k, v) -/
def vSd (i : Nat) (m : M (List PyData)) : M W := fun env => match env[i]? with
  | some (some (.dct _)) => (m env).bind fun ps e => match ps, e[i]? with
    | [k, v], some (some (.dct l)) => if (keyOk k && decide (l.length < sizeLine)) = true then (match dget l k with
      | some p => .ok (.f p) e
      | none => .ok (.f v) (e.set i (some (.dct (l ++ [(k, v)]))))) else .bad
    | _, _ => .bad
  | _ => .bad
/-- d.pop(k), k is there -/
def vDp (i : Nat) (m : M PyData) : M W := fun env => match env[i]? with
  | some (some (.dct _)) => (m env).bind fun k e => match e[i]? with
    | some (some (.dct l)) => if (keyOk k && decide (l.length ≤ sizeLine)) = true then (match dget l k with
      | some p => .ok (.f p) (e.set i (some (.dct (ddel l k))))
      | none => .bad) else .bad
    | _ => .bad
  | _ => .bad
section
variable {X : L2.Cx}
theorem dct_at {w : World} {K : PySem.W.Frag} {F : Fz} {H : Hp} {σ : L2.St} {env : Env} {fp : List Addr} {i : Nat} {l : KVs} (r : R w K F H σ env fp) (e : env[i]? = some (some (.dct l))) :
    ∃ a ep es, σ[i]? = some (some (.ref a)) ∧ H a = some (DO a ep es) ∧ (a == sysModules) = false ∧ RepEs w K F H es l ∧ l.Pairwise (fun p q => p.1.eqv q.1 = false) ∧ (∀ ep' es' l', RepEs w K F (upd H a (DO a ep' es')) es' l' → l'.Pairwise (fun p q => p.1.eqv q.1 = false) → Step F fp H F fp (upd H a (DO a ep' es')) ∧ R w K F (upd H a (DO a ep' es')) σ (env.set i (some (.dct l'))) fp) ∧
      (∀ o, Kp F H F (upd H a o)) ∧ a ∈ fp := by
  obtain ⟨v, q, l0, rr, e1, e2, rw', h⟩ := r.write e
  cases rw' with
  | @dct a0 ep0 es0 _ ha lo re pw =>
    have hm : a0 ∈ fp := by rw [e1]; simp
    exact ⟨_, _, _, e2, ha, lo, re, pw, fun ep' es' l' re' pw' => let z := h _ (DO _ ep' es') (.dct l') rfl (.dct upd_same lo re' pw'); ⟨z.1, z.2.1⟩, fun o => r.kpU hm, hm⟩
def rSd (X : L2.Cx) : V → List V → Hp → VK → Prop := fun x xs H Q => X.A.units + 200 < cLine ∧ ∃ (F : Fz) (a : Addr) (ep : Nat) (es : List (Int × V × V)) (l : KVs) (kV vV : V) (k v : PyData), x = .ref a ∧ xs = [kV, vV] ∧ H a = some (DO a ep es) ∧ (a == sysModules) = false ∧ RepEs X.w X.K F H es l ∧ l.Pairwise (fun p q => p.1.eqv q.1 = false) ∧
  RepD X.w X.K F H kV k ∧ keyOk k = true ∧ l.length < sizeLine ∧ match dget l k with
    | some p => ∀ y, RepD X.w X.K F H y p → Q y H
    | none => ∀ ep', Q vV (upd H a (DO a ep' (es ++ [((nk k).hash X.w, kV, vV)])))
theorem mt_sd : MtR X "dict.setdefault" (rSd X) := by
  intro pins s σ H x xs v us Q I rx rxs hh
  obtain ⟨hu, F, d, ep, es, l, kV, vV, k, val, rfl, rfl, hd, lo, re, pw, rk, hk, hz, q⟩ := hh
  obtain ⟨u, u2, rfl, ru, ru2⟩ := vals2 rxs
  cases rx
  have hR : RdD H d es := ⟨ep, .inl hd⟩
  have ty := DO.typeIs I hR
  refine wpAny_call_entry PySem.F.slot_dict_setdefault ty PySem.F.entry_dict_setdefault ?_ (PySem.F.args_dict_setdefault_3 _ _ _)
  unfold Builtin.«dict.setdefault»
  refine wpAny_bind ?_
  unfold Builtin.Dict.keyAndDefault
  refine wpAny_bind (wpAny_notOrdered_dict ty ?_)
  show wpAny _ _ (pure (d, u, some u2)) _ _ s
  refine wpAny_pure ?_
  simp only [lo, Bool.false_eq_true, if_false]
  obtain ⟨⟨o, ents, ep1, ho, hc, hdd, pr⟩, _⟩ := hR.ok I.hok
  obtain ⟨as, rds⟩ := rk.reads I.hok I.kIn ru
  obtain ⟨k1, k2⟩ := keyOk_hk hk
  have e1 := ents_len pr
  have e2 := re.length
  have e3 : ents.toList.length = ents.size := Array.length_toList
  refine wpAny_bind ?_
  unfold dictSetDefault
  refine wpAny_holding (wpAny_bind (pyHash_key (nk k) u _ s _ (nested_of k1 rds) (by rw [depth_nk k k1]; show X.A.units + 1 + k.depth < cLine; omega) ?_))
  obtain ⟨S, e⟩ := seek_of (A := X.A.in1) (s := { s with toks := s.toks + (nk k).draws }) I.hok I.kIn pr re pw rk hk ru (by show X.A.units + 1 + 8 < cLine; omega)
  refine wpAny_bind (dfind (s := { s with toks := s.toks + (nk k).draws }) S ho hdd ?_)
  rw [e]
  cases hj : kix l k with
  | none =>
    have hg : dget l k = none := by rw [dget_kix, hj]; rfl
    rw [hg] at q
    have fin : ∀ h' tk, Heap.SameBut d s.heap h' → RawD h' d (es ++ [((nk k).hash X.w, kV, vV)]) → EP X pins σ Q u2 { s with heap := h', toks := tk } := by
      intro h' tk sb rd
      obtain ⟨o', ents', ep', ho', r'⟩ := rd
      exact ⟨vV, _, I.write (t' := tk) (x := d) (e := d) (by rw [hd]; trivial) (.inl rfl) (fun b u nb e => (sb.2 b nb).trans e) ⟨o', ho'⟩ (DO.ok ⟨o', ents', ho', r'⟩), ru2, q ep'⟩
    refine wpAny_bind (wpAny_rule (wpAny_bind (wpAny_updateDictKeys (f := fun x => x.push ⟨(nk k).hash X.w, u, u2⟩) (hz := by omega) (hf := by simp) (s := { s with toks := s.toks + (nk k).draws }) ho hdd (wpAny_pure ?_))))
    refine wpAny_pure ⟨u2, rfl, fin _ _ (Heap.SameBut.update ..) ⟨_, _, ep1 + 1, Heap.get?_update_self _ ho (Obj.isFreed_of_dict (Obj.data_mapDictKeys hdd _)), hc.mapDictKeys _, Obj.data_mapDictKeys hdd _, ?_⟩⟩
    rw [Array.toList_push]
    exact entR_append pr (.cons ⟨rfl, ru, ru2⟩ .nil)
  | some j =>
    refine wpAny_bind (wpAny_dictEntries (s := { s with toks := s.toks + (nk k).draws }) ho hdd ?_)
    have hj' := hj
    unfold kix at hj'
    rw [List.findIdx?_eq_some_iff_getElem] at hj'
    have hlt' : j < ents.size := by have := hj'.1; omega
    have hge : ents[j]? = some ents[j] := Array.getElem?_eq_getElem hlt'
    obtain ⟨kV', vV', p, qq, f1, f2, r1, r2, _, _, _, d2⟩ := ent_at pr re (i := j) (e := ents[j]) (by rw [Array.getElem?_toList]; exact hge)
    have hg : dget l k = some qq := by rw [dget_kix, hj]; show (l[j]?).map (·.2) = _; rw [f2]; rfl
    rw [hg] at q
    rw [hge]
    exact wpAny_bind (wpAny_rule (wpAny_pure (wpAny_pure ⟨_, rfl, ⟨vV', H, I.tok _, r2, q _ d2⟩⟩)))
def rDp (X : L2.Cx) : V → List V → Hp → VK → Prop := fun x xs H Q => X.A.units + 200 < cLine ∧ ∃ (F : Fz) (a : Addr) (ep : Nat) (es : List (Int × V × V)) (l : KVs) (kV : V) (k p : PyData) (j : Nat), x = .ref a ∧ xs = [kV] ∧ H a = some (DO a ep es) ∧ (a == sysModules) = false ∧ RepEs X.w X.K F H es l ∧ l.Pairwise (fun p q => p.1.eqv q.1 = false) ∧
  RepD X.w X.K F H kV k ∧ keyOk k = true ∧ l.length ≤ sizeLine ∧ kix l k = some j ∧ dget l k = some p ∧ ∀ ep' y, RepD X.w X.K F H y p → Q y (upd H a (DO a ep' (es.eraseIdx j)))
theorem mt_dp : MtR X "dict.pop" (rDp X) := by
  intro pins s σ H x xs v us Q I rx rxs hh
  obtain ⟨hu, F, d, ep, es, l, kV, k, p, j, rfl, rfl, hd, lo, re, pw, rk, hk, hz, hj, hg, q⟩ := hh
  obtain ⟨u, rfl, ru⟩ := vals1 rxs
  cases rx
  have hR : RdD H d es := ⟨ep, .inl hd⟩
  have ty := DO.typeIs I hR
  refine wpAny_call_entry PySem.F.slot_dict_pop ty PySem.F.entry_dict_pop ?_ (PySem.F.args_dict_pop_2 _ _)
  unfold Builtin.«dict.pop»
  refine wpAny_bind ?_
  unfold Builtin.Dict.keyAndDefault
  refine wpAny_bind (wpAny_notOrdered_dict ty ?_)
  show wpAny _ _ (pure (d, u, none)) _ _ s
  refine wpAny_pure ?_
  obtain ⟨⟨o, ents, ep1, ho, hc, hdd, pr⟩, _⟩ := hR.ok I.hok
  obtain ⟨as, rds⟩ := rk.reads I.hok I.kIn ru
  obtain ⟨k1, k2⟩ := keyOk_hk hk
  have e1 := ents_len pr
  have e2 := re.length
  have e3 : ents.toList.length = ents.size := Array.length_toList
  have hj' := hj
  unfold kix at hj'
  rw [List.findIdx?_eq_some_iff_getElem] at hj'
  have hlt' : j < ents.size := by have := hj'.1; omega
  have hge : ents[j]? = some ents[j] := Array.getElem?_eq_getElem hlt'
  obtain ⟨kV', vV', p', qq, f1, f2, r1, r2, _, _, _, d2⟩ := ent_at pr re (i := j) (e := ents[j]) (by rw [Array.getElem?_toList]; exact hge)
  have hg2 : dget l k = some qq := by rw [dget_kix, hj]; show (l[j]?).map (·.2) = _; rw [f2]; rfl
  rw [hg] at hg2
  cases hg2
  have ne : ents.isEmpty = false := by
    rw [Bool.eq_false_iff]
    intro z
    have := Array.isEmpty_iff_size_eq_zero.mp z
    omega
  have fin : ∀ h' tk, Heap.SameBut d s.heap h' → RawD h' d (es.eraseIdx j) → EP X pins σ Q ents[j].val { s with heap := h', toks := tk } := by
    intro h' tk sb rd
    obtain ⟨o', ents', ep', ho', r'⟩ := rd
    exact ⟨vV', _, I.write (t' := tk) (x := d) (e := d) (by rw [hd]; trivial) (.inl rfl) (fun b u nb e => (sb.2 b nb).trans e) ⟨o', ho'⟩ (DO.ok ⟨o', ents', ho', r'⟩), r2, q ep' _ d2⟩
  have main : wpAny (model X.prog X.w) X.A.in1 (Builtin.Dict.takeOut d u) (fun old s' => wpAny (model X.prog X.w) X.A.in1 (do
        if old.isNone then Builtin.Dict.missedRemoval d u
        match old, (none : Option Value) with
        | some e, _ => letGo [e.key] [e.val]; ret e.val
        | none, some x => rule "dict.pop.default"; ret x
        | none, none => rule "dict.pop.keyerror"; raiseNew (← newExc (.type "KeyError") [u])) (fun fin s' => ∃ v, fin = Fin.done (PySem.Flow.ret v) ∧ EP X pins σ Q v s') X.xe s') X.xe s := by
    unfold Builtin.Dict.takeOut
    refine wpAny_holding (wpAny_bind (pyHash_key (nk k) u _ s _ (nested_of k1 rds) (by rw [depth_nk k k1]; show X.A.units + 1 + k.depth < cLine; omega) ?_))
    obtain ⟨S, e⟩ := seek_of (A := X.A.in1) (s := { s with toks := s.toks + (nk k).draws }) I.hok I.kIn pr re pw rk hk ru (by show X.A.units + 1 + 8 < cLine; omega)
    refine wpAny_bind (dfind (s := { s with toks := s.toks + (nk k).draws }) S ho hdd ?_)
    rw [e, hj]
    refine wpAny_bind (wpAny_dictEntries (s := { s with toks := s.toks + (nk k).draws }) ho hdd ?_)
    rw [hge]
    refine wpAny_bind (wpAny_updateDictKeys (f := fun x => x.eraseIdxIfInBounds j) (hz := by omega) (hf := by rw [Array.eraseIdxIfInBounds, dif_pos hlt', Array.size_eraseIdx]; omega) (s := { s with toks := s.toks + (nk k).draws }) ho hdd (wpAny_pure ?_))
    refine wpAny_bind (wpAny_letGo (wpAny_pure ⟨ents[j].val, rfl, fin _ _ (Heap.SameBut.update ..) ⟨_, _, ep1 + 1, Heap.get?_update_self _ ho (Obj.isFreed_of_dict (Obj.data_mapDictKeys hdd _)), hc.mapDictKeys _, Obj.data_mapDictKeys hdd _, ?_⟩⟩))
    have : (ents.eraseIdxIfInBounds j).toList = ents.toList.eraseIdx j := by
      rw [Array.eraseIdxIfInBounds, dif_pos hlt', Array.toList_eraseIdx]
    rw [this]
    exact entR_erase pr j
  cases hp : (keyPart u).isSome with
  | true =>
    simp only [hp, if_true]
    refine wpAny_bind (wpAny_pure ?_)
    simp only [Bool.false_eq_true, if_false]
    exact wpAny_bind main
  | false =>
    simp only [hp, Bool.false_eq_true, if_false]
    refine wpAny_bind (wpAny_dictEntries ho hdd (wpAny_bind (wpAny_pure ?_)))
    simp only [ne, Bool.false_eq_true, if_false]
    exact wpAny_bind main
variable {e : Expr} {es : List Expr} {x : Str} {i : Nat} {px apos cpos : Pos}
theorem z_sd {a b : Expr} {m : M (List PyData)} (hu : X.A.units + 200 < cLine) (h : ZDs X [a, b] m) (hN : X.N[i]? = some x) (hv : Vis X.env.scope x) (hd : (x == ("__debug__" : Str)) = false := by decide) (hcd : (x == ("__classdict__" : Str)) = false := by decide)
    (hbase : attributeBase (.Name x px) "setdefault" X.env (eval (.Name x px) X.env) = eval (.Name x px) X.env := by rfl)
    (hfew : ((backTo cpos (starEach [a, b] X.env)).all (fun x => !x.1) && (backToKw cpos (keywordEach [] X.env)).all (fun x => x.1.isSome) && decide ([a, b].length + ([] : List Keyword).length + (if ([] : List Keyword).isEmpty then 0 else 1) < 30)) = true := by rfl)
    (hline : (apos.endLine == cpos.line) = true := by rfl) (hs : starEach [a, b] X.env = (false, eval a X.env) :: starEach [b] X.env := by rfl) (hplain : (backTo cpos (starEach [b] X.env)).any (·.1) = false := by rfl) :
    ZV X (.Call (.Attribute (.Name x px) "setdefault" apos) [a, b] [] cpos) (vSd i m) :=
  ⟨fun U tk => (pe_bmG PySem.F.plainAttrs_dict PySem.F.slot_dict_setdefault PySem.F.type_dict_setdefault mt_sd (pe_var hN hv hd hcd) (h.run U tk) hbase hfew hline hs hplain).weak fun σ H Q ⟨F, fp, env, r, g⟩ => by
    unfold vSd at g
    split at g
    · rename_i l e0
      obtain ⟨a, ep, es, ev, ha, lo, re, pw, _⟩ := dct_at r e0
      refine ⟨.ref a, ev, tyG_dict ⟨ep, .inl ha⟩, F, fp, env, r, g.bnd fun ps e1 F1 fp1 H1 st1 g1 xs r1 o1 => ?_⟩
      replace o1 : RepDs X.w X.K F1 H1 xs ps := o1
      split at g1
      · rename_i k v l1 e2
        cases o1 with
        | cons dk o1 =>
          cases o1 with
          | cons dv o1 =>
            cases o1
            split at g1
            · rename_i hz
              rw [Bool.and_eq_true] at hz
              obtain ⟨a1, ep1, es1, ev1, ha1, lo1, re1, pw1, wr, kp, hm⟩ := dct_at r1 e2
              rw [ev] at ev1
              cases ev1
              refine ⟨hu, F1, a, ep1, es1, l1, _, _, k, v, rfl, rfl, ha1, lo1, re1, pw1, dk, hz.1, of_decide_eq_true hz.2, ?_⟩
              split at g1
              · rename_i p hp
                exact fun y d => g1.here fp1 y [] rfl r1 (.f d r1.nd)
              · rename_i hp
                intro ep'
                have hk := (RepEs.put re1 pw1 dk hz.1 dv)
                have kx : kix l1 k = none := by
                  cases hj : kix l1 k with
                  | none => rfl
                  | some j =>
                    have := dget_has l1 k
                    rw [dhas_kix, hj, hp] at this
                    cases this
                rw [kx] at hk
                have e3 : dput l1 k v = l1 ++ [(k, v)] := by
                  unfold dput
                  rw [dhas_kix, kx]
                  rfl
                rw [e3] at hk
                obtain ⟨st2, r2⟩ := wr ep' _ _ (hk.1.mono (kp _)) hk.2
                exact g1 F1 fp1 _ st2 fp1 _ [] rfl r2 (.f (dv.mono (kp _)) r2.nd)
            · exact False.elim g1
      · exact False.elim g1
    · exact False.elim g⟩
theorem z_dp {a : Expr} {m : M PyData} (hu : X.A.units + 200 < cLine) (h : ZD X a m) (hN : X.N[i]? = some x) (hv : Vis X.env.scope x) (hd : (x == ("__debug__" : Str)) = false := by decide) (hcd : (x == ("__classdict__" : Str)) = false := by decide)
    (hbase : attributeBase (.Name x px) "pop" X.env (eval (.Name x px) X.env) = eval (.Name x px) X.env := by rfl)
    (hfew : ((backTo cpos (starEach [a] X.env)).all (fun x => !x.1) && (backToKw cpos (keywordEach [] X.env)).all (fun x => x.1.isSome) && decide ([a].length + ([] : List Keyword).length + (if ([] : List Keyword).isEmpty then 0 else 1) < 30)) = true := by rfl)
    (hline : (apos.endLine == cpos.line) = true := by rfl) (hs : starEach [a] X.env = (false, eval a X.env) :: starEach [] X.env := by rfl) (hplain : (backTo cpos (starEach [] X.env)).any (·.1) = false := by rfl) :
    ZV X (.Call (.Attribute (.Name x px) "pop" apos) [a] [] cpos) (vDp i m) :=
  ⟨fun U tk => (pe_bmG PySem.F.plainAttrs_dict PySem.F.slot_dict_pop PySem.F.type_dict_pop mt_dp (pe_var hN hv hd hcd) (pa_cons (h.run U tk) pa_nil hs) hbase hfew hline hs hplain).weak fun σ H Q ⟨F, fp, env, r, g⟩ => by
    unfold vDp at g
    split at g
    · rename_i l e0
      obtain ⟨a, ep, es, ev, ha, lo, re, pw, _⟩ := dct_at r e0
      refine ⟨.ref a, ev, tyG_dict ⟨ep, .inl ha⟩, F, fp, env, r, g.bnd fun k e1 F1 fp1 H1 st1 g1 xk r1 dk => ?_⟩
      have dk : RepD X.w X.K F1 H1 xk k := dk
      split at g1
      · rename_i l1 e2
        split at g1
        · rename_i hz
          rw [Bool.and_eq_true] at hz
          obtain ⟨a1, ep1, es1, ev1, ha1, lo1, re1, pw1, wr, kp, hm⟩ := dct_at r1 e2
          rw [ev] at ev1
          cases ev1
          split at g1
          · rename_i p hp
            obtain ⟨j, hj⟩ : ∃ j, kix l1 k = some j := by
              cases hj : kix l1 k with
              | some j => exact ⟨j, rfl⟩
              | none => rw [dget_kix, hj] at hp; cases hp
            refine ⟨hu, F1, a, ep1, es1, l1, _, k, p, j, rfl, rfl, ha1, lo1, re1, pw1, dk, hz.1, of_decide_eq_true hz.2, hj, hp, fun ep' y d => ?_⟩
            have e3 := ddel_kix pw1 (re1.same hz.1) hj
            obtain ⟨st2, r2⟩ := wr ep' (es1.eraseIdx j) (ddel l1 k) (by rw [e3]; exact (re1.mono (kp _)).eraseIdx j) (by rw [e3]; exact pw1.sublist (List.eraseIdx_sublist ..))
            exact g1 F1 fp1 _ st2 fp1 _ [] rfl r2 (.f (d.mono (kp _)) r2.nd)
          · exact False.elim g1
        · exact False.elim g1
      · exact False.elim g1
    · exact False.elim g⟩
end
/-! ### evaluating -/
def sd3 (i : Nat) (l : KVs) (k v : PyData) (e : Env) : Option PyData → Res W
  | some p => .ok (.f p) e
  | none => .ok (.f v) (e.set i (some (.dct (l ++ [(k, v)]))))
def sd2 (i : Nat) (k v : PyData) (e : Env) : Option (Option W) → Res W
  | some (some (.dct l)) => if (keyOk k && decide (l.length < sizeLine)) = true then sd3 i l k v e (dget l k) else .bad
  | _ => .bad
def k1_vSd (i : Nat) (ps : List PyData) (e : Env) : Res W := match ps with
  | [k, v] => sd2 i k v e e[i]?
  | _ => .bad
def sd1 (i : Nat) (m : M (List PyData)) (e : Env) : Option (Option W) → Res W
  | some (some (.dct _)) => (m e).bind (k1_vSd i)
  | _ => .bad
theorem ev_vSd (i : Nat) (m : M (List PyData)) (e : Env) : vSd i m e = sd1 i m e e[i]? := by
  unfold vSd sd1
  have : (fun (ps : List PyData) (e : Env) => match ps, e[i]? with
    | [k, v], some (some (.dct l)) => if (keyOk k && decide (l.length < sizeLine)) = true then (match dget l k with
      | some p => .ok (.f p) e
      | none => .ok (.f v) (e.set i (some (.dct (l ++ [(k, v)]))))) else .bad
    | _, _ => .bad) = k1_vSd i := by
    funext ps e
    match ps with
    | [] => rfl
    | [_] => rfl
    | _ :: _ :: _ :: _ => rfl
    | [k, v] =>
      show _ = sd2 i k v e e[i]?
      cases e[i]? with
      | none => rfl
      | some w =>
        cases w with
        | none => rfl
        | some w => cases w <;> rfl
  rw [this]
theorem sd1_d (i : Nat) (m : M (List PyData)) (e : Env) (l : KVs) : sd1 i m e (some (some (.dct l))) = (m e).bind (k1_vSd i) := (rfl)
theorem k1_sd (i : Nat) (k v : PyData) (e : Env) : k1_vSd i [k, v] e = sd2 i k v e e[i]? := (rfl)
theorem sd2_d (i : Nat) (k v : PyData) (e : Env) (l : KVs) : sd2 i k v e (some (some (.dct l))) = if (keyOk k && decide (l.length < sizeLine)) = true then sd3 i l k v e (dget l k) else .bad := (rfl)
theorem sd3_s (i : Nat) (l : KVs) (k v p : PyData) (e : Env) : sd3 i l k v e (some p) = .ok (.f p) e := (rfl)
theorem sd3_n (i : Nat) (l : KVs) (k v : PyData) (e : Env) : sd3 i l k v e none = .ok (.f v) (e.set i (some (.dct (l ++ [(k, v)])))) := (rfl)
def dp3 (i : Nat) (l : KVs) (k : PyData) (e : Env) : Option PyData → Res W
  | some p => .ok (.f p) (e.set i (some (.dct (ddel l k))))
  | none => .bad
def dp2 (i : Nat) (k : PyData) (e : Env) : Option (Option W) → Res W
  | some (some (.dct l)) => if (keyOk k && decide (l.length ≤ sizeLine)) = true then dp3 i l k e (dget l k) else .bad
  | _ => .bad
def k1_vDp (i : Nat) (k : PyData) (e : Env) : Res W := dp2 i k e e[i]?
def dp1 (i : Nat) (m : M PyData) (e : Env) : Option (Option W) → Res W
  | some (some (.dct _)) => (m e).bind (k1_vDp i)
  | _ => .bad
theorem ev_vDp (i : Nat) (m : M PyData) (e : Env) : vDp i m e = dp1 i m e e[i]? := by
  unfold vDp dp1
  have : (fun (k : PyData) (e : Env) => match e[i]? with
    | some (some (.dct l)) => if (keyOk k && decide (l.length ≤ sizeLine)) = true then (match dget l k with
      | some p => Res.ok (W.f p) (e.set i (some (.dct (ddel l k))))
      | none => .bad) else .bad
    | _ => .bad) = k1_vDp i := by
    funext k e
    unfold k1_vDp dp2
    split
    · unfold dp3
      split <;> rfl
    · rfl
  rw [this]
theorem dp1_d (i : Nat) (m : M PyData) (e : Env) (l : KVs) : dp1 i m e (some (some (.dct l))) = (m e).bind (k1_vDp i) := (rfl)
theorem dp2_d (i : Nat) (k : PyData) (e : Env) (l : KVs) : dp2 i k e (some (some (.dct l))) = if (keyOk k && decide (l.length ≤ sizeLine)) = true then dp3 i l k e (dget l k) else .bad := (rfl)
theorem dp3_s (i : Nat) (l : KVs) (k p : PyData) (e : Env) : dp3 i l k e (some p) = .ok (.f p) (e.set i (some (.dct (ddel l k)))) := (rfl)
end Z

/-! Zg4: list(range(n)), list(d.items()). -/
namespace Z
open PySem PySem.Spec PyProof.Rows L2
def lrv (e : Env) : Option PyData → Res W
  | some (.int j) => if decide (0 ≤ j) && decide (j ≤ 1000000) then .ok (.lst (rangeD 0 j.toNat)) e else .bad
  | _ => .bad
theorem lrv_i (e : Env) (j : Int) : lrv e (some (.int j)) = if (decide (0 ≤ j) && decide (j ≤ 1000000)) = true then .ok (.lst (rangeD 0 j.toNat)) e else .bad := (rfl)
/-- list(range(n)) -/
def vLr (m : M Op) : M W := fun env => (m env).bind fun x e => lrv e (look e x)
section
variable {X : L2.Cx} {e : Expr} {p p2 pos pos2 apos cpos : Pos}
theorem rgV_eq (n : Nat) : ∀ lo : Int, (List.range n).map (fun i : Nat => V.int (lo + i)) = (List.range' 0 n).map (fun i : Nat => V.int (lo + i)) := fun lo => by rw [List.range_eq_range']
theorem reps_rng {w : World} {K : PySem.W.Frag} {F : Fz} {H : Hp} : ∀ (n s : Nat) (lo : Int), RepDs w K F H ((List.range' s n).map fun i : Nat => V.int (lo + i)) (rangeD (lo + s) n)
  | 0, s, lo => .nil
  | n + 1, s, lo => by
    rw [List.range'_succ]
    refine .cons (.int _) ?_
    have := reps_rng (w := w) (K := K) (F := F) (H := H) n (s + 1) lo
    rw [show lo + ((s + 1 : Nat) : Int) = lo + (s : Int) + 1 by omega] at this
    exact this
theorem z_lr {m : M Op} (hc : X.calm = true) (hg : Gl X "list") (hm : X.mg "list" = none) (hg2 : Gl X "range") (hm2 : X.mg "range" = none) (h : ZO X e m) (n1 : starEach [e] X.env = (false, eval e X.env) :: starEach [] X.env := by rfl)
    (n2 : starEach [.Call (.Name "range" p2) [e] [] pos2] X.env = (false, eval (.Call (.Name "range" p2) [e] [] pos2) X.env) :: starEach [] X.env := by rfl) : ZV X (.Call (.Name "list" p) [.Call (.Name "range" p2) [e] [] pos2] [] pos) (vLr m) :=
  ⟨fun U tk => (pe_listRg hc hg hm (prg_1 hg2 hm2 (h.run U tk) n1) n2).weak fun σ H Q ⟨F, fp, env, r, g⟩ => ⟨F, fp, env, r, g.bnd fun xo e1 F1 fp1 H1 st1 g1 x r1 o1 => by
    cases hl : look e1 xo with
    | none => rw [hl] at g1; exact False.elim g1
    | some d =>
      rw [hl] at g1
      cases d with
      | int j =>
        have dx := OpR.look o1 r1 hl
        obtain rfl := dx.int
        rw [lrv_i] at g1
        split at g1
        · rename_i hz
          rw [Bool.and_eq_true, decide_eq_true_eq, decide_eq_true_eq] at hz
          refine ⟨j, rfl, RgOk.of_le (by omega) (by omega) (by omega) (by omega), fun q nq => ?_⟩
          refine g1.ans.lst r1 (xs := rgV 0 j) ?_ q nq
          unfold rgV
          rw [Int.sub_zero, List.range_eq_range']
          have := reps_rng (w := X.w) (K := X.K) (F := F1) (H := H1) j.toNat 0 0
          simpa using this
        · exact False.elim g1
      | _ => exact False.elim g1⟩⟩
end
def k1_vLr (x : Op) (e : Env) : Res W := lrv e (look e x)
theorem ev_vLr (m : M Op) (e : Env) : vLr m e = (m e).bind k1_vLr := (rfl)
/-! ### list(d.items()) -/
/-- some tuples of two tracked -/
def putTs : Hp → List Addr → List (Int × V × V) → Hp
  | H, a :: as, p :: es => putTs (upd H a (.tup [p.2.1, p.2.2])) as es
  | H, _, _ => H
theorem putTs_off {b : Addr} : ∀ (as : List Addr) (es : List (Int × V × V)) (H : Hp), b ∉ as → putTs H as es b = H b
  | [], _, _, _ => rfl
  | _ :: _, [], _, _ => rfl
  | a :: as, p :: es, H, h => (putTs_off as es _ fun z => h (by simp [z])).trans (upd_ne fun z => h (by simp [z]))
theorem putTs_at : ∀ (as : List Addr) (es : List (Int × V × V)) (H : Hp), as.length = es.length → as.Nodup → ∀ (j : Nat) a, as[j]? = some a → ∃ p, es[j]? = some p ∧ putTs H as es a = some (.tup [p.2.1, p.2.2])
  | [], es, H, _, _, j, a, h => by simp at h
  | x :: as, [], H, h, _, _, _, _ => by simp at h
  | x :: as, p :: es, H, h, nd, j, a, ha => by
    obtain ⟨n1, n2⟩ := List.nodup_cons.mp nd
    cases j with
    | zero =>
      cases ha
      exact ⟨p, rfl, (putTs_off as es _ n1).trans upd_same⟩
    | succ j => exact putTs_at as es _ (by simpa using h) n2 j a (by simpa using ha)
def vItL (m : M Op) : M W := fun env => (m env).bind fun x e => match look e x with
  | some (.dict l) => if l.length ≤ 1000000 then .ok (.lst (l.map fun p => .tuple [p.1, p.2])) e else .bad
  | _ => .bad
section
variable {X : L2.Cx} {e : Expr} {p apos cpos pos : Pos}
theorem many_new {w : World} {K : PySem.W.Frag} {F : Fz} {H H' : Hp} {σ : L2.St} {env : Env} {fp : List Addr} (r : R w K F H σ env fp) {as : List Addr} {S : Addr} (new : ∀ t ∈ as, H t = none) (nS : H S = none) (hS : S ∉ as) (kp : ∀ b u, H b = some u → H' b = some u) (at' : ∀ t ∈ as, H' t ≠ none) :
    Step F fp H (fun b => F b ∨ b ∈ as) (S :: fp) H' ∧ R w K (fun b => F b ∨ b ∈ as) H' σ env fp ∧ Kp F H (fun b => F b ∨ b ∈ as) H' ∧ (S :: fp).Nodup ∧ ¬ (F S ∨ S ∈ as) := by
  have rd : ∀ b u, Rd H b u → Rd H' b u := fun b u h => by
    unfold Rd at h ⊢
    rcases h with h | ⟨o, h⟩
    · exact .inl (kp b _ h)
    · exact .inr ⟨o, kp b _ h⟩
  have k : Kp F H (fun b => F b ∨ b ∈ as) H' := ⟨fun _ h => .inl h, fun b u _ h => rd b u h⟩
  have dm : ∀ b, H b ≠ none → H' b ≠ none := fun b h => by
    cases e : H b with
    | none => exact absurd e h
    | some u => rw [kp b u e]; simp
  have nfp : S ∉ fp := fun h => r.rep.trk S h nS
  refine ⟨⟨fun _ h => .inl h, fun b h => ?_, fun b h => ?_, fun b u h _ => rd b u h, fun b u h _ => kp b u h, dm⟩, ⟨fun b h => ?_, r.rep.mono k fun b _ u h => kp b u h, r.nd, fun b hb h => ?_⟩, k, List.nodup_cons.mpr ⟨nfp, r.nd⟩, fun h => ?_⟩
  · rcases h with h | h
    · exact .inl h
    · exact .inr (.inr (new b h))
  · rcases List.mem_cons.mp h with rfl | h
    · exact .inr nS
    · exact .inl h
  · rcases h with h | h
    · exact dm b (r.good b h)
    · exact at' b h
  · rcases h with h | h
    · exact r.dj b hb h
    · exact r.rep.trk b hb (new b h)
  · rcases h with h | h
    · exact r.good S h nS
    · exact hS h
theorem items_rep {w : World} {K : PySem.W.Frag} {F : Fz} {H : Hp} : ∀ {as : List Addr} {es : List (Int × V × V)} {l : KVs}, RepEs w K F H es l → as.length = es.length → (∀ (j : Nat) a, as[j]? = some a → F a ∧ ∃ p, es[j]? = some p ∧ H a = some (.tup [p.2.1, p.2.2])) → RepDs w K F H (as.map V.ref) (l.map fun p => .tuple [p.1, p.2])
  | [], [], l, re, _, _ => by cases re; exact .nil
  | [], _ :: _, l, re, h, _ => by simp at h
  | _ :: _, [], l, re, h, _ => by simp at h
  | a :: as, p :: es, l, re, h, k => by
    cases re with
    | cons e1 e2 e3 e4 e5 =>
      obtain ⟨fa, q, hq, ha⟩ := k 0 a rfl
      cases hq
      exact .cons (.tuple (.inl ⟨fa, .inl ha⟩) (.cons e3 (.cons e4 .nil))) (items_rep e5 (by simpa using h) fun j b hb => k (j + 1) b (by simpa using hb))
/-- the list and its tuples stand -/
theorem items_stand {pins : List (Addr × Obj)} {σ : L2.St} {H : Hp} {s : Shared} {h' : Heap} {tk : Tok} {es : List (Int × V × V)} {ents : Array DictEntry} {acc : Array Value} {c : Nat} {as : List Addr} (I : L2.Inv X pins σ H s) (hz : es.length ≤ sizeLine) (pr : Paired EntR es ents.toList)
    (hk : ∀ b o, s.heap.get? b = some o → h'.get? b = some o) (hS : h'.get? s.heap.objs.size = some { cls := .type "list", dict := none, data := .seq acc c, slots := #[] }) (hl : as.length = es.length) (G : PySem.W.DilG ents s.heap.objs.size h' as) (hacc : acc.toList = as.map Value.ref) :
    ∃ H' : Hp, (∀ b u, H b = some u → H' b = some u) ∧ H s.heap.objs.size = none ∧ (∀ t ∈ as, H t = none) ∧ s.heap.objs.size ∉ as ∧ H' s.heap.objs.size = some (.lst (as.map V.ref)) ∧ (∀ (j : Nat) a, as[j]? = some a → ∃ p, es[j]? = some p ∧ H' a = some (.tup [p.2.1, p.2.2])) ∧ L2.Inv X pins σ H' { s with heap := h', toks := tk } := by
  have nS : s.heap.objs.size ∉ as := fun z => Nat.lt_irrefl _ (G.above _ z)
  have nd : as.Nodup := G.rise.imp fun h => Nat.ne_of_lt h
  have new : ∀ t ∈ as, H t = none := fun t ht => I.hok.fresh (Nat.le_of_lt (G.above t ht))
  have newS : H s.heap.objs.size = none := I.hok.fresh (Nat.le_refl _)
  have at1 := putTs_at as es (upd H s.heap.objs.size (.lst (as.map V.ref))) hl nd
  have off : ∀ b, b ∉ as → b ≠ s.heap.objs.size → putTs (upd H s.heap.objs.size (.lst (as.map V.ref))) as es b = H b := fun b h1 h2 => (putTs_off as es _ h1).trans (upd_ne h2)
  have kp : ∀ b u, H b = some u → putTs (upd H s.heap.objs.size (.lst (as.map V.ref))) as es b = some u := fun b u e => (off b (fun z => by rw [new b z] at e; cases e) fun z => by rw [z, newS] at e; cases e).trans e
  have eS := (putTs_off as es (upd H s.heap.objs.size (.lst (as.map V.ref))) nS).trans upd_same
  have low : ∀ b o, s.heap.get? b = some o → b ∉ as ∧ b ≠ s.heap.objs.size := fun b o e => ⟨fun z => absurd (Heap.lt_size e) (Nat.not_lt.mpr (Nat.le_of_lt (G.above b z))), Nat.ne_of_lt (Heap.lt_size e)⟩
  have e3 : ents.toList.length = ents.size := Array.length_toList
  have e4 := ents_len pr
  refine ⟨putTs (upd H s.heap.objs.size (.lst (as.map V.ref))) as es, kp, newS, new, nS, eS, at1, I.call' (ch := []) rfl { keep := fun b o q _ _ _ => hk b o q, slot := fun b o q _ _ _ => ⟨o.slots, hk b o q⟩, free := fun b o q n _ => (off b (low b o q).1 (low b o q).2).trans n, there := fun b o q _ => ⟨o, hk b o q⟩, tups := fun b xs q => kp b _ q, frzs := fun b o u q => kp b _ q, tbls := fun b ps q => ⟨#[], (kp b _ q).trans (by simp)⟩ } (fun b u q => ?_) I.bare fun b z => by simp at z⟩
  by_cases hb : b ∈ as
  · obtain ⟨j, hj⟩ := List.mem_iff_getElem?.mp hb
    obtain ⟨p, hp, ep⟩ := at1 j b hj
    rw [ep] at q
    cases q
    obtain ⟨hlt, hg⟩ := G.pairs j b hj
    obtain ⟨d, hd, _, d2, d3⟩ := pr_get pr hp
    have ed : d = ents[j] := by
      rw [Array.getElem?_toList, Array.getElem?_eq_getElem hlt] at hd
      exact (Option.some.inj hd).symm
    subst ed
    exact ⟨by show 2 ≤ sizeLine; decide, [ents[j].key, ents[j].val], .cons d2 (.cons d3 .nil), ⟨_, hg, rfl, _, rfl⟩⟩
  · by_cases hb2 : b = s.heap.objs.size
    · subst hb2
      rw [eS] at q
      cases q
      refine ⟨by rw [List.length_map]; omega, acc.toList, c, ?_, by rw [Array.toArray_toList]; exact hS⟩
      rw [hacc]
      exact LiI.vals_refs as
    · rw [off b hb hb2] at q
      exact (I.hok b u q).stay (fun d v _ y => hk d v y) (fun d y => kp d _ y) fun d xs y => kp d _ y
theorem z_itl {m : M Op} (hc : X.calm = true) (h : ZO X e m) (hg : Gl X "list") (hm : X.mg "list" = none) (hbase : attributeBase e "items" X.env (eval e X.env) = eval e X.env := by rfl) (hline : (apos.endLine == cpos.line) = true := by rfl)
    (hs : starEach [.Call (.Attribute e "items" apos) [] [] cpos] X.env = (false, eval (.Call (.Attribute e "items" apos) [] [] cpos) X.env) :: starEach [] X.env := by rfl) :
    ZV X (.Call (.Name "list" p) [.Call (.Attribute e "items" apos) [] [] cpos] [] pos) (vItL m) := by
  refine ⟨fun U tk => ⟨fun pins s σ H Q I ⟨F0, fp, env, r, g⟩ => ?_⟩⟩
  refine Call_ (ld_blt I hg hm boot_list (PyProof.Rows.callWith_type1 (args_cons (thn ((pe_bm0G PySem.F.plainAttrs_dict PySem.F.slot_dict_items PySem.F.type_dict_items mt_itemsD (h.run U tk) hbase hline).run pins s σ H (fun x H2 => ∃ F1 fp1 e1 l d p ep es, x = V.ref p ∧ H2 p = some (L2.DX.itemsO p d) ∧ R X.w X.K F1 H2 σ e1 fp1 ∧ Rd H2 d (DO d ep es) ∧ RepEs X.w X.K F1 H2 es l ∧ l.length ≤ 1000000 ∧
      ∀ F' fp' H' v q, Step F1 fp1 H2 F' (q ++ fp') H' → R X.w X.K F' H' σ e1 fp' → Ow X.w X.K F' H' v (.lst (l.map fun p => .tuple [p.1, p.2])) q fp' → Q v H') I ?_) fun u s1 hx => args_nil ?_) hs) hs))
  · refine ⟨F0, fp, env, r, g.bnd fun xo e1 F1 fp1 H1 st1 g1 x r1 o1 => ?_⟩
    split at g1
    · rename_i l hl
      split at g1
      · rename_i hz
        obtain ⟨d, es, rfl, hd, lo, re, pw⟩ := (OpR.look o1 r1 hl).dict
        refine ⟨tyG_dict hd, d, es, rfl, rfl, lo, hd, fun p np => ?_⟩
        obtain ⟨st2, r2, k2, nd2, _⟩ := r1.newO (o := L2.DX.itemsO p d) np
        obtain ⟨ep, hd2⟩ := hd
        exact ⟨F1, fp1, e1, l, d, p, ep, es, rfl, upd_same, r2, rd_upd np hd2, re.mono k2, hz, fun F' fp' H' v q st r' ow => g1 F' (q ++ fp') H' ((st2.sub fun a ha => List.mem_append_right _ ha).trans st) fp' v q rfl r' ow⟩
      · exact False.elim g1
    · exact False.elim g1
  · obtain ⟨x, H2, I2, rx, F1, fp1, e1, l, d, p, ep, es, rfl, hp, r2, hd, re, hz, g2⟩ := hx
    obtain rfl : u = Value.ref p := rx
    obtain ⟨hv, _⟩ := I2.hok p _ hp
    obtain ⟨ents, ⟨o, ho, hx, hdd⟩, pr⟩ := dRaw I2.hok hd
    have e3 : ents.toList.length = ents.size := Array.length_toList
    have e4 := ents_len pr
    have e5 := re.length
    have zl : (1000000 : Nat) ≤ sizeLine := by rw [sizeLine_eq]; decide
    refine PySem.W.dil_call (I2.ok.hd hc) hv ⟨o, ho, hx, hdd⟩ (by omega) fun h' tk acc c as hk hS hl G hacc => ?_
    obtain ⟨H', k1, k2, k3, k4, k5, k6, J⟩ := items_stand (tk := tk) I2 (by omega) pr hk hS (by omega) G hacc
    obtain ⟨st3, r3, k7, nd3, nS3⟩ := many_new r2 k3 k2 k4 k1 fun t ht => by
      obtain ⟨j, hj⟩ := List.mem_iff_getElem?.mp ht
      obtain ⟨q, _, hq⟩ := k6 j t hj
      rw [hq]
      simp
    refine ⟨.ref s1.heap.objs.size, H', J, rfl, g2 _ fp1 H' _ [s1.heap.objs.size] st3 r3 ⟨.lst k5 (items_rep (re.mono k7) (by omega) fun j a hj => ?_), nd3, fun a ha => ?_⟩⟩
    · obtain ⟨q, h1, h2⟩ := k6 j a hj
      exact ⟨.inr (List.mem_of_getElem? hj), q, h1, h2⟩
    · rw [List.mem_singleton.mp ha]
      exact nS3
end
def itv (e : Env) : Option PyData → Res W
  | some (.dict l) => if l.length ≤ 1000000 then .ok (.lst (l.map fun p => .tuple [p.1, p.2])) e else .bad
  | _ => .bad
def k1_vItL (x : Op) (e : Env) : Res W := itv e (look e x)
theorem ev_vItL (m : M Op) (e : Env) : vItL m e = (m e).bind k1_vItL := by
  unfold vItL
  congr 1
theorem itv_d (e : Env) (l : KVs) : itv e (some (.dict l)) = if l.length ≤ 1000000 then .ok (.lst (l.map fun p => .tuple [p.1, p.2])) e else .bad := (rfl)
end Z

namespace Y
open PySem PySem.Spec PyProof.Rows L2 Z
noncomputable def b_is_whole : M Z.Flow := (sSeq (sRet (vB (bAnd (vIsi "int" (oVar 0)) (bNot (vIsi "bool" (oVar 0)))))) sNil)
noncomputable def f_is_whole : Fu := mkFu [false] 1 b_is_whole
theorem io_is_whole : f_is_whole.io = [false] := rfl
noncomputable def b_common_1 : M Z.Flow := (sSeq (sPar 0 1 (dsCons (dOf (vFrz 1)) (dsCons (dOf (vBin .Mod (oVar 0) (oVar 1))) dsNil))) sNil)
noncomputable def b_common : M Z.Flow := (sSeq (sWhl (bCmp .NotEq (oVar 1) (oCon (.int 0))) b_common_1) (sSeq (sRet (vMove 0)) sNil))
noncomputable def f_common : Fu := mkFu [false, false] 2 b_common
theorem io_common : f_common.io = [false, false] := rfl
noncomputable def b_is_fraction : M Z.Flow := (sSeq (sIf (bOr (bNot (vIsi "tuple" (oVar 0))) (bOr (bCmp .NotEq (oOf (vBi bLen (osCons (oVar 0) osNil))) (oCon (.int 2))) (bNot (bTru (oOf (vBi bAll (osCons (oOf (vLc [3] (gSet 3) (iOf (dOf (vFrz 0))) bYes (dOf (mCall f_is_whole (osCons (oVar 3) osNil))))) osNil))))))) (sSeq (sRet (vCon (.bool false))) sNil) sNil) (sSeq (sBnd (gTupB [(gSet 1), (gSet 2)]) (dOf (vFrz 0))) (sSeq (sRet (vB (bAnd (bChn .LtE .LtE (oCon (.int 0)) (oVar 1) (oVar 2)) (bAnd (bCmp .Gt (oVar 2) (oCon (.int 0))) (bCmp .Eq (oOf (mCall f_common (osCons (oVar 2) (osCons (oVar 1) osNil)))) (oCon (.int 1))))))) sNil)))
noncomputable def f_is_fraction : Fu := mkFu [false] 4 b_is_fraction
theorem io_is_fraction : f_is_fraction.io = [false] := rfl
noncomputable def b_law_reduced_1 : M Z.Flow := (sSeq (sPar 2 3 (dsCons (dOf (vFrz 3)) (dsCons (dOf (vBin .Mod (oVar 2) (oVar 3))) dsNil))) sNil)
noncomputable def b_law_reduced : M Z.Flow := (sSeq (sPar 2 3 (dsCons (dOf (vFrz 1)) (dsCons (dOf (vFrz 0)) dsNil))) (sSeq (sWhl (bCmp .NotEq (oVar 3) (oCon (.int 0))) b_law_reduced_1) (sSeq (sRet (vTup (dsCons (dOf (vBin .FloorDiv (oVar 0) (oVar 2))) (dsCons (dOf (vBin .FloorDiv (oVar 1) (oVar 2))) dsNil)))) sNil)))
noncomputable def f_law_reduced : Fu := mkFu [false, false] 4 b_law_reduced
theorem io_law_reduced : f_law_reduced.io = [false, false] := rfl
noncomputable def b_law_fraction_1 : M Z.Flow := (sSeq (sSet 4 (vBin .FloorDiv (oVar 4) (oVar 1))) sNil)
noncomputable def b_law_fraction : M Z.Flow := (sSeq (sSet 3 (mCall f_pen_take (osCons (oVar 0) (osCons (oCon (.int 3)) osNil)))) (sSeq (sSet 4 (vBin .Add (oCon (.int 1)) (oOf (mCall f_pen_take (osCons (oVar 0) (osCons (oVar 2) osNil)))))) (sSeq (sIf (bCmp .Gt (oVar 3) (oCon (.int 0))) (sSeq (sSet 4 (vIdx (oOf (vLst (dsCons (dCon (.int 1)) (dsCons (dOf (vFrz 1)) (dsCons (dOf (vBin .Mult (oVar 1) (oVar 1))) (dsCons (dOf (vBin .Mult (oOf (vBin .Mult (oVar 1) (oVar 1))) (oVar 1))) dsNil)))))) (oOf (mCall f_pen_take (osCons (oVar 0) (osCons (oCon (.int 4)) osNil)))))) (sSeq (sWhl (bCmp .Gt (oVar 4) (oVar 2)) b_law_fraction_1) (sSeq (sSet 4 (vBi bMax2 (osCons (oCon (.int 1)) (osCons (oOf (vBin .Sub (oVar 4) (oOf (vBi bInt (osCons (oOf (vB (bCmp .Eq (oVar 3) (oCon (.int 2))))) osNil))))) osNil)))) sNil))) sNil) (sSeq (sRet (mCall f_law_reduced (osCons (oOf (mCall f_pen_take (osCons (oVar 0) (osCons (oOf (vBin .Add (oVar 4) (oCon (.int 1)))) osNil)))) (osCons (oVar 4) osNil)))) sNil))))
noncomputable def f_law_fraction : Fu := mkFu [true, false, false] 5 b_law_fraction
theorem io_law_fraction : f_law_fraction.io = [true, false, false] := rfl
noncomputable def b_lowest : M Z.Flow := (sSeq (sSet 2 (mCall f_common (osCons (oVar 1) (osCons (oVar 0) osNil)))) (sSeq (sRet (vTup (dsCons (dOf (vBin .FloorDiv (oVar 0) (oVar 2))) (dsCons (dOf (vBin .FloorDiv (oVar 1) (oVar 2))) dsNil)))) sNil))
noncomputable def f_lowest : Fu := mkFu [false, false] 3 b_lowest
theorem io_lowest : f_lowest.io = [false, false] := rfl
noncomputable def b_power_1 : M Z.Flow := (sSeq (sSet 2 (vBin .Mult (oVar 2) (oVar 0))) sNil)
noncomputable def b_power : M Z.Flow := (sSeq (sSet 2 (vCon (.int 1))) (sSeq (sFor (gSet 3) (iR1 (dsCons (dOf (vFrz 1)) dsNil)) b_power_1) (sSeq (sRet (vMove 2)) sNil)))
noncomputable def f_power : Fu := mkFu [false, false] 4 b_power
theorem io_power : f_power.io = [false, false] := rfl
noncomputable def b_number_by_1 : M Z.Flow := (sSeq (sSet 2 (vBin .Add (oOf (vBin .Mult (oVar 2) (oVar 0))) (oVar 3))) sNil)
noncomputable def b_number_by : M Z.Flow := (sSeq (sSet 2 (vCon (.int 0))) (sSeq (sFor (gSet 3) (iOf (dOf (vFrz 1))) b_number_by_1) (sSeq (sRet (vMove 2)) sNil)))
noncomputable def f_number_by : Fu := mkFu [false, false] 4 b_number_by
theorem io_number_by : f_number_by.io = [false, false] := rfl
noncomputable def b_fraction_of : M Z.Flow := (sSeq (sSet 3 (vBin .Sub (oOf (mCall f_power (osCons (oVar 0) (osCons (oOf (vBi bLen (osCons (oVar 2) osNil))) osNil)))) (oCon (.int 1)))) (sSeq (sRet (mCall f_lowest (osCons (oOf (vBin .Add (oOf (vBin .Mult (oOf (mCall f_number_by (osCons (oVar 0) (osCons (oVar 1) osNil)))) (oVar 3))) (oOf (mCall f_number_by (osCons (oVar 0) (osCons (oVar 2) osNil)))))) (osCons (oOf (vBin .Mult (oOf (mCall f_power (osCons (oVar 0) (osCons (oOf (vBi bLen (osCons (oVar 1) osNil))) osNil)))) (oVar 3))) osNil)))) sNil))
noncomputable def f_fraction_of : Fu := mkFu [false, false, false] 4 b_fraction_of
theorem io_fraction_of : f_fraction_of.io = [false, false, false] := rfl
noncomputable def b_divided_1 : M Z.Flow := (sSeq (sPut 2 (oVar 5) (dOf (vBi bLen (osCons (oVar 3) osNil)))) (sSeq (sEx (vApp 3 (dOf (vBin .FloorDiv (oOf (vBin .Mult (oVar 5) (oVar 0))) (oVar 6))))) (sSeq (sSet 5 (vBin .Mod (oOf (vBin .Mult (oVar 5) (oVar 0))) (oVar 6))) sNil)))
noncomputable def b_divided : M Z.Flow := (sSeq (sBnd (gTupB [(gSet 5), (gSet 6)]) (dOf (vFrz 1))) (sSeq (sIf (bCmp .Eq (oVar 5) (oVar 6)) (sSeq (sRet (vTup (dsCons (dOf (vTup dsNil)) (dsCons (dOf (vTup (dsCons (dOf (vBin .Sub (oVar 0) (oCon (.int 1)))) dsNil))) dsNil)))) sNil) sNil) (sSeq (sSet 2 vDct0) (sSeq (sSet 3 (vLst dsNil)) (sSeq (sWhl (bCmp .NotIn (oVar 5) (oVar 2)) b_divided_1) (sSeq (sSet 4 (vIdx (oVar 2) (oVar 5))) (sSeq (sRet (vTup (dsCons (dOf (vBi bTup (osCons (oOf (vSlc (oVar 3) pNo (pI (oVar 4)))) osNil))) (dsCons (dOf (vBi bTup (osCons (oOf (vSlc (oVar 3) (pI (oVar 4)) pNo)) osNil))) dsNil)))) sNil)))))))
noncomputable def f_divided : Fu := mkFu [false, false] 7 b_divided
theorem io_divided : f_divided.io = [false, false] := rfl
noncomputable def b_writings_of : M Z.Flow := (sSeq (sBnd (gTupB [(gSet 2), (gSet 3)]) (dOf (mCall f_divided (osCons (oVar 0) (osCons (oVar 1) osNil))))) (sSeq (sIf (bOr (bCmp .NotEq (oVar 3) (oOf (vTup (dsCons (dCon (.int 0)) dsNil)))) (bCmp .Eq (oVar 2) (oOf (vTup dsNil)))) (sSeq (sRet (vLst (dsCons (dOf (vTup (dsCons (dOf (vFrz 2)) (dsCons (dOf (vFrz 3)) dsNil)))) dsNil))) sNil) sNil) (sSeq (sRet (vLst (dsCons (dOf (vTup (dsCons (dOf (vFrz 2)) (dsCons (dOf (vFrz 3)) dsNil)))) (dsCons (dOf (vTup (dsCons (dOf (vBin .Add (oOf (vSlc (oVar 2) pNo (pI (oOf (vNeg (oCon (.int 1))))))) (oOf (vTup (dsCons (dOf (vBin .Sub (oOf (vIdx (oVar 2) (oOf (vNeg (oCon (.int 1)))))) (oCon (.int 1)))) dsNil))))) (dsCons (dOf (vTup (dsCons (dOf (vBin .Sub (oVar 0) (oCon (.int 1)))) dsNil))) dsNil)))) dsNil)))) sNil)))
noncomputable def f_writings_of : Fu := mkFu [false, false] 4 b_writings_of
theorem io_writings_of : f_writings_of.io = [false, false] := rfl
noncomputable def b_law_same (fu : Fu) : M Z.Flow := (sSeq (sIf (bOr (bCmp .Is (oVar 1) (oCon .none)) (bCmp .Is (oVar 0) (oCon .none))) (sSeq (sRet (vB (bAnd (bCmp .Is (oVar 1) (oCon .none)) (bCmp .Is (oVar 0) (oCon .none))))) sNil) sNil) (sSeq (sIf (bOr (vIsi "bool" (oVar 1)) (vIsi "bool" (oVar 0))) (sSeq (sRet (vB (bAnd (vIsi "bool" (oVar 1)) (bAnd (vIsi "bool" (oVar 0)) (bCmp .Eq (oVar 0) (oVar 1)))))) sNil) sNil) (sSeq (sIf (vIsiT ["int", "str"] (oVar 1)) (sSeq (sIf (bCmp .NotEq (oOf (vB (vIsi "int" (oVar 0)))) (oOf (vB (vIsi "int" (oVar 1))))) (sSeq (sRet (vCon (.bool false))) sNil) sNil) (sSeq (sRet (vB (bAnd (vIsiT ["int", "str"] (oVar 0)) (bCmp .Eq (oVar 0) (oVar 1))))) sNil)) sNil) (sSeq (sIf (bOr (bCmp .NotEq (oOf (vB (vIsi "tuple" (oVar 1)))) (oOf (vB (vIsi "tuple" (oVar 0))))) (bCmp .NotEq (oOf (vB (vIsi "list" (oVar 1)))) (oOf (vB (vIsi "list" (oVar 0)))))) (sSeq (sRet (vCon (.bool false))) sNil) sNil) (sSeq (sIf (bCmp .NotEq (oOf (vBi bLen (osCons (oVar 0) osNil))) (oOf (vBi bLen (osCons (oVar 1) osNil)))) (sSeq (sRet (vCon (.bool false))) sNil) sNil) (sSeq (sRet (vB (bCmp .NotIn (oCon (.bool false)) (oOf (vLc [2, 3] (gTupB [(gSet 2), (gSet 3)]) (iZp (dsCons (dOf (vFrz 0)) (dsCons (dOf (vFrz 1)) dsNil))) bYes (dOf (mCall fu (osCons (oVar 2) (osCons (oVar 3) osNil))))))))) sNil))))))
noncomputable def f_law_same : Nat → Fu := recFu [false, false] 4 b_law_same
theorem io_law_same (n : Nat) : (f_law_same n).io = [false, false] := rec_io ..
noncomputable def b_law_divided_1 : M Z.Flow := (sSeq (sEx (vApp 4 (dOf (vFrz 1)))) (sSeq (sEx (vApp 3 (dOf (vBin .FloorDiv (oOf (vBin .Mult (oVar 1) (oVar 0))) (oVar 2))))) (sSeq (sSet 1 (vBin .Mod (oOf (vBin .Mult (oVar 1) (oVar 0))) (oVar 2))) sNil)))
noncomputable def b_law_divided : M Z.Flow := (sSeq (sIf (bCmp .Eq (oVar 1) (oVar 2)) (sSeq (sRet (vTup (dsCons (dOf (vTup dsNil)) (dsCons (dOf (vTup (dsCons (dOf (vBin .Sub (oVar 0) (oCon (.int 1)))) dsNil))) dsNil)))) sNil) sNil) (sSeq (sSet 3 (vLst dsNil)) (sSeq (sSet 4 (vLst dsNil)) (sSeq (sWhl (bCmp .NotIn (oVar 1) (oVar 4)) b_law_divided_1) (sSeq (sSet 5 (vMe "list" bIndex (oVar 4) (osCons (oVar 1) osNil))) (sSeq (sRet (vTup (dsCons (dOf (vBi bTup (osCons (oOf (vSlc (oVar 3) pNo (pI (oVar 5)))) osNil))) (dsCons (dOf (vBi bTup (osCons (oOf (vSlc (oVar 3) (pI (oVar 5)) pNo)) osNil))) dsNil)))) sNil))))))
noncomputable def f_law_divided : Fu := mkFu [false, false, false] 6 b_law_divided
theorem io_law_divided : f_law_divided.io = [false, false, false] := rfl
noncomputable def b_law_writings : M Z.Flow := (sSeq (sBnd (gTupB [(gSet 2), (gSet 3)]) (dOf (mCall f_law_divided (osCons (oVar 0) (osCons (oOf (vIdx (oVar 1) (oCon (.int 0)))) (osCons (oOf (vIdx (oVar 1) (oCon (.int 1)))) osNil)))))) (sSeq (sIf (bOr (bCmp .NotEq (oVar 3) (oOf (vTup (dsCons (dCon (.int 0)) dsNil)))) (bCmp .Eq (oVar 2) (oOf (vTup dsNil)))) (sSeq (sRet (vLst (dsCons (dOf (vTup (dsCons (dOf (vFrz 2)) (dsCons (dOf (vFrz 3)) dsNil)))) dsNil))) sNil) sNil) (sSeq (sRet (vLst (dsCons (dOf (vTup (dsCons (dOf (vFrz 2)) (dsCons (dOf (vFrz 3)) dsNil)))) (dsCons (dOf (vTup (dsCons (dOf (vBin .Add (oOf (vSlc (oVar 2) pNo (pI (oOf (vNeg (oCon (.int 1))))))) (oOf (vTup (dsCons (dOf (vBin .Sub (oOf (vIdx (oVar 2) (oOf (vNeg (oCon (.int 1)))))) (oCon (.int 1)))) dsNil))))) (dsCons (dOf (vTup (dsCons (dOf (vBin .Sub (oVar 0) (oCon (.int 1)))) dsNil))) dsNil)))) dsNil)))) sNil)))
noncomputable def f_law_writings : Fu := mkFu [false, false] 4 b_law_writings
theorem io_law_writings : f_law_writings.io = [false, false] := rfl
noncomputable def b_law_number_1 : M Z.Flow := (sSeq (sSet 2 (vBin .Add (oOf (vBin .Mult (oVar 2) (oVar 0))) (oVar 3))) sNil)
noncomputable def b_law_number : M Z.Flow := (sSeq (sSet 2 (vCon (.int 0))) (sSeq (sFor (gSet 3) (iOf (dOf (vFrz 1))) b_law_number_1) (sSeq (sRet (vMove 2)) sNil)))
noncomputable def f_law_number : Fu := mkFu [false, false] 4 b_law_number
theorem io_law_number : f_law_number.io = [false, false] := rfl
noncomputable def b_law_worth : M Z.Flow := (sSeq (sSet 3 (mCall f_law_number (osCons (oVar 0) (osCons (oOf (vBin .Mult (oOf (vTup (dsCons (dOf (vBin .Sub (oVar 0) (oCon (.int 1)))) dsNil))) (oOf (vBi bLen (osCons (oVar 2) osNil))))) osNil)))) (sSeq (sSet 4 (mCall f_law_number (osCons (oVar 0) (osCons (oOf (vBin .Add (oOf (vTup (dsCons (dCon (.int 1)) dsNil))) (oOf (vBin .Mult (oOf (vTup (dsCons (dCon (.int 0)) dsNil))) (oOf (vBi bLen (osCons (oVar 1) osNil))))))) osNil)))) (sSeq (sRet (mCall f_law_reduced (osCons (oOf (vBin .Add (oOf (vBin .Mult (oOf (mCall f_law_number (osCons (oVar 0) (osCons (oVar 1) osNil)))) (oVar 3))) (oOf (mCall f_law_number (osCons (oVar 0) (osCons (oVar 2) osNil)))))) (osCons (oOf (vBin .Mult (oVar 4) (oVar 3))) osNil)))) sNil)))
noncomputable def f_law_worth : Fu := mkFu [false, false, false] 5 b_law_worth
theorem io_law_worth : f_law_worth.io = [false, false, false] := rfl
end Y

namespace Y
open PySem PySem.Spec PyProof.Rows L2 Z
noncomputable def b_is_name : M Z.Flow := (sSeq (sRet (vB (bAnd (vIsi "str" (oVar 0)) (bAnd (bChn .Lt .LtE (oCon (.int 0)) (oOf (vBi bLen (osCons (oVar 0) osNil))) (oCon (.int 8))) (bOf (oOf (vBi bAll (osCons (oOf (vLc [1] (gSet 1) (iOf (dOf (vFrz 0))) bYes (dOf (vB (bCmp .In (oVar 1) (oCon (.str "abcdefghijklmnopqrstuvwxyz"))))))) osNil)))))))) sNil)
noncomputable def f_is_name : Fu := mkFu [false] 2 b_is_name
theorem io_is_name : f_is_name.io = [false] := rfl
noncomputable def b_is_base : M Z.Flow := (sSeq (sRet (vB (bAnd (bOf (oOf (mCall f_is_whole (osCons (oVar 0) osNil)))) (bChn .LtE .LtE (oCon (.int 2)) (oVar 0) (oCon (.int 10)))))) sNil)
noncomputable def f_is_base : Fu := mkFu [false] 1 b_is_base
theorem io_is_base : f_is_base.io = [false] := rfl
noncomputable def b_is_pair : M Z.Flow := (sSeq (sIf (bOr (bNot (vIsi "tuple" (oVar 2))) (bOr (bCmp .NotEq (oOf (vBi bLen (osCons (oVar 2) osNil))) (oCon (.int 2))) (bNot (bTru (oOf (mCall f_is_whole (osCons (oOf (vIdx (oVar 2) (oCon (.int 0)))) osNil))))))) (sSeq (sRet (vCon (.bool false))) sNil) sNil) (sSeq (sRet (vB (bAnd (bChn .LtE .Lt (oCon (.int 0)) (oOf (vIdx (oVar 2) (oCon (.int 0)))) (oVar 0)) (bAnd (bOf (oOf (mCall f_is_name (osCons (oOf (vIdx (oVar 2) (oCon (.int 1)))) osNil)))) (bCmp .In (oOf (vIdx (oVar 2) (oCon (.int 1)))) (oVar 1)))))) sNil))
noncomputable def f_is_pair : Fu := mkFu [false, false, false] 3 b_is_pair
theorem io_is_pair : f_is_pair.io = [false, false, false] := rfl
noncomputable def b_is_row : M Z.Flow := (sSeq (sIf (bOr (bNot (vIsi "tuple" (oVar 2))) (bOr (bCmp .Gt (oOf (vBi bLen (osCons (oVar 2) osNil))) (oCon (.int 12))) (bNot (bTru (oOf (vBi bAll (osCons (oOf (vLc [3] (gSet 3) (iOf (dOf (vFrz 2))) bYes (dOf (mCall f_is_pair (osCons (oVar 0) (osCons (oVar 1) (osCons (oVar 3) osNil))))))) osNil))))))) (sSeq (sRet (vCon (.bool false))) sNil) sNil) (sSeq (sRet (vBi bAll (osCons (oOf (vLc [3, 4] (gTupB [(gSet 3), (gSet 4)]) (iZp (dsCons (dOf (vFrz 2)) (dsCons (dOf (vSlc (oVar 2) (pI (oCon (.int 1))) pNo)) dsNil))) bYes (dOf (vB (bCmp .Lt (oVar 3) (oVar 4)))))) osNil))) sNil))
noncomputable def f_is_row : Fu := mkFu [false, false, false] 5 b_is_row
theorem io_is_row : f_is_row.io = [false, false, false] := rfl
noncomputable def b_is_book : M Z.Flow := (sSeq (sIf (bOr (bNot (vIsi "tuple" (oVar 0))) (bOr (bCmp .NotEq (oOf (vBi bLen (osCons (oVar 0) osNil))) (oCon (.int 2))) (bOr (bNot (bTru (oOf (mCall f_is_base (osCons (oOf (vIdx (oVar 0) (oCon (.int 0)))) osNil))))) (bNot (vIsi "dict" (oOf (vIdx (oVar 0) (oCon (.int 1))))))))) (sSeq (sRet (vCon (.bool false))) sNil) sNil) (sSeq (sBnd (gTupB [(gSet 1), (gSet 2)]) (dOf (vFrz 0))) (sSeq (sIf (bOr (bNot (bChn .Lt .LtE (oCon (.int 0)) (oOf (vBi bLen (osCons (oVar 2) osNil))) (oCon (.int 6)))) (bNot (bTru (oOf (vBi bAll (osCons (oOf (vLc [4] (gSet 4) (iOf (dOf (vFrz 2))) bYes (dOf (mCall f_is_name (osCons (oVar 4) osNil))))) osNil)))))) (sSeq (sRet (vCon (.bool false))) sNil) sNil) (sSeq (sRet (vBi bAll (osCons (oOf (vLc [3] (gSet 3) (iVals (dOf (vFrz 2))) bYes (dOf (mCall f_is_row (osCons (oVar 1) (osCons (oVar 2) (osCons (oVar 3) osNil))))))) osNil))) sNil))))
noncomputable def f_is_book : Fu := mkFu [false] 5 b_is_book
theorem io_is_book : f_is_book.io = [false] := rfl
noncomputable def b_law_names : M Z.Flow := (sSeq (sSet 2 (vCon (.str "abcdefghijklmnopqrstuvwxyz"))) (sSeq (sSet 3 (vMe "str" bJoin (oCon (.str "")) (osCons (oOf (vLc [7] (gSet 7) (iR1 (dsCons (dOf (mCall f_pen_take (osCons (oVar 0) (osCons (oCon (.int 8)) osNil)))) dsNil)) bYes (dOf (vIdx (oVar 2) (oOf (mCall f_pen_take (osCons (oVar 0) (osCons (oCon (.int 26)) osNil)))))))) osNil))) (sSeq (sSet 4 (mCall f_pen_take (osCons (oVar 0) (osCons (oOf (vBin .Add (oOf (vBi bLen (osCons (oVar 3) osNil))) (oCon (.int 1)))) osNil)))) (sSeq (sSet 5 (mCall f_pen_take (osCons (oVar 0) (osCons (oCon (.int 26)) osNil)))) (sSeq (sSet 6 (mCall f_pen_take (osCons (oVar 0) (osCons (oCon (.int 3)) osNil)))) (sSeq (sIf (bCmp .Eq (oVar 6) (oCon (.int 0))) (sSeq (sRet (vLc [7] (gSet 7) (iR1 (dsCons (dOf (vFrz 1)) dsNil)) bYes (dOf (vBin .Mult (oOf (vIdx (oVar 2) (oOf (vBin .Mod (oOf (vBin .Add (oVar 5) (oOf (vBin .Mult (oCon (.int 5)) (oVar 7))))) (oCon (.int 26)))))) (oOf (vBin .Add (oCon (.int 1)) (oOf (vBin .Mod (oOf (vBin .Add (oVar 4) (oOf (vBin .Mult (oCon (.int 3)) (oVar 7))))) (oCon (.int 8)))))))))) sNil) sNil) (sSeq (sIf (bAnd (bCmp .Eq (oVar 6) (oCon (.int 1))) (bCmp .Lt (oVar 1) (oCon (.int 9)))) (sSeq (sRet (vLc [7] (gSet 7) (iR1 (dsCons (dOf (vFrz 1)) dsNil)) bYes (dOf (vBin .Mult (oOf (vIdx (oVar 2) (oVar 5))) (oOf (vBin .Add (oCon (.int 1)) (oOf (vBin .Mod (oOf (vBin .Add (oVar 4) (oVar 7))) (oCon (.int 8)))))))))) sNil) sNil) (sSeq (sRet (vLc [7] (gSet 7) (iR1 (dsCons (dOf (vFrz 1)) dsNil)) bYes (dOf (vBin .Add (oOf (vBin .Add (oOf (vSlc (oVar 3) pNo (pI (oVar 4)))) (oOf (vIdx (oVar 2) (oOf (vBin .Mod (oOf (vBin .Add (oVar 5) (oOf (vBin .Mult (oCon (.int 5)) (oVar 7))))) (oCon (.int 26)))))))) (oOf (vSlc (oVar 3) (pI (oVar 4)) pNo)))))) sNil))))))))
noncomputable def f_law_names : Fu := mkFu [true, false] 8 b_law_names
theorem io_law_names : f_law_names.io = [true, false] := rfl
noncomputable def b_law_row_1 : M Z.Flow := (sSeq (sPut 4 (oOf (vTup (dsCons (dOf (mCall f_pen_take (osCons (oVar 0) (osCons (oVar 1) osNil)))) (dsCons (dOf (vIdx (oVar 2) (oOf (mCall f_pen_take (osCons (oVar 0) (osCons (oOf (vBi bLen (osCons (oVar 2) osNil))) osNil)))))) dsNil)))) (dCon (.bool true))) sNil)
noncomputable def b_law_row : M Z.Flow := (sSeq (sSet 4 vDct0) (sSeq (sFor (gSet 5) (iR1 (dsCons (dOf (mCall f_pen_take (osCons (oVar 0) (osCons (oOf (vBin .Add (oVar 3) (oCon (.int 1)))) osNil)))) dsNil)) b_law_row_1) (sSeq (sRet (vBi bTup (osCons (oOf (vBi bSorted (osCons (oVar 4) osNil))) osNil))) sNil)))
noncomputable def f_law_row : Fu := mkFu [true, false, false, false] 6 b_law_row
theorem io_law_row : f_law_row.io = [true, false, false, false] := rfl
noncomputable def b_law_book_1 : M Z.Flow := (sSeq (sSet 6 (vIdx (oVar 2) (oOf (mCall f_pen_take (osCons (oVar 0) (osCons (oOf (vBi bLen (osCons (oVar 2) osNil))) osNil)))))) (sSeq (sSet 7 (mCall f_pen_take (osCons (oVar 0) (osCons (oVar 1) osNil)))) (sSeq (sSet 8 (mCall f_pen_take (osCons (oVar 0) (osCons (oVar 1) osNil)))) (sSeq (sSet 9 (mCall f_pen_take (osCons (oVar 0) (osCons (oCon (.int 12)) osNil)))) (sSeq (sSet 10 (mCall f_law_row (osCons (oVar 0) (osCons (oVar 1) (osCons (oVar 2) (osCons (oVar 3) osNil)))))) (sSeq (sIf (bCmp .Gt (oVar 9) (oCon (.int 5))) (sSeq (sSet 11 (vLst (dsCons (dOf (vLst (dsCons (dOf (vTup (dsCons (dOf (vFrz 7)) (dsCons (dOf (vFrz 5)) dsNil)))) (dsCons (dOf (vTup (dsCons (dOf (vFrz 8)) (dsCons (dOf (vFrz 5)) dsNil)))) dsNil)))) (dsCons (dOf (vLc [12] (gSet 12) (iR1 (dsCons (dOf (vFrz 1)) dsNil)) bYes (dOf (vTup (dsCons (dOf (vFrz 12)) (dsCons (dOf (vFrz 5)) dsNil)))))) (dsCons (dOf (vLst (dsCons (dOf (vTup (dsCons (dCon (.int 0)) (dsCons (dOf (vFrz 6)) dsNil)))) (dsCons (dOf (vTup (dsCons (dOf (vBin .Sub (oVar 1) (oCon (.int 1)))) (dsCons (dOf (vFrz 5)) dsNil)))) dsNil)))) dsNil))))) (sSeq (sSet 11 (vBin .Add (oVar 11) (oOf (vLst (dsCons (dOf (vLst (dsCons (dOf (vTup (dsCons (dOf (vFrz 7)) (dsCons (dOf (vFrz 5)) dsNil)))) dsNil))) (dsCons (dOf (vLst (dsCons (dOf (vTup (dsCons (dOf (vFrz 7)) (dsCons (dOf (vFrz 5)) dsNil)))) (dsCons (dOf (vTup (dsCons (dOf (vFrz 8)) (dsCons (dOf (vFrz 6)) dsNil)))) dsNil)))) (dsCons (dOf (vLst (dsCons (dOf (vTup (dsCons (dOf (vFrz 7)) (dsCons (dOf (vFrz 6)) dsNil)))) (dsCons (dOf (vTup (dsCons (dOf (vFrz 7)) (dsCons (dOf (vFrz 5)) dsNil)))) dsNil)))) dsNil))))))) (sSeq (sSet 10 (vBi bTup (osCons (oOf (vBi bSorted (osCons (oOf (vBi bDict (osCons (oOf (vLc [13] (gSet 13) (iOf (dOf (vIdx (oVar 11) (oOf (vBin .Sub (oVar 9) (oCon (.int 6))))))) bYes (dOf (vTup (dsCons (dOf (vFrz 13)) (dsCons (dCon (.bool true)) dsNil)))))) osNil))) osNil))) osNil))) sNil))) sNil) (sSeq (sPut 4 (oVar 5) (dOf (vFrz 10))) sNil)))))))
noncomputable def b_law_book : M Z.Flow := (sSeq (sSet 4 vDct0) (sSeq (sFor (gSet 5) (iOf (dOf (vFrz 2))) b_law_book_1) (sSeq (sRet (vTup (dsCons (dOf (vFrz 1)) (dsCons (dOf (vFrz 4)) dsNil)))) sNil)))
noncomputable def f_law_book : Fu := mkFu [true, false, false, false] 14 b_law_book
theorem io_law_book : f_law_book.io = [true, false, false, false] := rfl
noncomputable def b_lasting_1 : M Z.Flow := (sSeq (sSet 3 (vBi bLen (osCons (oVar 2) osNil))) (sSeq (sSet 2 (vDc [4] (gSet 4) (iOf (dOf (vFrz 2))) (bTru (oOf (vBi bAny (osCons (oOf (vLc [5, 6] (gTupB [(gSet 5), (gSet 6)]) (iOf (dOf (vIdx (oVar 0) (oVar 4)))) bYes (dOf (vB (bAnd (bCmp .In (oVar 5) (oVar 1)) (bCmp .In (oVar 6) (oVar 2))))))) osNil)))) (dOf (vFrz 4)) (dCon (.bool true)))) sNil))
noncomputable def b_lasting : M Z.Flow := (sSeq (sSet 2 (vDc [4] (gSet 4) (iOf (dOf (vFrz 0))) bYes (dOf (vFrz 4)) (dCon (.bool true)))) (sSeq (sSet 3 (vNeg (oCon (.int 1)))) (sSeq (sWhl (bCmp .NotEq (oVar 3) (oOf (vBi bLen (osCons (oVar 2) osNil)))) b_lasting_1) (sSeq (sRet (vMove 2)) sNil))))
noncomputable def f_lasting : Fu := mkFu [false, false] 7 b_lasting
theorem io_lasting : f_lasting.io = [false, false] := rfl
noncomputable def b_live : M Z.Flow := (sSeq (sBnd (gTupB [(gSet 1), (gSet 2)]) (dOf (vFrz 0))) (sSeq (sRet (vBi bSorted (osCons (oOf (mCall f_lasting (osCons (oVar 2) (osCons (oOf (vLr (oVar 1))) osNil)))) osNil))) sNil))
noncomputable def f_live : Fu := mkFu [false] 3 b_live
theorem io_live : f_live.io = [false] := rfl
end Y

namespace Y
open PySem Z
local macro_rules | `(tactic| simp_arith [$ls,*]) => `(tactic| simp only [List.getD_cons_succ, List.getD_cons_zero, b_sum, b_any, b_all, in_cons, in_nil, bl_cons, bl_nil, uw_cons, uw_nil, wp_cons, wp_nil, fz_cons, fz_nil, ev_vLc, k1_vLc, lc0_ok, lc1_some, lc2, lc3, ev_vCon, ev_oCon, ev_dCon, ev_sNil, ev_sBrk, ev_sCnt, ev_sRetN, ev_dsNil, ev_osNil, ev_kvNil, ev_pNo, ev_vDct0, ev_bYes, ev_frz_some, ev_oVar, pk_some, ev_vFrz, pf_some, ev_vMove, pm_some, k1_dOf, ev_dOf, k1_oOf, ev_oOf, k1_vB, ev_vB, k2_vBin, k1_vBin, ev_vBin, k2_bCmp, k1_bCmp, ev_bCmp, k2_vIdx, k1_vIdx, ev_vIdx, k1_vRev, ev_vRev, k1_bNot, ev_bNot, k1_bTru, ev_bTru, k1_vIsi, ev_vIsi, k1_vBi, ev_vBi, k2_dsCons, k1_dsCons, ev_dsCons, k2_osCons, k1_osCons, ev_osCons, k3_kvCons, k2_kvCons, k1_kvCons, ev_kvCons, k1_vTup, ev_vTup, k1_vLst, ev_vLst, k1_vDct, ev_vDct, k3_vSlc, k2_vSlc, k1_vSlc, ev_vSlc, k1_pI, pIv_int, ev_pI, k1_vNeg, ngv_int, ev_vNeg, k1_bOf, bov_bool, ev_bOf, k1_bAnd, ev_bAnd, k1_bOr, ev_bOr, k1_vIf, ev_vIf, k1_sIf, ev_sIf, chv_t, chv_f, k2_bChn, k1_bChn, ev_bChn, sq_nx, sq_brk, sq_ct, sq_ret, ev_sSeq, k1_sSet, ev_sSet, k1_sEx, ev_sEx, k1_sRet, ev_sRet, bdv_some, k1_sBnd, ev_sBnd, ev_gSet, ev_gTupT, ev_gTupL, ev_gAll0, ev_gAll1, parv_2, k1_sPar, ev_sPar, wh_t, wh_f, wh_nx, wh_brk, wh_ret, fo_nx, fo_ct, fo_brk, fo_ret, fov_some, for_nil, k1_sFor, ev_sFor, iov_0, iov_1, iov_2, iov_3, k1_iOf, ev_iOf, r1_int, ev_iR1, r2_int, ev_iR2, en_l, ev_iEn, zp_l, zp_t, ev_iZp, ev_iVals, iva_d, ev_iItems, iit_d, k1_vIsiT, ev_vIsiT, k2_vMe, k1_vMe, ev_vMe, any_s, List.any_cons, List.any_nil, cl_ret, cl_exc, cl_some, k1_call, ev_mCall, k1_callP, ev_mCallP, clq_some, clp_b, clp_i, clp_s, clp_n, tk_nil, tk_lent, tkl_some, tk_frz, tkf_some, tk_dat, bk_lent, bk_f, bk_d, bk_nil, mk_nil, mk_cons, out_nx, out_ret, out_exc, ev_run, ev_io, put3_some, put2_some, k2_put, put1_some, k1_put, ev_sPut, app2_l, k1_app, app1_l, ev_vApp, vc1_l, ev_vClr, ve1_l, ve2_l, kx_l, ev_vExt, i3Add_int, i2Add, i1Add_int, ev_sAdd, i3Sub_int, i2Sub, i1Sub_int, ev_sSub, lk_inl, lk_inr, lks_nil, lks_cons, bind_ok, bind_exc, bind_bad, of_some, of_none, peek_nil, peek_zero, peek_zero', peek_succ, fz_f, fz_l, fz_d, bin_add, bin_sub, bin_mul, bin_fdiv, bin_mod, bin_pow, bin_adds, bin_addt, bin_addl, cmp_eq, cmp_ne, cmp_in, cmp_nin, cmp_lt, cmp_le, cmp_gt, cmp_ge, cmp_is, cmp_isn, isD_int, isD_bool, isD_str, isD_list, isD_tuple, isD_dict, tru_int, tru_bool, tru_none, tru_list, tru_tuple, item_l, item_t, put_l, eqD_int, eqD_bool, eqD_str, bind_some, map_some, bLen, bTup, bMax2, bMin2, bAbs, bInt, List.getElem?_cons_zero, List.getElem?_cons_succ, List.set_cons_zero, List.set_cons_succ, List.length_cons, List.length_nil, List.length_set, List.replicate_succ, List.replicate_zero, List.map_cons, List.map_nil, List.cons_append, List.nil_append, Option.map_some, Option.map_none, Option.bind_some, Option.bind_none, if_true, if_false, Bool.not_true, Bool.not_false, Bool.false_eq_true, Bool.true_eq_false, reduceIte, Nat.reduceAdd, Nat.reduceSub, Nat.reduceLT, Nat.reduceLeDiff, Nat.reduceEqDiff, decide_true, decide_false, Int.reduceNeg, ne_eq, not_true_eq_false, not_false_eq_true, Nat.zero_lt_succ, Nat.lt_add_one, and_self, and_true, true_and, Bool.true_and, Bool.false_and, Bool.and_true, Bool.or_true, Bool.or_false, Bool.true_or, Bool.false_or, sizeOk_small, Int.cast_ofNat_Int, Int.reduceBEq, Int.reduceLT, Int.reduceLE, Int.reduceEq, lt_line, Option.getD_some, BEq.rfl, List.all_cons, List.all_nil, List.any_cons, List.any_nil, id_eq, Y.tyn_l, Y.tyn_s, Y.tyn_d, Y.in_ll, Y.in_tl, Y.jk_peek, dc_nil, dc_cons, dc1_some, dc2, dc2b, dc3, dc0_ok, k1_vDc, ev_vDc, ev_vSd, sd1_d, k1_sd, sd2_d, sd3_s, sd3_n, ev_vDp, dp1_d, k1_vDp, dp2_d, dp3_s, k1_vLr, ev_vLr, lrv_i, k1_vItL, ev_vItL, itv_d, lc_cons, lc_nil, $ls,*])
theorem beq_dec {α : Type} [BEq α] [LawfulBEq α] [DecidableEq α] (a b : α) : (a == b) = decide (a = b) := by
  rw [Bool.eq_iff_iff, beq_iff_eq, decide_eq_true_iff]
/-- what stands as a key: like data only of like things -/
class Ek (α : Type) [DecidableEq α] where
  enc : α → PyData
  dep : Nat
  inj : ∀ a b, (enc a).eqv (enc b) = decide (a = b)
  hkk : ∀ a, Z.hk (enc a) = true
  dp : ∀ a, (enc a).depth ≤ dep
open Ek (enc)
instance : Ek Int := ⟨.int, 0, fun a b => by simp only [PyData.eqv]; exact beq_dec .., fun _ => rfl, fun _ => Nat.le_refl _⟩
instance : Ek Str := ⟨.str, 0, fun a b => by simp only [PyData.eqv]; exact beq_dec .., fun _ => rfl, fun _ => Nat.le_refl _⟩
instance : Ek Bool := ⟨.bool, 0, fun a b => by simp only [PyData.eqv]; exact beq_dec .., fun _ => rfl, fun _ => Nat.le_refl _⟩
instance : Ek Nat := ⟨fun n => .int n, 0, fun a b => by simp only [PyData.eqv]; rw [beq_dec]; exact decide_eq_decide.mpr Int.ofNat_inj, fun _ => rfl, fun _ => Nat.le_refl _⟩
def eOpt {α : Type} (f : α → PyData) : Option α → PyData
  | some a => f a
  | none => .none
instance : Ek (Option Int) := ⟨eOpt .int, 0, fun a b => by cases a <;> cases b <;> simp [eOpt, PyData.eqv, beq_dec], fun a => by cases a <;> rfl, fun a => by cases a <;> exact Nat.le_refl _⟩
instance : Ek (Option Nat) := ⟨eOpt fun n => .int n, 0, fun a b => by cases a <;> cases b <;> simp [eOpt, PyData.eqv, beq_dec, Int.ofNat_inj], fun a => by cases a <;> rfl, fun a => by cases a <;> exact Nat.le_refl _⟩
section
variable {α β γ : Type} [DecidableEq α] [DecidableEq β] [DecidableEq γ] [Ek α] [Ek β] [Ek γ]
instance : Ek (α × β) := ⟨fun p => .tuple [enc p.1, enc p.2], max (Ek.dep α) (Ek.dep β) + 1, fun a b => by
  obtain ⟨a1, a2⟩ := a
  obtain ⟨b1, b2⟩ := b
  simp [PyData.eqv, PyData.eqvAll, Ek.inj, Prod.ext_iff], fun a => by simp [Z.hk, Z.hkAll, Ek.hkk], fun a => by
  have h1 := Ek.dp a.1
  have h2 := Ek.dp a.2
  simp only [PyData.depth, PyData.depthAll]
  omega⟩
theorem eqvAll_enc : ∀ a b : List α, PyData.eqvAll (a.map enc) (b.map enc) = decide (a = b)
  | [], [] => rfl
  | [], _ :: _ => rfl
  | _ :: _, [] => rfl
  | x :: a, y :: b => by
    simp only [List.map_cons, PyData.eqvAll, Ek.inj, eqvAll_enc a b, List.cons.injEq, Bool.decide_and]
theorem hkAll_enc : ∀ a : List α, Z.hkAll (a.map enc) = true
  | [] => rfl
  | x :: a => by simp [Z.hkAll, Ek.hkk, hkAll_enc a]
theorem depAll_enc : ∀ a : List α, PyData.depthAll (a.map enc) ≤ Ek.dep α
  | [] => Nat.zero_le _
  | x :: a => by
    have h1 := Ek.dp x
    have h2 := depAll_enc a
    simp only [List.map_cons, PyData.depthAll]
    omega
instance : Ek (List α) := ⟨fun l => .tuple (l.map enc), Ek.dep α + 1, fun a b => by simp only [PyData.eqv]; exact eqvAll_enc a b, fun a => by simp [Z.hk, hkAll_enc], fun a => by
  have := depAll_enc a
  simp only [PyData.depth]
  omega⟩
theorem hk_plain : ∀ p : PyData, Z.hk p = true → p.plain = true
  | .none, _ => rfl
  | .bool _, _ => rfl
  | .int _, _ => rfl
  | .str _, _ => rfl
  | .tuple l, h => by
    simp only [PyData.plain]
    exact hk_plainAll l (by simpa [Z.hk] using h)
  | .list _, h => by simp [Z.hk] at h
  | .dict _, h => by simp [Z.hk] at h
where hk_plainAll : ∀ l : List PyData, Z.hkAll l = true → PyData.plainAll l = true
  | [], _ => rfl
  | x :: xs, h => by
    simp only [Z.hkAll, Bool.and_eq_true] at h
    simp [PyData.plainAll, hk_plain x h.1, hk_plainAll xs h.2]
theorem plain_enc (a : α) : (enc a).plain = true := hk_plain _ (Ek.hkk a)
theorem plainAll_enc (l : List α) : PyData.plainAll (l.map enc) = true := hk_plain.hk_plainAll _ (hkAll_enc l)
theorem plainD_enc (h : Ek.dep α ≤ 64) (a : α) : plainD (enc a) = true := by
  have := Ek.dp a
  simp only [plainD, plain_enc, Bool.true_and, decide_eq_true_eq]
  omega
theorem keyOk_enc (h : Ek.dep α ≤ 7) (a : α) : keyOk (enc a) = true := by
  have := Ek.dp a
  simp only [keyOk, Ek.hkk, Bool.true_and, decide_eq_true_eq]
  omega
theorem memD_enc (h : Ek.dep α ≤ 64) (a : α) (l : List α) : memD (enc a) (l.map enc) = some (decide (a ∈ l)) := by
  unfold memD
  rw [if_pos (by rw [plainD_enc h, plainAll_enc]; rfl)]
  congr 1
  rw [Bool.eq_iff_iff, List.any_eq_true, decide_eq_true_iff]
  constructor
  · rintro ⟨x, hx, e⟩
    obtain ⟨b, hb, rfl⟩ := List.mem_map.mp hx
    rw [Ek.inj, decide_eq_true_iff] at e
    rw [← e]
    exact hb
  · intro ha
    exact ⟨_, List.mem_map.mpr ⟨a, ha, rfl⟩, by rw [Ek.inj]; simp⟩
theorem eqD_enc (h : Ek.dep α ≤ 64) (a b : α) : eqD (enc a) (enc b) = some (decide (a = b)) := by
  unfold eqD
  rw [if_pos (by rw [plainD_enc h, plainD_enc h]; rfl), Ek.inj]
end
theorem in_ll (x : PyData) (l : List PyData) : inD x (.list l) = memD x l := (rfl)
theorem in_tl (x : PyData) (l : List PyData) : inD x (.tuple l) = memD x l := (rfl)
theorem tyn_l (l : List PyData) : (tyNm (.list l) == "list") = true := by show ("list" == "list") = true; decide
theorem tyn_s (x : Str) : (tyNm (.str x) == "str") = true := by show ("str" == "str") = true; decide
theorem tyn_d (l : List (PyData × PyData)) : (tyNm (.dict l) == "dict") = true := by show ("dict" == "dict") = true; decide
/-- what a block's name holds, whatever it is -/
def jk (o : Option W) : Option W := (o.bind W.fz).map .f
theorem jk_peek (o : Option W) (e : Z.Env) : Option.map W.f (peek (o :: e) 0) = jk o := by
  cases o with
  | none => simp [jk, peek]
  | some w => simp [jk, peek]
/-! ### dicts by typed keys -/
section
variable {α β : Type} [DecidableEq α]
def aget (l : List (α × β)) (k : α) : Option β := (l.find? fun p => decide (p.1 = k)).map (·.2)
def ahas (l : List (α × β)) (k : α) : Bool := l.any fun p => decide (p.1 = k)
def aput (l : List (α × β)) (k : α) (v : β) : List (α × β) := if ahas l k then l.map (fun p => if p.1 = k then (p.1, v) else p) else l ++ [(k, v)]
theorem ahas_iff (l : List (α × β)) (k : α) : ahas l k = true ↔ k ∈ l.map (·.1) := by
  unfold ahas
  rw [List.any_eq_true, List.mem_map]
  constructor
  · rintro ⟨p, hp, e⟩
    exact ⟨p, hp, of_decide_eq_true e⟩
  · rintro ⟨p, hp, e⟩
    exact ⟨p, hp, by simp [e]⟩
theorem aget_some {l : List (α × β)} {k : α} {v : β} (h : aget l k = some v) : (k, v) ∈ l := by
  unfold aget at h
  obtain ⟨p, hp, rfl⟩ := Option.map_eq_some_iff.mp h
  have h1 := List.mem_of_find?_eq_some hp
  have h2 := List.find?_some hp
  have h2 : p.1 = k := of_decide_eq_true h2
  rw [← h2]
  exact h1
theorem aget_none {l : List (α × β)} {k : α} : aget l k = none ↔ k ∉ l.map (·.1) := by
  unfold aget
  rw [Option.map_eq_none_iff, List.find?_eq_none, List.mem_map]
  constructor
  · rintro h ⟨p, hp, e⟩
    exact h p hp (by simp [e])
  · rintro h p hp e
    exact h ⟨p, hp, of_decide_eq_true e⟩
theorem aget_mem {l : List (α × β)} (nd : (l.map (·.1)).Nodup) {k : α} {v : β} (h : (k, v) ∈ l) : aget l k = some v := by
  induction l with
  | nil => simp at h
  | cons p l ih =>
    simp only [List.map_cons, List.nodup_cons] at nd
    unfold aget
    rw [List.find?_cons]
    rcases List.mem_cons.mp h with rfl | h
    · simp
    · have : p.1 ≠ k := fun e => nd.1 (by rw [e]; exact List.mem_map.mpr ⟨_, h, rfl⟩)
      rw [decide_eq_false this]
      exact ih nd.2 h
theorem ahas_aget (l : List (α × β)) (k : α) : (aget l k).isSome = ahas l k := by
  cases h : aget l k with
  | none =>
    rw [aget_none] at h
    symm
    rw [Option.isSome_none, Bool.eq_false_iff]
    exact fun z => h ((ahas_iff l k).mp z)
  | some v => exact ((ahas_iff l k).mpr (List.mem_map.mpr ⟨_, aget_some h, rfl⟩)).symm
theorem aput_keys (l : List (α × β)) (k : α) (v : β) : (aput l k v).map (·.1) = if k ∈ l.map (·.1) then l.map (·.1) else l.map (·.1) ++ [k] := by
  unfold aput
  by_cases h : ahas l k = true
  · rw [if_pos h, if_pos ((ahas_iff l k).mp h), List.map_map]
    refine List.map_congr_left fun p _ => ?_
    show (if p.1 = k then (p.1, v) else p).1 = p.1
    split <;> rfl
  · rw [if_neg h, if_neg (fun z => h ((ahas_iff l k).mpr z)), List.map_append]
    rfl
theorem aput_nodup {l : List (α × β)} (nd : (l.map (·.1)).Nodup) (k : α) (v : β) : ((aput l k v).map (·.1)).Nodup := by
  rw [aput_keys]
  split
  · exact nd
  · rename_i h
    rw [List.nodup_append]
    exact ⟨nd, by simp, fun a ha b hb e => h (by simp at hb; subst hb e; exact ha)⟩
theorem aput_new {l : List (α × β)} {k : α} (v : β) (h : k ∉ l.map (·.1)) : aput l k v = l ++ [(k, v)] := by
  unfold aput
  rw [if_neg fun z => h ((ahas_iff l k).mp z)]
theorem aget_aput (l : List (α × β)) (k j : α) (v : β) : aget (aput l k v) j = if j = k then some v else aget l j := by
  unfold aput
  by_cases h : ahas l k = true
  · rw [if_pos h]
    induction l with
    | nil => simp [ahas] at h
    | cons p l ih =>
      unfold aget at ih ⊢
      rw [List.map_cons, List.find?_cons]
      by_cases hp : p.1 = k
      · rw [if_pos hp]
        by_cases hj : j = k
        · subst hj
          simp [hp]
        · have h1 : ¬ (p.1 = j) := fun z => hj (by rw [← z, hp])
          simp only [h1, decide_false, if_neg hj]
          by_cases hl : ahas l k = true
          · rw [ih hl, if_neg hj, List.find?_cons, decide_eq_false h1]
          · have : l.map (fun p => if p.1 = k then (p.1, v) else p) = l := by
              conv => rhs; rw [← List.map_id l]
              refine List.map_congr_left fun q hq => ?_
              rw [if_neg]
              · rfl
              · intro z
                exact hl ((ahas_iff l k).mpr (List.mem_map.mpr ⟨q, hq, z⟩))
            rw [this, List.find?_cons, decide_eq_false h1]
      · rw [if_neg hp]
        have hl : ahas l k = true := by
          rw [ahas_iff] at h ⊢
          simp only [List.map_cons, List.mem_cons] at h
          rcases h with z | z
          · exact absurd z.symm hp
          · exact z
        by_cases hj : p.1 = j
        · have : ¬ (j = k) := fun z => hp (by rw [hj, z])
          simp [hj, this]
        · simp only [hj, decide_false]
          rw [ih hl, List.find?_cons, decide_eq_false hj]
  · rw [if_neg h]
    unfold aget
    rw [List.find?_append]
    by_cases hj : j = k
    · subst hj
      have : l.find? (fun p => decide (p.1 = j)) = none := by
        rw [List.find?_eq_none]
        intro p hp e
        exact h ((ahas_iff l j).mpr (List.mem_map.mpr ⟨p, hp, of_decide_eq_true e⟩))
      simp [this]
    · have hk : ¬ (k = j) := fun z => hj z.symm
      cases e : l.find? (fun p => decide (p.1 = j)) <;> simp [hj, hk]
variable [Ek α]
/-- a dict of such keys -/
def tb (g : β → PyData) (l : List (α × β)) : List (PyData × PyData) := l.map fun p => (enc p.1, g p.2)
theorem tb_len (g : β → PyData) (l : List (α × β)) : (tb g l).length = l.length := List.length_map ..
theorem dget_tb (g : β → PyData) (l : List (α × β)) (k : α) : dget (tb g l) (enc k) = (aget l k).map g := by
  unfold dget tb aget
  rw [List.find?_map, Option.map_map, Option.map_map]
  congr 1
  refine congrArg (fun f => l.find? f) (funext fun p => ?_)
  exact Ek.inj ..
theorem dhas_tb (g : β → PyData) (l : List (α × β)) (k : α) : dhas (tb g l) (enc k) = ahas l k := by
  unfold dhas tb ahas
  rw [List.any_map]
  refine congrArg (fun f => l.any f) (funext fun p => ?_)
  exact Ek.inj ..
theorem dput_tb (g : β → PyData) (l : List (α × β)) (k : α) (v : β) : dput (tb g l) (enc k) (g v) = tb g (aput l k v) := by
  unfold dput aput
  rw [dhas_tb]
  split
  · unfold tb
    rw [List.map_map, List.map_map]
    refine List.map_congr_left fun p _ => ?_
    show (if (enc p.1).eqv (enc k) = true then _ else _) = (enc (if p.1 = k then (p.1, v) else p).1, g (if p.1 = k then (p.1, v) else p).2)
    rw [Ek.inj]
    by_cases h : p.1 = k <;> simp [h]
  · unfold tb
    rw [List.map_append]
    rfl
theorem ddel_tb (g : β → PyData) (l : List (α × β)) (k : α) : ddel (tb g l) (enc k) = tb g (l.filter fun p => decide (p.1 ≠ k)) := by
  unfold ddel tb
  rw [List.filter_map]
  refine congrArg (fun f => (l.filter f).map _) (funext fun p => ?_)
  show (!(enc p.1).eqv (enc k)) = _
  rw [Ek.inj]
  simp
theorem inD_tb (h : Ek.dep α ≤ 7) (g : β → PyData) (l : List (α × β)) (k : α) : inD (enc k) (.dict (tb g l)) = some (ahas l k) := by
  show (if keyOk (enc k) = true then some _ else none) = _
  rw [if_pos (keyOk_enc h k), dhas_tb]
theorem item_tb (h : Ek.dep α ≤ 7) (g : β → PyData) (l : List (α × β)) (k : α) : item (.dict (tb g l)) (enc k) = (aget l k).map g := by
  show (if keyOk (enc k) = true then dget _ _ else none) = _
  rw [if_pos (keyOk_enc h k), dget_tb]
theorem putAt_tb (h : Ek.dep α ≤ 7) (g : β → PyData) (l : List (α × β)) (hl : l.length < sizeLine) (k : α) (v : β) : putAt (.dct (tb g l)) (enc k) (g v) = some (.dct (tb g (aput l k v))) := by
  show (if (keyOk (enc k) && decide ((tb g l).length < sizeLine)) = true then some _ else none) = _
  rw [if_pos (by rw [keyOk_enc h, tb_len, decide_eq_true hl]; rfl), dput_tb]
end
end Y

namespace Y
open PySem Z
local macro_rules | `(tactic| simp_arith [$ls,*]) => `(tactic| simp only [List.getD_cons_succ, List.getD_cons_zero, b_sum, b_any, b_all, in_cons, in_nil, bl_cons, bl_nil, uw_cons, uw_nil, wp_cons, wp_nil, fz_cons, fz_nil, ev_vLc, k1_vLc, lc0_ok, lc1_some, lc2, lc3, ev_vCon, ev_oCon, ev_dCon, ev_sNil, ev_sBrk, ev_sCnt, ev_sRetN, ev_dsNil, ev_osNil, ev_kvNil, ev_pNo, ev_vDct0, ev_bYes, ev_frz_some, ev_oVar, pk_some, ev_vFrz, pf_some, ev_vMove, pm_some, k1_dOf, ev_dOf, k1_oOf, ev_oOf, k1_vB, ev_vB, k2_vBin, k1_vBin, ev_vBin, k2_bCmp, k1_bCmp, ev_bCmp, k2_vIdx, k1_vIdx, ev_vIdx, k1_vRev, ev_vRev, k1_bNot, ev_bNot, k1_bTru, ev_bTru, k1_vIsi, ev_vIsi, k1_vBi, ev_vBi, k2_dsCons, k1_dsCons, ev_dsCons, k2_osCons, k1_osCons, ev_osCons, k3_kvCons, k2_kvCons, k1_kvCons, ev_kvCons, k1_vTup, ev_vTup, k1_vLst, ev_vLst, k1_vDct, ev_vDct, k3_vSlc, k2_vSlc, k1_vSlc, ev_vSlc, k1_pI, pIv_int, ev_pI, k1_vNeg, ngv_int, ev_vNeg, k1_bOf, bov_bool, ev_bOf, k1_bAnd, ev_bAnd, k1_bOr, ev_bOr, k1_vIf, ev_vIf, k1_sIf, ev_sIf, chv_t, chv_f, k2_bChn, k1_bChn, ev_bChn, sq_nx, sq_brk, sq_ct, sq_ret, ev_sSeq, k1_sSet, ev_sSet, k1_sEx, ev_sEx, k1_sRet, ev_sRet, bdv_some, k1_sBnd, ev_sBnd, ev_gSet, ev_gTupT, ev_gTupL, ev_gAll0, ev_gAll1, parv_2, k1_sPar, ev_sPar, wh_t, wh_f, wh_nx, wh_brk, wh_ret, fo_nx, fo_ct, fo_brk, fo_ret, fov_some, for_nil, k1_sFor, ev_sFor, iov_0, iov_1, iov_2, iov_3, k1_iOf, ev_iOf, r1_int, ev_iR1, r2_int, ev_iR2, en_l, ev_iEn, zp_l, zp_t, ev_iZp, ev_iVals, iva_d, ev_iItems, iit_d, k1_vIsiT, ev_vIsiT, k2_vMe, k1_vMe, ev_vMe, any_s, List.any_cons, List.any_nil, cl_ret, cl_exc, cl_some, k1_call, ev_mCall, k1_callP, ev_mCallP, clq_some, clp_b, clp_i, clp_s, clp_n, tk_nil, tk_lent, tkl_some, tk_frz, tkf_some, tk_dat, bk_lent, bk_f, bk_d, bk_nil, mk_nil, mk_cons, out_nx, out_ret, out_exc, ev_run, ev_io, put3_some, put2_some, k2_put, put1_some, k1_put, ev_sPut, app2_l, k1_app, app1_l, ev_vApp, vc1_l, ev_vClr, ve1_l, ve2_l, kx_l, ev_vExt, i3Add_int, i2Add, i1Add_int, ev_sAdd, i3Sub_int, i2Sub, i1Sub_int, ev_sSub, lk_inl, lk_inr, lks_nil, lks_cons, bind_ok, bind_exc, bind_bad, of_some, of_none, peek_nil, peek_zero, peek_zero', peek_succ, fz_f, fz_l, fz_d, bin_add, bin_sub, bin_mul, bin_fdiv, bin_mod, bin_pow, bin_adds, bin_addt, bin_addl, cmp_eq, cmp_ne, cmp_in, cmp_nin, cmp_lt, cmp_le, cmp_gt, cmp_ge, cmp_is, cmp_isn, isD_int, isD_bool, isD_str, isD_list, isD_tuple, isD_dict, tru_int, tru_bool, tru_none, tru_list, tru_tuple, item_l, item_t, put_l, eqD_int, eqD_bool, eqD_str, bind_some, map_some, bLen, bTup, bMax2, bMin2, bAbs, bInt, List.getElem?_cons_zero, List.getElem?_cons_succ, List.set_cons_zero, List.set_cons_succ, List.length_cons, List.length_nil, List.length_set, List.replicate_succ, List.replicate_zero, List.map_cons, List.map_nil, List.cons_append, List.nil_append, Option.map_some, Option.map_none, Option.bind_some, Option.bind_none, if_true, if_false, Bool.not_true, Bool.not_false, Bool.false_eq_true, Bool.true_eq_false, reduceIte, Nat.reduceAdd, Nat.reduceSub, Nat.reduceLT, Nat.reduceLeDiff, Nat.reduceEqDiff, decide_true, decide_false, Int.reduceNeg, ne_eq, not_true_eq_false, not_false_eq_true, Nat.zero_lt_succ, Nat.lt_add_one, and_self, and_true, true_and, Bool.true_and, Bool.false_and, Bool.and_true, Bool.or_true, Bool.or_false, Bool.true_or, Bool.false_or, sizeOk_small, Int.cast_ofNat_Int, Int.reduceBEq, Int.reduceLT, Int.reduceLE, Int.reduceEq, lt_line, Option.getD_some, BEq.rfl, List.all_cons, List.all_nil, List.any_cons, List.any_nil, id_eq, Y.tyn_l, Y.tyn_s, Y.tyn_d, Y.in_ll, Y.in_tl, Y.jk_peek, dc_nil, dc_cons, dc1_some, dc2, dc2b, dc3, dc0_ok, k1_vDc, ev_vDc, ev_vSd, sd1_d, k1_sd, sd2_d, sd3_s, sd3_n, ev_vDp, dp1_d, k1_vDp, dp2_d, dp3_s, k1_vLr, ev_vLr, lrv_i, k1_vItL, ev_vItL, itv_d, lc_cons, lc_nil, $ls,*])
theorem r_is_whole (p : PyData) : f_is_whole.run [.f p] = .ret (.f (.bool (p.isInt && !p.isBool))) [none] := by
  unfold f_is_whole b_is_whole
  cases h : p.isInt
  · simp_arith [ev_run, h]
  · simp_arith [ev_run, h]
theorem fmod_lt (a b : Int) (h : b ≠ 0) : (a.fmod b).natAbs < b.natAbs := by
  rcases Int.lt_or_gt_of_ne h with h | h
  · have h1 := Int.fmod_nonneg_of_pos (-a) (b := -b) (by omega)
    have h2 := Int.fmod_lt_of_pos (-a) (b := -b) (by omega)
    rw [Int.neg_fmod_neg] at h1 h2
    omega
  · have h1 := Int.fmod_nonneg_of_pos a h
    have h2 := Int.fmod_lt_of_pos a h
    omega
def gI (a b : Int) : Int := if h : b = 0 then a else gI b (a.fmod b)
termination_by b.natAbs
decreasing_by exact fmod_lt a b h
theorem gI_zero (a : Int) : gI a 0 = a := by rw [gI]; simp
theorem gI_step (a b : Int) (h : b ≠ 0) : gI a b = gI b (a.fmod b) := by rw [gI, dif_neg h]
theorem gI_gcd : ∀ (n : Nat) (a b : Nat), b = n → gI a b = (Nat.gcd a b : Nat) := by
  intro n
  induction n using Nat.strongRecOn with
  | _ n ih =>
    intro a b hn
    by_cases h : b = 0
    · subst h
      show gI a (0 : Int) = _
      rw [gI_zero, Nat.gcd_zero_right]
    · rw [gI_step _ _ (by omega)]
      have e : (a : Int).fmod (b : Int) = ((a % b : Nat) : Int) := by
        rw [Int.fmod_eq_emod_of_nonneg _ (by omega)]
        rfl
      rw [e, ih (a % b) (by rw [← hn]; exact Nat.mod_lt _ (by omega)) b (a % b) rfl]
      rw [Nat.gcd_comm a b, Nat.gcd_rec b a, Nat.gcd_comm]
theorem gI_pos {u t : Int} (hu : 0 < u) (ht : 0 ≤ t) : 0 < gI u t ∧ gI u t ≤ u := by
  obtain ⟨a, rfl⟩ := Int.eq_ofNat_of_zero_le (Int.le_of_lt hu)
  obtain ⟨b, rfl⟩ := Int.eq_ofNat_of_zero_le ht
  rw [gI_gcd _ a b rfl]
  have h1 : 0 < Nat.gcd a b := Nat.gcd_pos_of_pos_left _ (by omega)
  have h2 : Nat.gcd a b ≤ a := Nat.gcd_le_left _ (by omega)
  omega
theorem w_common : ∀ (n : Nat) (a b : Int), b.natAbs = n → sWhl (bCmp .NotEq (oVar 1) (oCon (.int 0))) b_common_1 [some (.f (.int a)), some (.f (.int b))] = .ok .nx [some (.f (.int (gI a b))), some (.f (.int 0))] := by
  intro n
  induction n using Nat.strongRecOn with
  | _ n ih =>
    intro a b hn
    rw [whl1]
    by_cases h : b = 0
    · subst h
      rw [gI_zero]
      have h0 : ((0 : Int) == 0) = true := rfl
      simp_arith [h0]
    · have hb : (b == 0) = false := by simpa using h
      simp_arith [hb, h, b_common_1]
      rw [← b_common_1, ih _ (by rw [← hn]; exact fmod_lt a b h) _ _ rfl, ← gI_step a b h]
theorem r_common (a b : Int) : f_common.run [.f (.int a), .f (.int b)] = .ret (.f (.int (gI a b))) [none, none] := by
  unfold f_common b_common
  simp_arith [ev_run, w_common _ _ _ rfl]
theorem w_reduced : ∀ (n : Nat) (x y : Option W) (a b : Int), b.natAbs = n → sWhl (bCmp .NotEq (oVar 3) (oCon (.int 0))) b_law_reduced_1 [x, y, some (.f (.int a)), some (.f (.int b))] = .ok .nx [x, y, some (.f (.int (gI a b))), some (.f (.int 0))] := by
  intro n
  induction n using Nat.strongRecOn with
  | _ n ih =>
    intro x y a b hn
    rw [whl1]
    by_cases h : b = 0
    · subst h
      rw [gI_zero]
      simp_arith [b_law_reduced_1]
    · have hb : (b == 0) = false := by simpa using h
      simp_arith [hb, h, b_law_reduced_1]
      rw [← b_law_reduced_1, ih _ (by rw [← hn]; exact fmod_lt a b h) _ _ _ _ rfl, ← gI_step a b h]
/-- a fraction as data -/
def fr (p q : Int) : PyData := .tuple [.int p, .int q]
def low (t u : Int) : PyData := fr (t.fdiv (gI u t)) (u.fdiv (gI u t))
theorem log_le {i j : Int} (h0 : 0 ≤ i) (h : i ≤ j) : log2i i ≤ log2i j := by
  unfold log2i
  by_cases hi : i.natAbs = 0
  · rw [hi]; simp
  · have hj : i.natAbs ≤ j.natAbs := by omega
    exact (Nat.le_log2 (by omega)).mpr (Nat.le_trans (Nat.log2_self_le hi) hj)
theorem log_lt {i : Int} {k : Nat} (h0 : 0 ≤ i) (h : i < 2 ^ k) (hk : 0 < k) : log2i i < k := by
  unfold log2i
  by_cases hi : i.natAbs = 0
  · rw [hi]; simpa using hk
  · refine (Nat.log2_lt hi).mpr ?_
    have : (i.natAbs : Int) < ((2 ^ k : Nat) : Int) := by push_cast; omega
    exact_mod_cast this
theorem r_reduced {t u : Int} (hu : 0 < u) (ht : 0 ≤ t) (hs : log2i u < 9000) : f_law_reduced.run [.f (.int t), .f (.int u)] = .ret (.f (low t u)) [none, none] := by
  unfold f_law_reduced b_law_reduced
  obtain ⟨g1, g2⟩ := gI_pos hu ht
  have n0 : ¬ (gI u t = 0) := by omega
  have lg : log2i (gI u t) < 9000 := Nat.lt_of_le_of_lt (log_le (by omega) g2) hs
  simp_arith [ev_run, w_reduced _ _ _ _ _ rfl, n0, lg, low, fr]
theorem r_lowest {t u : Int} (hu : 0 < u) (ht : 0 ≤ t) (hs : log2i u < 9000) : f_lowest.run [.f (.int t), .f (.int u)] = .ret (.f (low t u)) [none, none] := by
  unfold f_lowest b_lowest
  obtain ⟨g1, g2⟩ := gI_pos hu ht
  have n0 : ¬ (gI u t = 0) := by omega
  have lg : log2i (gI u t) < 9000 := Nat.lt_of_le_of_lt (log_le (by omega) g2) hs
  simp_arith [ev_run, io_common, r_common, n0, lg, low, fr]
/-- a fraction from 0 to 1 in lowest terms -/
structure Fr (p q : Int) : Prop where
  h0 : 0 ≤ p
  h1 : p ≤ q
  h2 : 0 < q
  h3 : Int.gcd p q = 1
theorem low_is {t u p q : Int} (hu : 0 < u) (ht : 0 ≤ t) (hp : 0 ≤ p) (hq : 0 < q) (g : Int.gcd p q = 1) (e : t * q = p * u) : t.fdiv (gI u t) = p ∧ u.fdiv (gI u t) = q := by
  obtain ⟨a, rfl⟩ := Int.eq_ofNat_of_zero_le (Int.le_of_lt hu)
  obtain ⟨b, rfl⟩ := Int.eq_ofNat_of_zero_le ht
  obtain ⟨p, rfl⟩ := Int.eq_ofNat_of_zero_le hp
  obtain ⟨q, rfl⟩ := Int.eq_ofNat_of_zero_le (Int.le_of_lt hq)
  rw [gI_gcd _ a b rfl, Int.fdiv_eq_ediv_of_nonneg _ (by omega), Int.fdiv_eq_ediv_of_nonneg _ (by omega)]
  have g : Nat.gcd p q = 1 := g
  have e : b * q = p * a := by exact_mod_cast e
  have ha : 0 < a := by omega
  have hq : 0 < q := by omega
  have hg : 0 < Nat.gcd a b := Nat.gcd_pos_of_pos_left _ ha
  obtain ⟨a', ha'⟩ := Nat.gcd_dvd_left a b
  obtain ⟨b', hb'⟩ := Nat.gcd_dvd_right a b
  have co : Nat.Coprime a' b' := by
    have := Nat.gcd_mul_left (Nat.gcd a b) a' b'
    rw [← ha', ← hb'] at this
    exact Nat.eq_of_mul_eq_mul_left hg (by rw [← this, Nat.mul_one])
  have e2 : b' * q = p * a' := by
    refine Nat.eq_of_mul_eq_mul_left hg ?_
    rw [← Nat.mul_assoc, ← hb', e, Nat.mul_left_comm, ← ha']
  have d1 : a' ∣ q := co.dvd_of_dvd_mul_left (by rw [e2]; exact Nat.dvd_mul_left _ _)
  have d2 : q ∣ a' := (Nat.Coprime.symm g).dvd_of_dvd_mul_left (by rw [← e2]; exact Nat.dvd_mul_left _ _)
  have e3 : a' = q := Nat.dvd_antisymm d1 d2
  have ha0 : 0 < a' := by rw [e3]; exact hq
  have e4 : b' = p := by
    rw [e3] at e2
    exact Nat.eq_of_mul_eq_mul_right hq e2
  have k1 : b / Nat.gcd a b = b' := by
    conv => lhs; lhs; rw [hb']
    exact Nat.mul_div_cancel_left _ hg
  have k2 : a / Nat.gcd a b = a' := by
    conv => lhs; lhs; rw [ha']
    exact Nat.mul_div_cancel_left _ hg
  refine ⟨?_, ?_⟩
  · show ((b / Nat.gcd a b : Nat) : Int) = _
    rw [k1, e4]
  · show ((a / Nat.gcd a b : Nat) : Int) = _
    rw [k2, e3]
theorem low_eq {t u p q : Int} (hu : 0 < u) (ht : 0 ≤ t) (hp : 0 ≤ p) (hq : 0 < q) (g : Int.gcd p q = 1) (e : t * q = p * u) : low t u = fr p q := by
  obtain ⟨h1, h2⟩ := low_is hu ht hp hq g e
  unfold low
  rw [h1, h2]
theorem low_fr {t u : Int} (hu : 0 < u) (ht : 0 ≤ t) (hl : t ≤ u) : ∃ p q, low t u = fr p q ∧ Fr p q ∧ t * q = p * u ∧ q ≤ u ∧ q ∣ u := by
  obtain ⟨g1, g2⟩ := gI_pos hu ht
  refine ⟨_, _, rfl, ?_⟩
  obtain ⟨a, rfl⟩ := Int.eq_ofNat_of_zero_le (Int.le_of_lt hu)
  obtain ⟨b, rfl⟩ := Int.eq_ofNat_of_zero_le ht
  rw [gI_gcd _ a b rfl] at g1 g2 ⊢
  rw [Int.fdiv_eq_ediv_of_nonneg _ (by omega), Int.fdiv_eq_ediv_of_nonneg _ (by omega)]
  have hg : 0 < Nat.gcd a b := by omega
  obtain ⟨a', ha'⟩ := Nat.gcd_dvd_left a b
  obtain ⟨b', hb'⟩ := Nat.gcd_dvd_right a b
  have k1 : b / Nat.gcd a b = b' := by
    conv => lhs; lhs; rw [hb']
    exact Nat.mul_div_cancel_left _ hg
  have k2 : a / Nat.gcd a b = a' := by
    conv => lhs; lhs; rw [ha']
    exact Nat.mul_div_cancel_left _ hg
  have q1 : (b : Int) / ((Nat.gcd a b : Nat) : Int) = (b' : Int) := by
    show ((b / Nat.gcd a b : Nat) : Int) = _
    rw [k1]
  have q2 : (a : Int) / ((Nat.gcd a b : Nat) : Int) = (a' : Int) := by
    show ((a / Nat.gcd a b : Nat) : Int) = _
    rw [k2]
  rw [q1, q2]
  have co : Nat.Coprime a' b' := by
    have := Nat.gcd_mul_left (Nat.gcd a b) a' b'
    rw [← ha', ← hb'] at this
    exact Nat.eq_of_mul_eq_mul_left hg (by rw [← this, Nat.mul_one])
  have hab : b' ≤ a' := by
    refine Nat.le_of_mul_le_mul_left ?_ hg
    rw [← ha', ← hb']
    omega
  have ha0 : 0 < a' := by
    rcases Nat.eq_zero_or_pos a' with z | z
    · rw [z, Nat.mul_zero] at ha'
      omega
    · exact z
  refine ⟨⟨by omega, by omega, by omega, ?_⟩, ?_, ?_, ?_⟩
  · show Nat.gcd b' a' = 1
    rw [Nat.gcd_comm]
    exact co
  · have : b * a' = b' * a := by
      conv => lhs; lhs; rw [hb']
      conv => rhs; rhs; rw [ha']
      rw [Nat.mul_comm (Nat.gcd a b) b', Nat.mul_assoc]
    exact_mod_cast this
  · have : a' ≤ a := by
      conv => rhs; rw [ha']
      exact Nat.le_mul_of_pos_left _ hg
    omega
  · exact ⟨((Nat.gcd a b : Nat) : Int), by rw [Int.mul_comm]; exact_mod_cast ha'⟩
end Y

namespace Y
open PySem Z
local macro_rules | `(tactic| simp_arith [$ls,*]) => `(tactic| simp only [List.getD_cons_succ, List.getD_cons_zero, b_sum, b_any, b_all, in_cons, in_nil, bl_cons, bl_nil, uw_cons, uw_nil, wp_cons, wp_nil, fz_cons, fz_nil, ev_vLc, k1_vLc, lc0_ok, lc1_some, lc2, lc3, ev_vCon, ev_oCon, ev_dCon, ev_sNil, ev_sBrk, ev_sCnt, ev_sRetN, ev_dsNil, ev_osNil, ev_kvNil, ev_pNo, ev_vDct0, ev_bYes, ev_frz_some, ev_oVar, pk_some, ev_vFrz, pf_some, ev_vMove, pm_some, k1_dOf, ev_dOf, k1_oOf, ev_oOf, k1_vB, ev_vB, k2_vBin, k1_vBin, ev_vBin, k2_bCmp, k1_bCmp, ev_bCmp, k2_vIdx, k1_vIdx, ev_vIdx, k1_vRev, ev_vRev, k1_bNot, ev_bNot, k1_bTru, ev_bTru, k1_vIsi, ev_vIsi, k1_vBi, ev_vBi, k2_dsCons, k1_dsCons, ev_dsCons, k2_osCons, k1_osCons, ev_osCons, k3_kvCons, k2_kvCons, k1_kvCons, ev_kvCons, k1_vTup, ev_vTup, k1_vLst, ev_vLst, k1_vDct, ev_vDct, k3_vSlc, k2_vSlc, k1_vSlc, ev_vSlc, k1_pI, pIv_int, ev_pI, k1_vNeg, ngv_int, ev_vNeg, k1_bOf, bov_bool, ev_bOf, k1_bAnd, ev_bAnd, k1_bOr, ev_bOr, k1_vIf, ev_vIf, k1_sIf, ev_sIf, chv_t, chv_f, k2_bChn, k1_bChn, ev_bChn, sq_nx, sq_brk, sq_ct, sq_ret, ev_sSeq, k1_sSet, ev_sSet, k1_sEx, ev_sEx, k1_sRet, ev_sRet, bdv_some, k1_sBnd, ev_sBnd, ev_gSet, ev_gTupT, ev_gTupL, ev_gAll0, ev_gAll1, parv_2, k1_sPar, ev_sPar, wh_t, wh_f, wh_nx, wh_brk, wh_ret, fo_nx, fo_ct, fo_brk, fo_ret, fov_some, for_nil, k1_sFor, ev_sFor, iov_0, iov_1, iov_2, iov_3, k1_iOf, ev_iOf, r1_int, ev_iR1, r2_int, ev_iR2, en_l, ev_iEn, zp_l, zp_t, ev_iZp, ev_iVals, iva_d, ev_iItems, iit_d, k1_vIsiT, ev_vIsiT, k2_vMe, k1_vMe, ev_vMe, any_s, List.any_cons, List.any_nil, cl_ret, cl_exc, cl_some, k1_call, ev_mCall, k1_callP, ev_mCallP, clq_some, clp_b, clp_i, clp_s, clp_n, tk_nil, tk_lent, tkl_some, tk_frz, tkf_some, tk_dat, bk_lent, bk_f, bk_d, bk_nil, mk_nil, mk_cons, out_nx, out_ret, out_exc, ev_run, ev_io, put3_some, put2_some, k2_put, put1_some, k1_put, ev_sPut, app2_l, k1_app, app1_l, ev_vApp, vc1_l, ev_vClr, ve1_l, ve2_l, kx_l, ev_vExt, i3Add_int, i2Add, i1Add_int, ev_sAdd, i3Sub_int, i2Sub, i1Sub_int, ev_sSub, lk_inl, lk_inr, lks_nil, lks_cons, bind_ok, bind_exc, bind_bad, of_some, of_none, peek_nil, peek_zero, peek_zero', peek_succ, fz_f, fz_l, fz_d, bin_add, bin_sub, bin_mul, bin_fdiv, bin_mod, bin_pow, bin_adds, bin_addt, bin_addl, cmp_eq, cmp_ne, cmp_in, cmp_nin, cmp_lt, cmp_le, cmp_gt, cmp_ge, cmp_is, cmp_isn, isD_int, isD_bool, isD_str, isD_list, isD_tuple, isD_dict, tru_int, tru_bool, tru_none, tru_list, tru_tuple, item_l, item_t, put_l, eqD_int, eqD_bool, eqD_str, bind_some, map_some, bLen, bTup, bMax2, bMin2, bAbs, bInt, List.getElem?_cons_zero, List.getElem?_cons_succ, List.set_cons_zero, List.set_cons_succ, List.length_cons, List.length_nil, List.length_set, List.replicate_succ, List.replicate_zero, List.map_cons, List.map_nil, List.cons_append, List.nil_append, Option.map_some, Option.map_none, Option.bind_some, Option.bind_none, if_true, if_false, Bool.not_true, Bool.not_false, Bool.false_eq_true, Bool.true_eq_false, reduceIte, Nat.reduceAdd, Nat.reduceSub, Nat.reduceLT, Nat.reduceLeDiff, Nat.reduceEqDiff, decide_true, decide_false, Int.reduceNeg, ne_eq, not_true_eq_false, not_false_eq_true, Nat.zero_lt_succ, Nat.lt_add_one, and_self, and_true, true_and, Bool.true_and, Bool.false_and, Bool.and_true, Bool.or_true, Bool.or_false, Bool.true_or, Bool.false_or, sizeOk_small, Int.cast_ofNat_Int, Int.reduceBEq, Int.reduceLT, Int.reduceLE, Int.reduceEq, lt_line, Option.getD_some, BEq.rfl, List.all_cons, List.all_nil, List.any_cons, List.any_nil, id_eq, Y.tyn_l, Y.tyn_s, Y.tyn_d, Y.in_ll, Y.in_tl, Y.jk_peek, dc_nil, dc_cons, dc1_some, dc2, dc2b, dc3, dc0_ok, k1_vDc, ev_vDc, ev_vSd, sd1_d, k1_sd, sd2_d, sd3_s, sd3_n, ev_vDp, dp1_d, k1_vDp, dp2_d, dp3_s, k1_vLr, ev_vLr, lrv_i, k1_vItL, ev_vItL, itv_d, lc_cons, lc_nil, $ls,*])
def num (b : Int) (ds : List Int) : Int := ds.foldl (fun n d => n * b + d) 0
def Dg (b : Int) (ds : List Int) : Prop := ∀ d ∈ ds, 0 ≤ d ∧ d < b
theorem Dg.app {b : Int} {ds es : List Int} (h : Dg b ds) (h' : Dg b es) : Dg b (ds ++ es) := fun d hd => (List.mem_append.mp hd).elim (h d) (h' d)
theorem num_snoc (b : Int) (ds : List Int) (d : Int) : num b (ds ++ [d]) = num b ds * b + d := by simp [num, List.foldl_append]
theorem num_acc {b : Int} (hb : 0 < b) : ∀ {ds : List Int} (n : Int) (k : Nat), Dg b ds → 0 ≤ n → n < b ^ k → 0 ≤ ds.foldl (fun n d => n * b + d) n ∧ ds.foldl (fun n d => n * b + d) n < b ^ (k + ds.length)
  | [], n, k, _, h0, h1 => ⟨h0, h1⟩
  | d :: ds, n, k, h, h0, h1 => by
    have hd := h d (by simp)
    have e1 : 0 ≤ n * b + d := Int.add_nonneg (Int.mul_nonneg h0 (by omega)) hd.1
    have e2 : n * b + d < b ^ (k + 1) := by
      have : (n + 1) * b ≤ b ^ k * b := Int.mul_le_mul_of_nonneg_right (by omega) (by omega)
      rw [Int.pow_succ]
      rw [Int.add_mul] at this
      omega
    have := num_acc hb (ds := ds) (n * b + d) (k + 1) (fun x hx => h x (by simp [hx])) e1 e2
    rw [List.foldl_cons, List.length_cons]
    rw [show k + (ds.length + 1) = k + 1 + ds.length by omega]
    exact this
theorem num_range {b : Int} (hb : 0 < b) {ds : List Int} (h : Dg b ds) : 0 ≤ num b ds ∧ num b ds < b ^ ds.length := by
  have := num_acc hb (ds := ds) 0 0 h (Int.le_refl _) (by simp)
  unfold num
  simpa using this
theorem pow_le16 {b : Int} (h0 : 0 ≤ b) (h : b ≤ 16) (k : Nat) : b ^ k ≤ 2 ^ (4 * k) := by
  induction k with
  | zero => simp
  | succ k ih =>
    rw [Int.pow_succ, show 4 * (k + 1) = 4 * k + 4 by omega, Int.pow_add]
    have h1 : (0 : Int) ≤ 2 ^ (4 * k) := Int.le_of_lt (Int.pow_pos (by decide))
    calc b ^ k * b ≤ 2 ^ (4 * k) * b := Int.mul_le_mul_of_nonneg_right ih h0
      _ ≤ 2 ^ (4 * k) * 2 ^ 4 := Int.mul_le_mul_of_nonneg_left (by omega) h1
theorem log_pow {b n : Int} (hb : 0 ≤ b) (h : b ≤ 10) (k : Nat) (h0 : 0 ≤ n) (h1 : n ≤ b ^ k) : log2i n < 4 * k + 1 := by
  refine log_lt h0 ?_ (by omega)
  have := pow_le16 hb (by omega) k
  rw [Int.pow_succ]
  have h2 : (0 : Int) < 2 ^ (4 * k) := Int.pow_pos (by decide)
  omega
theorem log_one {b : Int} (hb : 0 ≤ b) (h : b ≤ 10) : log2i b < 5 := log_pow hb h 1 hb (by rw [Int.pow_succ, Int.pow_zero, Int.one_mul]; exact Int.le_refl _)
def Sq (p : PyData) (l : List PyData) : Prop := p = .tuple l ∨ p = .list l
theorem w_number {b : Int} (hb : 0 < b) (hb2 : b ≤ 10) : ∀ (ds : List Int) (n : Int) (k : Nat) (x y : Option W), Dg b ds → 0 ≤ n → n < b ^ k → k + ds.length ≤ 200000 →
    ∃ y', sForG (gSet 3) b_number_by_1 (ds.map .int) [some (.f (.int b)), x, some (.f (.int n)), y] = .ok .nx [some (.f (.int b)), x, some (.f (.int (ds.foldl (fun n d => n * b + d) n))), y']
  | [], n, k, x, y, _, _, _, _ => ⟨y, by simp only [List.map_nil, for_nil, List.foldl_nil]⟩
  | d :: ds, n, k, x, y, h, h0, h1, hk => by
    have hd := h d (by simp)
    have e1 : 0 ≤ n * b + d := Int.add_nonneg (Int.mul_nonneg h0 (by omega)) hd.1
    have e2 : n * b + d < b ^ (k + 1) := by
      have : (n + 1) * b ≤ b ^ k * b := Int.mul_le_mul_of_nonneg_right (by omega) (by omega)
      rw [Int.pow_succ]
      rw [Int.add_mul] at this
      omega
    rw [List.length_cons] at hk
    obtain ⟨y', q⟩ := w_number hb hb2 ds (n * b + d) (k + 1) x (some (.f (.int d))) (fun z hz => h z (by simp [hz])) e1 e2 (by omega)
    refine ⟨y', ?_⟩
    have l1 : log2i n + log2i b < 1000000 := by
      have := log_pow (by omega) hb2 k h0 (Int.le_of_lt h1)
      have := log_one (by omega) hb2
      omega
    rw [List.map_cons, for_cons]
    unfold b_number_by_1 at q ⊢
    simp_arith [l1, q, List.foldl_cons]
theorem r_number_by {b : Int} (hb : 0 < b) (hb2 : b ≤ 10) {ds : List Int} (h : Dg b ds) (hl : ds.length ≤ 200000) {p : PyData} (hp : Sq p (ds.map .int)) : f_number_by.run [.f (.int b), .f p] = .ret (.f (.int (num b ds))) [none, none] := by
  obtain ⟨y', q⟩ := w_number hb hb2 ds 0 0 (some (.f p)) none h (by decide) (by simp) (by omega)
  unfold f_number_by b_number_by
  rcases hp with rfl | rfl <;> simp_arith [ev_run, q, num]
theorem w_number2 {b : Int} (hb : 0 < b) (hb2 : b ≤ 10) : ∀ (ds : List Int) (n : Int) (k : Nat) (x y : Option W), Dg b ds → 0 ≤ n → n < b ^ k → k + ds.length ≤ 200000 →
    ∃ y', sForG (gSet 3) b_law_number_1 (ds.map .int) [some (.f (.int b)), x, some (.f (.int n)), y] = .ok .nx [some (.f (.int b)), x, some (.f (.int (ds.foldl (fun n d => n * b + d) n))), y'] := w_number hb hb2
theorem r_law_number {b : Int} (hb : 0 < b) (hb2 : b ≤ 10) {ds : List Int} (h : Dg b ds) (hl : ds.length ≤ 200000) {p : PyData} (hp : Sq p (ds.map .int)) : f_law_number.run [.f (.int b), .f p] = .ret (.f (.int (num b ds))) [none, none] := by
  obtain ⟨y', q⟩ := w_number2 hb hb2 ds 0 0 (some (.f p)) none h (by decide) (by simp) (by omega)
  unfold f_law_number b_law_number
  rcases hp with rfl | rfl <;> simp_arith [ev_run, q, num]
theorem w_power {b : Int} (hb : 0 < b) (hb2 : b ≤ 10) : ∀ (m : Nat) (lo : Int) (k : Nat) (x y : Option W), k + m ≤ 200000 →
    ∃ y', sForG (gSet 3) b_power_1 (rangeD lo m) [some (.f (.int b)), x, some (.f (.int (b ^ k))), y] = .ok .nx [some (.f (.int b)), x, some (.f (.int (b ^ (k + m)))), y']
  | 0, lo, k, x, y, _ => ⟨y, by simp only [rangeD, for_nil, Nat.add_zero]⟩
  | m + 1, lo, k, x, y, hk => by
    obtain ⟨y', q⟩ := w_power hb hb2 m (lo + 1) (k + 1) x (some (.f (.int lo))) (by omega)
    refine ⟨y', ?_⟩
    have h0 : 0 ≤ b ^ k := Int.le_of_lt (Int.pow_pos hb)
    have l1 : log2i (b ^ k) + log2i b < 1000000 := by
      have := log_pow (by omega) hb2 k h0 (Int.le_refl _)
      have := log_one (by omega) hb2
      omega
    rw [rangeD, for_cons]
    unfold b_power_1 at q ⊢
    rw [Int.pow_succ] at q
    simp_arith [l1, q]
    rw [show k + 1 + m = k + (m + 1) by omega]
theorem small_nat {n : Nat} (h : n ≤ 1000000000) : small62 (n : Int) = true := by
  refine Nat.ble_eq_true_of_le ?_
  omega
end Y

namespace Y
open PySem Z
local macro_rules | `(tactic| simp_arith [$ls,*]) => `(tactic| simp only [List.getD_cons_succ, List.getD_cons_zero, b_sum, b_any, b_all, in_cons, in_nil, bl_cons, bl_nil, uw_cons, uw_nil, wp_cons, wp_nil, fz_cons, fz_nil, ev_vLc, k1_vLc, lc0_ok, lc1_some, lc2, lc3, ev_vCon, ev_oCon, ev_dCon, ev_sNil, ev_sBrk, ev_sCnt, ev_sRetN, ev_dsNil, ev_osNil, ev_kvNil, ev_pNo, ev_vDct0, ev_bYes, ev_frz_some, ev_oVar, pk_some, ev_vFrz, pf_some, ev_vMove, pm_some, k1_dOf, ev_dOf, k1_oOf, ev_oOf, k1_vB, ev_vB, k2_vBin, k1_vBin, ev_vBin, k2_bCmp, k1_bCmp, ev_bCmp, k2_vIdx, k1_vIdx, ev_vIdx, k1_vRev, ev_vRev, k1_bNot, ev_bNot, k1_bTru, ev_bTru, k1_vIsi, ev_vIsi, k1_vBi, ev_vBi, k2_dsCons, k1_dsCons, ev_dsCons, k2_osCons, k1_osCons, ev_osCons, k3_kvCons, k2_kvCons, k1_kvCons, ev_kvCons, k1_vTup, ev_vTup, k1_vLst, ev_vLst, k1_vDct, ev_vDct, k3_vSlc, k2_vSlc, k1_vSlc, ev_vSlc, k1_pI, pIv_int, ev_pI, k1_vNeg, ngv_int, ev_vNeg, k1_bOf, bov_bool, ev_bOf, k1_bAnd, ev_bAnd, k1_bOr, ev_bOr, k1_vIf, ev_vIf, k1_sIf, ev_sIf, chv_t, chv_f, k2_bChn, k1_bChn, ev_bChn, sq_nx, sq_brk, sq_ct, sq_ret, ev_sSeq, k1_sSet, ev_sSet, k1_sEx, ev_sEx, k1_sRet, ev_sRet, bdv_some, k1_sBnd, ev_sBnd, ev_gSet, ev_gTupT, ev_gTupL, ev_gAll0, ev_gAll1, parv_2, k1_sPar, ev_sPar, wh_t, wh_f, wh_nx, wh_brk, wh_ret, fo_nx, fo_ct, fo_brk, fo_ret, fov_some, for_nil, k1_sFor, ev_sFor, iov_0, iov_1, iov_2, iov_3, k1_iOf, ev_iOf, r1_int, ev_iR1, r2_int, ev_iR2, en_l, ev_iEn, zp_l, zp_t, ev_iZp, ev_iVals, iva_d, ev_iItems, iit_d, k1_vIsiT, ev_vIsiT, k2_vMe, k1_vMe, ev_vMe, any_s, List.any_cons, List.any_nil, cl_ret, cl_exc, cl_some, k1_call, ev_mCall, k1_callP, ev_mCallP, clq_some, clp_b, clp_i, clp_s, clp_n, tk_nil, tk_lent, tkl_some, tk_frz, tkf_some, tk_dat, bk_lent, bk_f, bk_d, bk_nil, mk_nil, mk_cons, out_nx, out_ret, out_exc, ev_run, ev_io, put3_some, put2_some, k2_put, put1_some, k1_put, ev_sPut, app2_l, k1_app, app1_l, ev_vApp, vc1_l, ev_vClr, ve1_l, ve2_l, kx_l, ev_vExt, i3Add_int, i2Add, i1Add_int, ev_sAdd, i3Sub_int, i2Sub, i1Sub_int, ev_sSub, lk_inl, lk_inr, lks_nil, lks_cons, bind_ok, bind_exc, bind_bad, of_some, of_none, peek_nil, peek_zero, peek_zero', peek_succ, fz_f, fz_l, fz_d, bin_add, bin_sub, bin_mul, bin_fdiv, bin_mod, bin_pow, bin_adds, bin_addt, bin_addl, cmp_eq, cmp_ne, cmp_in, cmp_nin, cmp_lt, cmp_le, cmp_gt, cmp_ge, cmp_is, cmp_isn, isD_int, isD_bool, isD_str, isD_list, isD_tuple, isD_dict, tru_int, tru_bool, tru_none, tru_list, tru_tuple, item_l, item_t, put_l, eqD_int, eqD_bool, eqD_str, bind_some, map_some, bLen, bTup, bMax2, bMin2, bAbs, bInt, List.getElem?_cons_zero, List.getElem?_cons_succ, List.set_cons_zero, List.set_cons_succ, List.length_cons, List.length_nil, List.length_set, List.replicate_succ, List.replicate_zero, List.map_cons, List.map_nil, List.cons_append, List.nil_append, Option.map_some, Option.map_none, Option.bind_some, Option.bind_none, if_true, if_false, Bool.not_true, Bool.not_false, Bool.false_eq_true, Bool.true_eq_false, reduceIte, Nat.reduceAdd, Nat.reduceSub, Nat.reduceLT, Nat.reduceLeDiff, Nat.reduceEqDiff, decide_true, decide_false, Int.reduceNeg, ne_eq, not_true_eq_false, not_false_eq_true, Nat.zero_lt_succ, Nat.lt_add_one, and_self, and_true, true_and, Bool.true_and, Bool.false_and, Bool.and_true, Bool.or_true, Bool.or_false, Bool.true_or, Bool.false_or, sizeOk_small, Int.cast_ofNat_Int, Int.reduceBEq, Int.reduceLT, Int.reduceLE, Int.reduceEq, lt_line, Option.getD_some, BEq.rfl, List.all_cons, List.all_nil, List.any_cons, List.any_nil, id_eq, Y.tyn_l, Y.tyn_s, Y.tyn_d, Y.in_ll, Y.in_tl, Y.jk_peek, dc_nil, dc_cons, dc1_some, dc2, dc2b, dc3, dc0_ok, k1_vDc, ev_vDc, ev_vSd, sd1_d, k1_sd, sd2_d, sd3_s, sd3_n, ev_vDp, dp1_d, k1_vDp, dp2_d, dp3_s, k1_vLr, ev_vLr, lrv_i, k1_vItL, ev_vItL, itv_d, lc_cons, lc_nil, $ls,*])
theorem r_power {b : Int} (hb : 0 < b) (hb2 : b ≤ 10) {m : Nat} (hm : m ≤ 200000) : f_power.run [.f (.int b), .f (.int (m : Int))] = .ret (.f (.int (b ^ m))) [none, none] := by
  obtain ⟨y', q⟩ := w_power hb hb2 m 0 0 (some (.f (.int (m : Int)))) none (by omega)
  unfold f_power b_power
  rw [Int.pow_zero, Nat.zero_add] at q
  simp_arith [ev_run, small_nat (n := m) (by omega), Int.toNat_natCast, q]
/-- a writing's numbers -/
def topW (b : Int) (s r : List Int) : Int := num b s * (b ^ r.length - 1) + num b r
def undW (b : Int) (s r : List Int) : Int := b ^ s.length * (b ^ r.length - 1)
theorem pow1_pos {b : Int} (hb : 1 < b) {n : Nat} (hn : 0 < n) : 0 < b ^ n - 1 := by
  obtain ⟨m, rfl⟩ : ∃ m, n = m + 1 := ⟨n - 1, by omega⟩
  have h1 : 0 < b ^ m := Int.pow_pos (by omega)
  have h2 : 1 * 2 ≤ b ^ m * b := Int.mul_le_mul (by omega) (by omega) (by omega) (by omega)
  rw [Int.pow_succ]
  omega
theorem undW_pos {b : Int} (hb : 1 < b) {s r : List Int} (hr : r ≠ []) : 0 < undW b s r := Int.mul_pos (Int.pow_pos (by omega)) (pow1_pos hb (List.length_pos_iff.mpr hr))
theorem topW_range {b : Int} (hb : 1 < b) {s r : List Int} (hs : Dg b s) (hr : Dg b r) (h0 : r ≠ []) : 0 ≤ topW b s r ∧ topW b s r ≤ undW b s r := by
  have a := num_range (by omega) hs
  have c := num_range (by omega) hr
  have h := pow1_pos hb (List.length_pos_iff.mpr h0)
  refine ⟨Int.add_nonneg (Int.mul_nonneg a.1 (by omega)) c.1, ?_⟩
  unfold topW undW
  have : (num b s + 1) * (b ^ r.length - 1) ≤ b ^ s.length * (b ^ r.length - 1) := Int.mul_le_mul_of_nonneg_right (by omega) (by omega)
  rw [Int.add_mul] at this
  omega
theorem undW_log {b : Int} (hb : 1 < b) (hb2 : b ≤ 10) {s r : List Int} (hr : r ≠ []) : log2i (undW b s r) < 4 * (s.length + r.length) + 1 := by
  refine log_pow (by omega) hb2 (s.length + r.length) (Int.le_of_lt (undW_pos hb hr)) ?_
  unfold undW
  rw [Int.pow_add]
  exact Int.mul_le_mul_of_nonneg_left (by omega) (Int.le_of_lt (Int.pow_pos (by omega)))
theorem r_fraction_of {b : Int} (hb : 1 < b) (hb2 : b ≤ 10) {s r : List Int} (hs : Dg b s) (hr : Dg b r) (h0 : r ≠ []) (hl : s.length + r.length ≤ 2200) {p q : PyData} (hp : Sq p (s.map .int)) (hq : Sq q (r.map .int)) :
    f_fraction_of.run [.f (.int b), .f p, .f q] = .ret (.f (low (topW b s r) (undW b s r))) [none, none, none] := by
  have n1 := r_number_by (by omega) hb2 hs (by omega) hp
  have n2 := r_number_by (by omega) hb2 hr (by omega) hq
  have p1 := r_power (b := b) (by omega) hb2 (m := r.length) (by omega)
  have p2 := r_power (b := b) (by omega) hb2 (m := s.length) (by omega)
  obtain ⟨t0, t1⟩ := topW_range hb hs hr h0
  have lw := r_lowest (undW_pos hb h0 (s := s)) t0 (by have := undW_log hb hb2 h0 (s := s); omega)
  unfold topW undW at lw
  have a := num_range (by omega) hs
  have h := pow1_pos hb (List.length_pos_iff.mpr h0)
  have l0 : log2i (b ^ r.length - 1) < 4 * r.length + 1 := log_pow (by omega) hb2 _ (by omega) (by omega)
  have l1 : log2i (num b s) + log2i (b ^ r.length - 1) < 1000000 := by
    have := log_pow (by omega) hb2 s.length a.1 (Int.le_of_lt a.2)
    omega
  have l2 : log2i (b ^ s.length) + log2i (b ^ r.length - 1) < 1000000 := by
    have := log_pow (b := b) (n := b ^ s.length) (by omega) hb2 s.length (Int.le_of_lt (Int.pow_pos (by omega))) (Int.le_refl _)
    omega
  unfold f_fraction_of b_fraction_of topW undW
  rcases hp with rfl | rfl <;> rcases hq with rfl | rfl <;> simp_arith [ev_run, io_power, io_number_by, io_lowest, n1, n2, p1, p2, lw, l1, l2, List.length_map]
end Y

namespace Y
open PySem Z
local macro_rules | `(tactic| simp_arith [$ls,*]) => `(tactic| simp only [List.getD_cons_succ, List.getD_cons_zero, b_sum, b_any, b_all, in_cons, in_nil, bl_cons, bl_nil, uw_cons, uw_nil, wp_cons, wp_nil, fz_cons, fz_nil, ev_vLc, k1_vLc, lc0_ok, lc1_some, lc2, lc3, ev_vCon, ev_oCon, ev_dCon, ev_sNil, ev_sBrk, ev_sCnt, ev_sRetN, ev_dsNil, ev_osNil, ev_kvNil, ev_pNo, ev_vDct0, ev_bYes, ev_frz_some, ev_oVar, pk_some, ev_vFrz, pf_some, ev_vMove, pm_some, k1_dOf, ev_dOf, k1_oOf, ev_oOf, k1_vB, ev_vB, k2_vBin, k1_vBin, ev_vBin, k2_bCmp, k1_bCmp, ev_bCmp, k2_vIdx, k1_vIdx, ev_vIdx, k1_vRev, ev_vRev, k1_bNot, ev_bNot, k1_bTru, ev_bTru, k1_vIsi, ev_vIsi, k1_vBi, ev_vBi, k2_dsCons, k1_dsCons, ev_dsCons, k2_osCons, k1_osCons, ev_osCons, k3_kvCons, k2_kvCons, k1_kvCons, ev_kvCons, k1_vTup, ev_vTup, k1_vLst, ev_vLst, k1_vDct, ev_vDct, k3_vSlc, k2_vSlc, k1_vSlc, ev_vSlc, k1_pI, pIv_int, ev_pI, k1_vNeg, ngv_int, ev_vNeg, k1_bOf, bov_bool, ev_bOf, k1_bAnd, ev_bAnd, k1_bOr, ev_bOr, k1_vIf, ev_vIf, k1_sIf, ev_sIf, chv_t, chv_f, k2_bChn, k1_bChn, ev_bChn, sq_nx, sq_brk, sq_ct, sq_ret, ev_sSeq, k1_sSet, ev_sSet, k1_sEx, ev_sEx, k1_sRet, ev_sRet, bdv_some, k1_sBnd, ev_sBnd, ev_gSet, ev_gTupT, ev_gTupL, ev_gAll0, ev_gAll1, parv_2, k1_sPar, ev_sPar, wh_t, wh_f, wh_nx, wh_brk, wh_ret, fo_nx, fo_ct, fo_brk, fo_ret, fov_some, for_nil, k1_sFor, ev_sFor, iov_0, iov_1, iov_2, iov_3, k1_iOf, ev_iOf, r1_int, ev_iR1, r2_int, ev_iR2, en_l, ev_iEn, zp_l, zp_t, ev_iZp, ev_iVals, iva_d, ev_iItems, iit_d, k1_vIsiT, ev_vIsiT, k2_vMe, k1_vMe, ev_vMe, any_s, List.any_cons, List.any_nil, cl_ret, cl_exc, cl_some, k1_call, ev_mCall, k1_callP, ev_mCallP, clq_some, clp_b, clp_i, clp_s, clp_n, tk_nil, tk_lent, tkl_some, tk_frz, tkf_some, tk_dat, bk_lent, bk_f, bk_d, bk_nil, mk_nil, mk_cons, out_nx, out_ret, out_exc, ev_run, ev_io, put3_some, put2_some, k2_put, put1_some, k1_put, ev_sPut, app2_l, k1_app, app1_l, ev_vApp, vc1_l, ev_vClr, ve1_l, ve2_l, kx_l, ev_vExt, i3Add_int, i2Add, i1Add_int, ev_sAdd, i3Sub_int, i2Sub, i1Sub_int, ev_sSub, lk_inl, lk_inr, lks_nil, lks_cons, bind_ok, bind_exc, bind_bad, of_some, of_none, peek_nil, peek_zero, peek_zero', peek_succ, fz_f, fz_l, fz_d, bin_add, bin_sub, bin_mul, bin_fdiv, bin_mod, bin_pow, bin_adds, bin_addt, bin_addl, cmp_eq, cmp_ne, cmp_in, cmp_nin, cmp_lt, cmp_le, cmp_gt, cmp_ge, cmp_is, cmp_isn, isD_int, isD_bool, isD_str, isD_list, isD_tuple, isD_dict, tru_int, tru_bool, tru_none, tru_list, tru_tuple, item_l, item_t, put_l, eqD_int, eqD_bool, eqD_str, bind_some, map_some, bLen, bTup, bMax2, bMin2, bAbs, bInt, List.getElem?_cons_zero, List.getElem?_cons_succ, List.set_cons_zero, List.set_cons_succ, List.length_cons, List.length_nil, List.length_set, List.replicate_succ, List.replicate_zero, List.map_cons, List.map_nil, List.cons_append, List.nil_append, Option.map_some, Option.map_none, Option.bind_some, Option.bind_none, if_true, if_false, Bool.not_true, Bool.not_false, Bool.false_eq_true, Bool.true_eq_false, reduceIte, Nat.reduceAdd, Nat.reduceSub, Nat.reduceLT, Nat.reduceLeDiff, Nat.reduceEqDiff, decide_true, decide_false, Int.reduceNeg, ne_eq, not_true_eq_false, not_false_eq_true, Nat.zero_lt_succ, Nat.lt_add_one, and_self, and_true, true_and, Bool.true_and, Bool.false_and, Bool.and_true, Bool.or_true, Bool.or_false, Bool.true_or, Bool.false_or, sizeOk_small, Int.cast_ofNat_Int, Int.reduceBEq, Int.reduceLT, Int.reduceLE, Int.reduceEq, lt_line, Option.getD_some, BEq.rfl, List.all_cons, List.all_nil, List.any_cons, List.any_nil, id_eq, Y.tyn_l, Y.tyn_s, Y.tyn_d, Y.in_ll, Y.in_tl, Y.jk_peek, dc_nil, dc_cons, dc1_some, dc2, dc2b, dc3, dc0_ok, k1_vDc, ev_vDc, ev_vSd, sd1_d, k1_sd, sd2_d, sd3_s, sd3_n, ev_vDp, dp1_d, k1_vDp, dp2_d, dp3_s, k1_vLr, ev_vLr, lrv_i, k1_vItL, ev_vItL, itv_d, lc_cons, lc_nil, $ls,*])
/-! ### long division -/
section
variable (b t u : Int)
def rr : Nat → Int
  | 0 => t
  | n + 1 => (rr n * b).fmod u
def dd (n : Nat) : Int := (rr b t u n * b).fdiv u
def dgs (m k : Nat) : List Int := (List.range' m k).map (dd b t u)
end
theorem rr_range {b t u : Int} (h0 : 0 ≤ t) (h1 : t < u) : ∀ n, 0 ≤ rr b t u n ∧ rr b t u n < u
  | 0 => ⟨h0, h1⟩
  | n + 1 => ⟨Int.fmod_nonneg_of_pos _ (by omega), Int.fmod_lt_of_pos _ (by omega)⟩
theorem dd_step (b t u : Int) (n : Nat) : rr b t u n * b = dd b t u n * u + rr b t u (n + 1) := by
  unfold dd
  show _ = _ + (rr b t u n * b).fmod u
  have := Int.mul_fdiv_add_fmod (rr b t u n * b) u
  rw [Int.mul_comm u] at this
  exact this.symm
theorem dd_range {b t u : Int} (hb : 0 < b) (h0 : 0 ≤ t) (h1 : t < u) (n : Nat) : 0 ≤ dd b t u n ∧ dd b t u n < b := by
  obtain ⟨r0, r1⟩ := rr_range (b := b) h0 h1 n
  unfold dd
  rw [Int.fdiv_eq_ediv_of_nonneg _ (by omega)]
  refine ⟨Int.ediv_nonneg (Int.mul_nonneg r0 (by omega)) (by omega), Int.ediv_lt_of_lt_mul (by omega) ?_⟩
  rw [Int.mul_comm b]
  exact Int.mul_lt_mul_of_pos_right r1 hb
theorem dgs_dg {b t u : Int} (hb : 0 < b) (h0 : 0 ≤ t) (h1 : t < u) (m k : Nat) : Dg b (dgs b t u m k) := fun d hd => by
  obtain ⟨i, _, rfl⟩ := List.mem_map.mp hd
  exact dd_range hb h0 h1 i
theorem dgs_len (b t u : Int) (m k : Nat) : (dgs b t u m k).length = k := by simp [dgs]
theorem dgs_succ (b t u : Int) (m k : Nat) : dgs b t u m (k + 1) = dgs b t u m k ++ [dd b t u (m + k)] := by
  unfold dgs
  rw [List.range'_concat, List.map_append, Nat.one_mul]
  rfl
theorem dgs_num (b t u : Int) (m : Nat) : ∀ k, rr b t u m * b ^ k = num b (dgs b t u m k) * u + rr b t u (m + k)
  | 0 => by simp [dgs, num]
  | k + 1 => by
    rw [dgs_succ, num_snoc, Int.pow_succ, ← Int.mul_assoc, dgs_num b t u m k, Int.add_mul, dd_step, Int.add_mul]
    rw [show m + (k + 1) = m + k + 1 by omega]
    rw [Int.mul_right_comm, Int.add_assoc]
/-- the first place where a rest comes again -/
structure Fst (b t u : Int) (N i : Nat) : Prop where
  lt : i < N
  eq : rr b t u i = rr b t u N
  nd : ∀ m n, m < n → n < N → rr b t u m ≠ rr b t u n
theorem Fst.of {b t u : Int} {B : Nat} (h : ∃ m n, m < n ∧ n ≤ B ∧ rr b t u m = rr b t u n) : ∃ N i, Fst b t u N i ∧ N ≤ B := by
  have key : ∀ B, (∃ m n, m < n ∧ n ≤ B ∧ rr b t u m = rr b t u n) → ∃ N i, Fst b t u N i ∧ N ≤ B := by
    intro B
    induction B with
    | zero => rintro ⟨m, n, h1, h2, _⟩; omega
    | succ B ih =>
      intro h
      by_cases h' : ∃ m n, m < n ∧ n ≤ B ∧ rr b t u m = rr b t u n
      · obtain ⟨N, i, f, hl⟩ := ih h'
        exact ⟨N, i, f, by omega⟩
      · obtain ⟨m, n, h1, h2, h3⟩ := h
        have hn : n = B + 1 := by
          rcases Nat.lt_or_ge n (B + 1) with z | z
          · exact absurd ⟨m, n, h1, by omega, h3⟩ h'
          · omega
        refine ⟨n, m, ⟨h1, h3, fun p q hp hq e => h' ⟨p, q, hp, by omega, e⟩⟩, by omega⟩
  exact key B h
/-- pigeons -/
theorem pig : ∀ (U : Nat) (f : Nat → Nat), (∀ n, n ≤ U → f n < U) → ∃ m n, m < n ∧ n ≤ U ∧ f m = f n := by
  intro U f h
  by_cases hd : ((List.range (U + 1)).map f).Nodup
  · exfalso
    have hs : ∀ x ∈ (List.range (U + 1)).map f, x ∈ List.range U := fun x hx => by
      obtain ⟨n, hn, rfl⟩ := List.mem_map.mp hx
      have := List.mem_range.mp hn
      exact List.mem_range.mpr (h n (by omega))
    have := (List.nodup_iff_pairwise_ne.mp hd)
    have key : ∀ (l m : List Nat), l.Nodup → (∀ x ∈ l, x ∈ m) → l.length ≤ m.length := by
      intro l
      induction l with
      | nil => intro m _ _; simp
      | cons x l ih =>
        intro m nd hm
        obtain ⟨n1, n2⟩ := List.nodup_cons.mp nd
        have := ih (m.erase x) n2 fun y hy => (List.mem_erase_of_ne (fun z => n1 (by rw [← z]; exact hy))).mpr (hm y (by simp [hy]))
        rw [List.length_erase_of_mem (hm x (by simp))] at this
        have hp : 0 < m.length := List.length_pos_of_mem (hm x (by simp))
        rw [List.length_cons]
        omega
    have := key _ _ hd hs
    simp at this
    omega
  · rw [List.nodup_iff_pairwise_ne, List.pairwise_map, List.pairwise_iff_getElem] at hd
    simp only [List.length_range, List.getElem_range, Classical.not_forall] at hd
    obtain ⟨i, j, hi, hj, hij, e⟩ := hd
    exact ⟨i, j, hij, by omega, Classical.not_not.mp e⟩
theorem fst_pig {b t u : Int} (h0 : 0 ≤ t) (h1 : t < u) : ∃ N i, Fst b t u N i ∧ (N : Int) ≤ u := by
  obtain ⟨m, n, h2, h3, h4⟩ := pig u.toNat (fun n => (rr b t u n).toNat) fun n _ => by
    have := rr_range (b := b) h0 h1 n
    omega
  obtain ⟨N, i, f, hl⟩ := Fst.of (b := b) (t := t) (u := u) (B := u.toNat) ⟨m, n, h2, h3, by
    have := rr_range (b := b) h0 h1 n
    have := rr_range (b := b) h0 h1 m
    omega⟩
  exact ⟨N, i, f, by omega⟩
theorem dvd_small {a u : Int} (h0 : 0 ≤ a) (h1 : a < u) (h : u ∣ a) : a = 0 := by
  rw [← Int.emod_eq_of_lt h0 h1]
  exact Int.emod_eq_zero_of_dvd h
/-- rests of a fraction to a power of the base come to nothing -/
theorem rr_mod {b t u : Int} (h0 : 0 ≤ t) (h1 : t < u) (n : Nat) : ∃ k, t * b ^ n = k * u + rr b t u n := by
  refine ⟨num b (dgs b t u 0 n), ?_⟩
  have := dgs_num b t u 0 n
  rw [Nat.zero_add] at this
  exact this
theorem rr_zero {b t u : Int} (h0 : 0 ≤ t) (h1 : t < u) {n : Nat} (h : u ∣ t * b ^ n) : rr b t u n = 0 := by
  obtain ⟨k, e⟩ := rr_mod (b := b) h0 h1 n
  obtain ⟨r0, r1⟩ := rr_range (b := b) h0 h1 n
  have : u ∣ rr b t u n := by
    have e2 : rr b t u n = t * b ^ n - k * u := by omega
    rw [e2]
    exact Int.dvd_sub h (Int.dvd_mul_left _ _)
  exact dvd_small r0 r1 this
theorem fst_pow {b t u : Int} (h0 : 0 ≤ t) (h1 : t < u) {n : Nat} (h : u ∣ t * b ^ n) : ∃ N i, Fst b t u N i ∧ N ≤ n + 1 :=
  Fst.of ⟨n, n + 1, by omega, Nat.le_refl _, by
    have : rr b t u (n + 1) = (rr b t u n * b).fmod u := rfl
    rw [this, rr_zero h0 h1 h]
    simp⟩
/-- rests that come again -/
theorem rr_again {b t u : Int} (h0 : 0 ≤ t) (h1 : t < u) {m k : Nat} (h : u ∣ t * b ^ m * (b ^ k - 1)) : rr b t u m = rr b t u (m + k) := by
  obtain ⟨p, e⟩ := rr_mod (b := b) h0 h1 m
  obtain ⟨q, e2⟩ := rr_mod (b := b) h0 h1 (m + k)
  obtain ⟨r0, r1⟩ := rr_range (b := b) h0 h1 m
  obtain ⟨s0, s1⟩ := rr_range (b := b) h0 h1 (m + k)
  obtain ⟨x, hx⟩ := h
  have e3 : rr b t u (m + k) - rr b t u m = u * (x - q + p) := by
    rw [Int.pow_add, ← Int.mul_assoc] at e2
    rw [Int.mul_sub, Int.mul_one] at hx
    rw [Int.mul_add, Int.mul_sub, ← hx, e2, e, Int.mul_comm u q, Int.mul_comm u p]
    omega
  have d : u ∣ rr b t u (m + k) - rr b t u m := ⟨_, e3⟩
  by_cases z : rr b t u (m + k) < rr b t u m
  · have d' : u ∣ rr b t u m - rr b t u (m + k) := by
      have := Int.dvd_neg.mpr d
      rwa [Int.neg_sub] at this
    have := dvd_small (by omega) (by omega) d'
    omega
  · have := dvd_small (by omega) (by omega) d
    omega
theorem fst_again {b t u : Int} (h0 : 0 ≤ t) (h1 : t < u) {m k : Nat} (hk : 0 < k) (h : u ∣ t * b ^ m * (b ^ k - 1)) : ∃ N i, Fst b t u N i ∧ N ≤ m + k :=
  Fst.of ⟨m, m + k, by omega, Nat.le_refl _, rr_again h0 h1 h⟩
/-- what division tells is the fraction -/
theorem fst_val {b t u : Int} (hb : 1 < b) (h0 : 0 ≤ t) (h1 : t < u) {N i : Nat} (f : Fst b t u N i) : topW b (dgs b t u 0 i) (dgs b t u i (N - i)) * u = t * undW b (dgs b t u 0 i) (dgs b t u i (N - i)) := by
  have e1 := dgs_num b t u 0 i
  have e2 := dgs_num b t u i (N - i)
  have hl := f.lt
  rw [Nat.zero_add] at e1
  rw [show i + (N - i) = N by omega, ← f.eq] at e2
  have e0 : rr b t u 0 = t := rfl
  rw [e0] at e1
  unfold topW undW
  rw [dgs_len, dgs_len]
  generalize num b (dgs b t u 0 i) = S at *
  generalize num b (dgs b t u i (N - i)) = R at *
  generalize rr b t u i = r at *
  generalize b ^ i = B at *
  generalize b ^ (N - i) = C at *
  have e3 : r * (C - 1) = R * u := by rw [Int.mul_sub, Int.mul_one]; omega
  calc (S * (C - 1) + R) * u = S * u * (C - 1) + R * u := by rw [Int.add_mul, Int.mul_right_comm]
    _ = (S * u + r) * (C - 1) := by rw [Int.add_mul, e3]
    _ = t * B * (C - 1) := by rw [e1]
    _ = t * (B * (C - 1)) := Int.mul_assoc ..
end Y

namespace Y
open PySem Z
local macro_rules | `(tactic| simp_arith [$ls,*]) => `(tactic| simp only [List.getD_cons_succ, List.getD_cons_zero, b_sum, b_any, b_all, in_cons, in_nil, bl_cons, bl_nil, uw_cons, uw_nil, wp_cons, wp_nil, fz_cons, fz_nil, ev_vLc, k1_vLc, lc0_ok, lc1_some, lc2, lc3, ev_vCon, ev_oCon, ev_dCon, ev_sNil, ev_sBrk, ev_sCnt, ev_sRetN, ev_dsNil, ev_osNil, ev_kvNil, ev_pNo, ev_vDct0, ev_bYes, ev_frz_some, ev_oVar, pk_some, ev_vFrz, pf_some, ev_vMove, pm_some, k1_dOf, ev_dOf, k1_oOf, ev_oOf, k1_vB, ev_vB, k2_vBin, k1_vBin, ev_vBin, k2_bCmp, k1_bCmp, ev_bCmp, k2_vIdx, k1_vIdx, ev_vIdx, k1_vRev, ev_vRev, k1_bNot, ev_bNot, k1_bTru, ev_bTru, k1_vIsi, ev_vIsi, k1_vBi, ev_vBi, k2_dsCons, k1_dsCons, ev_dsCons, k2_osCons, k1_osCons, ev_osCons, k3_kvCons, k2_kvCons, k1_kvCons, ev_kvCons, k1_vTup, ev_vTup, k1_vLst, ev_vLst, k1_vDct, ev_vDct, k3_vSlc, k2_vSlc, k1_vSlc, ev_vSlc, k1_pI, pIv_int, ev_pI, k1_vNeg, ngv_int, ev_vNeg, k1_bOf, bov_bool, ev_bOf, k1_bAnd, ev_bAnd, k1_bOr, ev_bOr, k1_vIf, ev_vIf, k1_sIf, ev_sIf, chv_t, chv_f, k2_bChn, k1_bChn, ev_bChn, sq_nx, sq_brk, sq_ct, sq_ret, ev_sSeq, k1_sSet, ev_sSet, k1_sEx, ev_sEx, k1_sRet, ev_sRet, bdv_some, k1_sBnd, ev_sBnd, ev_gSet, ev_gTupT, ev_gTupL, ev_gAll0, ev_gAll1, parv_2, k1_sPar, ev_sPar, wh_t, wh_f, wh_nx, wh_brk, wh_ret, fo_nx, fo_ct, fo_brk, fo_ret, fov_some, for_nil, k1_sFor, ev_sFor, iov_0, iov_1, iov_2, iov_3, k1_iOf, ev_iOf, r1_int, ev_iR1, r2_int, ev_iR2, en_l, ev_iEn, zp_l, zp_t, ev_iZp, ev_iVals, iva_d, ev_iItems, iit_d, k1_vIsiT, ev_vIsiT, k2_vMe, k1_vMe, ev_vMe, any_s, List.any_cons, List.any_nil, cl_ret, cl_exc, cl_some, k1_call, ev_mCall, k1_callP, ev_mCallP, clq_some, clp_b, clp_i, clp_s, clp_n, tk_nil, tk_lent, tkl_some, tk_frz, tkf_some, tk_dat, bk_lent, bk_f, bk_d, bk_nil, mk_nil, mk_cons, out_nx, out_ret, out_exc, ev_run, ev_io, put3_some, put2_some, k2_put, put1_some, k1_put, ev_sPut, app2_l, k1_app, app1_l, ev_vApp, vc1_l, ev_vClr, ve1_l, ve2_l, kx_l, ev_vExt, i3Add_int, i2Add, i1Add_int, ev_sAdd, i3Sub_int, i2Sub, i1Sub_int, ev_sSub, lk_inl, lk_inr, lks_nil, lks_cons, bind_ok, bind_exc, bind_bad, of_some, of_none, peek_nil, peek_zero, peek_zero', peek_succ, fz_f, fz_l, fz_d, bin_add, bin_sub, bin_mul, bin_fdiv, bin_mod, bin_pow, bin_adds, bin_addt, bin_addl, cmp_eq, cmp_ne, cmp_in, cmp_nin, cmp_lt, cmp_le, cmp_gt, cmp_ge, cmp_is, cmp_isn, isD_int, isD_bool, isD_str, isD_list, isD_tuple, isD_dict, tru_int, tru_bool, tru_none, tru_list, tru_tuple, item_l, item_t, put_l, eqD_int, eqD_bool, eqD_str, bind_some, map_some, bLen, bTup, bMax2, bMin2, bAbs, bInt, List.getElem?_cons_zero, List.getElem?_cons_succ, List.set_cons_zero, List.set_cons_succ, List.length_cons, List.length_nil, List.length_set, List.replicate_succ, List.replicate_zero, List.map_cons, List.map_nil, List.cons_append, List.nil_append, Option.map_some, Option.map_none, Option.bind_some, Option.bind_none, if_true, if_false, Bool.not_true, Bool.not_false, Bool.false_eq_true, Bool.true_eq_false, reduceIte, Nat.reduceAdd, Nat.reduceSub, Nat.reduceLT, Nat.reduceLeDiff, Nat.reduceEqDiff, decide_true, decide_false, Int.reduceNeg, ne_eq, not_true_eq_false, not_false_eq_true, Nat.zero_lt_succ, Nat.lt_add_one, and_self, and_true, true_and, Bool.true_and, Bool.false_and, Bool.and_true, Bool.or_true, Bool.or_false, Bool.true_or, Bool.false_or, sizeOk_small, Int.cast_ofNat_Int, Int.reduceBEq, Int.reduceLT, Int.reduceLE, Int.reduceEq, lt_line, Option.getD_some, BEq.rfl, List.all_cons, List.all_nil, List.any_cons, List.any_nil, id_eq, Y.tyn_l, Y.tyn_s, Y.tyn_d, Y.in_ll, Y.in_tl, Y.jk_peek, dc_nil, dc_cons, dc1_some, dc2, dc2b, dc3, dc0_ok, k1_vDc, ev_vDc, ev_vSd, sd1_d, k1_sd, sd2_d, sd3_s, sd3_n, ev_vDp, dp1_d, k1_vDp, dp2_d, dp3_s, k1_vLr, ev_vLr, lrv_i, k1_vItL, ev_vItL, itv_d, lc_cons, lc_nil, $ls,*])
theorem inD_int (g : β → PyData) (l : List (Int × β)) (k : Int) : inD (.int k) (.dict (tb g l)) = some (ahas l k) := inD_tb (by decide) g l k
theorem item_int (g : β → PyData) (l : List (Int × β)) (k : Int) : item (.dict (tb g l)) (.int k) = (aget l k).map g := item_tb (by decide) g l k
theorem putAt_int (g : β → PyData) (l : List (Int × β)) (hl : l.length < sizeLine) (k : Int) (v : β) : putAt (.dct (tb g l)) (.int k) (g v) = some (.dct (tb g (aput l k v))) := putAt_tb (by decide) g l hl k v
theorem memD_int (k : Int) (l : List Int) : memD (.int k) (l.map .int) = some (decide (k ∈ l)) := memD_enc (α := Int) (by decide) k l
def gN (n : Nat) : PyData := .int n
/-- the dict of rests met -/
def metL (b t u : Int) (k : Nat) : List (Int × Nat) := (List.range k).map fun i => (rr b t u i, i)
theorem metL_succ (b t u : Int) (k : Nat) : metL b t u (k + 1) = metL b t u k ++ [(rr b t u k, k)] := by
  unfold metL
  rw [List.range_succ, List.map_append]
  rfl
theorem metL_keys (b t u : Int) (k : Nat) : (metL b t u k).map (·.1) = (List.range k).map (rr b t u) := by
  unfold metL
  rw [List.map_map]
  rfl
theorem metL_has {b t u : Int} {N i k : Nat} (f : Fst b t u N i) (hk : k ≤ N) : ahas (metL b t u k) (rr b t u k) = decide (k = N) := by
  rw [Bool.eq_iff_iff, ahas_iff, metL_keys, decide_eq_true_iff, List.mem_map]
  constructor
  · rintro ⟨j, hj, e⟩
    have hj := List.mem_range.mp hj
    rcases Nat.lt_or_ge k N with z | z
    · exact absurd e (f.nd j k hj z)
    · omega
  · rintro rfl
    exact ⟨i, List.mem_range.mpr f.lt, f.eq⟩
theorem metL_nodup {b t u : Int} {N i : Nat} (f : Fst b t u N i) : ((metL b t u N).map (·.1)).Nodup := by
  rw [metL_keys, List.nodup_iff_pairwise_ne, List.pairwise_map]
  refine List.pairwise_iff_getElem.mpr fun p q hp hq hpq => ?_
  simp only [List.length_range, List.getElem_range] at hp hq ⊢
  exact f.nd p q hpq hq
theorem metL_get {b t u : Int} {N i : Nat} (f : Fst b t u N i) : aget (metL b t u N) (rr b t u N) = some i := by
  refine aget_mem (metL_nodup f) ?_
  rw [← f.eq]
  exact List.mem_map.mpr ⟨i, List.mem_range.mpr f.lt, rfl⟩
theorem div_logs {b t u : Int} (hb : 0 < b) (hb2 : b ≤ 10) (h0 : 0 ≤ t) (h1 : t < u) (hu : log2i u < 9000) (n : Nat) : log2i (rr b t u n) + log2i b < 1000000 := by
  obtain ⟨r0, r1⟩ := rr_range (b := b) h0 h1 n
  have := log_le r0 (Int.le_of_lt r1)
  have := log_one (by omega) hb2
  omega
theorem w_divided {b t u : Int} (hb : 0 < b) (hb2 : b ≤ 10) (h0 : 0 ≤ t) (h1 : t < u) (hu : log2i u < 9000) {N i : Nat} (f : Fst b t u N i) (hN : N ≤ 100000) : ∀ (n k : Nat) (x4 x1 : Option W), k + n = N →
    sWhl (bCmp .NotIn (oVar 5) (oVar 2)) b_divided_1 [some (.f (.int b)), x1, some (.dct (tb gN (metL b t u k))), some (.lst ((dgs b t u 0 k).map .int)), x4, some (.f (.int (rr b t u k))), some (.f (.int u))] =
      .ok .nx [some (.f (.int b)), x1, some (.dct (tb gN (metL b t u N))), some (.lst ((dgs b t u 0 N).map .int)), x4, some (.f (.int (rr b t u N))), some (.f (.int u))]
  | 0, k, x4, x1, e => by
    obtain rfl : k = N := by omega
    have h := metL_has f (Nat.le_refl _)
    rw [decide_eq_true rfl] at h
    rw [whl1]
    simp_arith [inD_int, h]
  | n + 1, k, x4, x1, e => by
    have h := metL_has f (k := k) (by omega)
    rw [decide_eq_false (by omega)] at h
    have ih := w_divided hb hb2 h0 h1 hu f hN n (k + 1) x4 x1 (by omega)
    have l1 := div_logs hb hb2 h0 h1 hu k
    have u0 : ¬ (u = 0) := by omega
    have kk : ¬ (rr b t u k ∈ (metL b t u k).map (·.1)) := fun z => by
      rw [(ahas_iff _ _).mpr z] at h
      cases h
    have pa : putAt (.dct (tb gN (metL b t u k))) (.int (rr b t u k)) (.int (k : Int)) = some (.dct (tb gN (metL b t u (k + 1)))) := by
      have := putAt_int gN (metL b t u k) (by unfold metL; rw [List.length_map, List.length_range, sizeLine_eq]; omega) (rr b t u k) k
      rw [aput_new _ kk, ← metL_succ] at this
      exact this
    have ln : ((dgs b t u 0 k).map PyData.int).length = k := by rw [List.length_map, dgs_len]
    have d1 : (dgs b t u 0 k).map PyData.int ++ [.int (dd b t u k)] = (dgs b t u 0 (k + 1)).map .int := by
      rw [dgs_succ, List.map_append, Nat.zero_add]
      rfl
    have d0 : (rr b t u k * b).fdiv u = dd b t u k := rfl
    have d2 : (rr b t u k * b).fmod u = rr b t u (k + 1) := rfl
    have lz : k < sizeLine := lt_line (by omega)
    rw [whl1]
    simp_arith [inD_int, h, b_divided_1, ln, pa, l1, u0, hu, lz, d0, d1, d2]
    rw [← b_divided_1]
    exact ih
def ddv (b t u : Int) (i N : Nat) : PyData := .tuple [.tuple ((dgs b t u 0 i).map .int), .tuple ((dgs b t u i (N - i)).map .int)]
theorem dgs_app {b t u : Int} {N i : Nat} (h : i ≤ N) : dgs b t u 0 i ++ dgs b t u i (N - i) = dgs b t u 0 N := by
  unfold dgs
  rw [← List.map_append]
  have := List.range'_append (s := 0) (m := i) (n := N - i) (step := 1)
  rw [Nat.one_mul, Nat.zero_add, show i + (N - i) = N by omega] at this
  rw [this]
theorem dgs_take {b t u : Int} {N i : Nat} (h : i ≤ N) : (dgs b t u 0 N).take i = dgs b t u 0 i := by
  rw [← dgs_app h, List.take_left' (dgs_len ..)]
theorem dgs_drop {b t u : Int} {N i : Nat} (h : i ≤ N) : (dgs b t u 0 N).drop i = dgs b t u i (N - i) := by
  rw [← dgs_app h, List.drop_left' (dgs_len ..)]
theorem cut_dgs1 {b t u : Int} {N i : Nat} (h : i ≤ N) : cut ((dgs b t u 0 N).map PyData.int) none (some (i : Int)) = (dgs b t u 0 i).map .int := by
  rw [cut_0n, List.length_map, dgs_len, Nat.min_eq_left h, ← List.map_take, dgs_take h]
theorem cut_dgs2 {b t u : Int} {N i : Nat} (h : i ≤ N) : cut ((dgs b t u 0 N).map PyData.int) (some (i : Int)) none = (dgs b t u i (N - i)).map .int := by
  rw [cut_n0, List.length_map, dgs_len, Nat.min_eq_left h, ← List.map_drop, dgs_drop h]
theorem r_divided {b t u : Int} (hb : 0 < b) (hb2 : b ≤ 10) (h0 : 0 ≤ t) (h1 : t < u) (hu : log2i u < 9000) {N i : Nat} (f : Fst b t u N i) (hN : N ≤ 100000) : f_divided.run [.f (.int b), .f (fr t u)] = .ret (.f (ddv b t u i N)) [none, none] := by
  have w := w_divided hb hb2 h0 h1 hu f hN N 0 none (some (.f (fr t u))) (by omega)
  have e0 : metL b t u 0 = [] := rfl
  have e1 : dgs b t u 0 0 = [] := rfl
  have e2 : rr b t u 0 = t := rfl
  have e3 : tb gN ([] : List (Int × Nat)) = [] := rfl
  rw [e0, e1, e2, e3, List.map_nil] at w
  have ne : (t == u) = false := by
    rw [beq_eq_false_iff_ne]
    omega
  have it : item (.dict (tb gN (metL b t u N))) (.int (rr b t u N)) = some (.int (i : Int)) := by
    rw [item_int, metL_get f]
    rfl
  have hl := f.lt
  have s1 := sl_l ((dgs b t u 0 N).map PyData.int) none (some (i : Int))
  have s2 := sl_l ((dgs b t u 0 N).map PyData.int) (some (i : Int)) none
  rw [cut_dgs1 (by omega)] at s1
  rw [cut_dgs2 (by omega)] at s2
  unfold f_divided b_divided fr at *
  simp_arith [ev_run, ne, w, it, s1, s2, ddv]
theorem r_divided1 {b : Int} : f_divided.run [.f (.int b), .f (fr 1 1)] = .ret (.f (.tuple [.tuple [], .tuple [.int (b - 1)]])) [none, none] := by
  unfold f_divided b_divided fr
  simp_arith [ev_run, beq_self_eq_true]
theorem w_ldivided {b t u : Int} (hb : 0 < b) (hb2 : b ≤ 10) (h0 : 0 ≤ t) (h1 : t < u) (hu : log2i u < 9000) {N i : Nat} (f : Fst b t u N i) (hN : N ≤ 100000) : ∀ (n k : Nat) (x5 : Option W), k + n = N →
    sWhl (bCmp .NotIn (oVar 1) (oVar 4)) b_law_divided_1 [some (.f (.int b)), some (.f (.int (rr b t u k))), some (.f (.int u)), some (.lst ((dgs b t u 0 k).map .int)), some (.lst (((List.range k).map (rr b t u)).map .int)), x5] =
      .ok .nx [some (.f (.int b)), some (.f (.int (rr b t u N))), some (.f (.int u)), some (.lst ((dgs b t u 0 N).map .int)), some (.lst (((List.range N).map (rr b t u)).map .int)), x5]
  | 0, k, x5, e => by
    obtain rfl : k = N := by omega
    have h := metL_has f (Nat.le_refl _)
    rw [decide_eq_true rfl, ahas_iff, metL_keys] at h
    have h := decide_eq_true h
    rw [whl1]
    simp_arith [in_ll, memD_int, h]
  | n + 1, k, x5, e => by
    have h := metL_has f (k := k) (by omega)
    rw [decide_eq_false (by omega)] at h
    have h : ¬ (rr b t u k ∈ (List.range k).map (rr b t u)) := fun z => by
      rw [← metL_keys, ← ahas_iff, h] at z
      cases z
    have h := decide_eq_false h
    have ih := w_ldivided hb hb2 h0 h1 hu f hN n (k + 1) x5 (by omega)
    have l1 := div_logs hb hb2 h0 h1 hu k
    have u0 : ¬ (u = 0) := by omega
    have ln : ((dgs b t u 0 k).map PyData.int).length = k := by rw [List.length_map, dgs_len]
    have ln2 : (((List.range k).map (rr b t u)).map PyData.int).length = k := by rw [List.length_map, List.length_map, List.length_range]
    have d1 : (dgs b t u 0 k).map PyData.int ++ [.int (dd b t u k)] = (dgs b t u 0 (k + 1)).map .int := by
      rw [dgs_succ, List.map_append, Nat.zero_add]
      rfl
    have d3 : ((List.range k).map (rr b t u)).map PyData.int ++ [.int (rr b t u k)] = ((List.range (k + 1)).map (rr b t u)).map .int := by
      rw [List.range_succ, List.map_append, List.map_append]
      rfl
    have d0 : (rr b t u k * b).fdiv u = dd b t u k := rfl
    have d2 : (rr b t u k * b).fmod u = rr b t u (k + 1) := rfl
    have lz : k < sizeLine := lt_line (by omega)
    rw [whl1]
    simp_arith [in_ll, memD_int, h, b_law_divided_1, ln, ln2, l1, u0, hu, lz, d0, d1, d2, d3]
    rw [← b_law_divided_1]
    exact ih
theorem canLay_ints : ∀ l : List Int, PyData.canLayAll0 (l.map .int) = true
  | [] => rfl
  | x :: l => by simp [PyData.canLayAll0, PyData.canLay0, canLay_ints l]
theorem shaped_ints (l : List Int) : SeqAt.shaped (.list (l.map .int)) = true := by
  unfold SeqAt.shaped
  rw [Bool.and_eq_true]
  refine ⟨by simp [PyData.canLay0, canLay_ints], ?_⟩
  have e : PyData.depthAll (l.map PyData.int) ≤ 0 := depAll_enc (α := Int) l
  have e2 : (PyData.list (l.map PyData.int)).depth ≤ 64 := by
    rw [PyData.depth]
    omega
  exact decide_eq_true e2
theorem idx_ints (l : List Int) (k : Int) {i : Nat} (hi : l[i]? = some k) (hf : ∀ j : Nat, j < i → l[j]? ≠ some k) : bIndex [.list (l.map .int), .int k] = some (.f (.int (i : Int))) := by
  show (if (SeqAt.shaped (.list (l.map .int)) && SeqAt.shaped (.int k)) = true then _ else none) = _
  rw [if_pos (by rw [shaped_ints]; rfl)]
  have : (l.map PyData.int).findIdx? (fun z => z.eqv (.int k)) = some i := by
    obtain ⟨h1, h2⟩ := List.getElem?_eq_some_iff.mp hi
    rw [List.findIdx?_eq_some_iff_getElem]
    refine ⟨by simpa using h1, ?_, fun j hj => ?_⟩
    · rw [List.getElem_map, h2]
      simp [PyData.eqv]
    · rw [List.getElem_map]
      have hj2 : j < l.length := by omega
      have := hf j hj
      rw [List.getElem?_eq_getElem hj2] at this
      simp only [PyData.eqv, beq_iff_eq]
      exact fun z => this (by rw [z])
  rw [this]
  rfl
theorem r_law_divided {b t u : Int} (hb : 0 < b) (hb2 : b ≤ 10) (h0 : 0 ≤ t) (h1 : t < u) (hu : log2i u < 9000) {N i : Nat} (f : Fst b t u N i) (hN : N ≤ 100000) : f_law_divided.run [.f (.int b), .f (.int t), .f (.int u)] = .ret (.f (ddv b t u i N)) [none, none, none] := by
  have w := w_ldivided hb hb2 h0 h1 hu f hN N 0 none (by omega)
  have e1 : dgs b t u 0 0 = [] := rfl
  have e2 : rr b t u 0 = t := rfl
  rw [e1, e2, List.range_zero] at w
  simp only [List.map_nil] at w
  have ne : (t == u) = false := by
    rw [beq_eq_false_iff_ne]
    omega
  have hl := f.lt
  have it : bIndex [.list (((List.range N).map (rr b t u)).map .int), .int (rr b t u N)] = some (.f (.int (i : Int))) := by
    refine idx_ints _ _ ?_ fun j hj z => ?_
    · rw [List.getElem?_map, List.getElem?_range hl, Option.map_some, f.eq]
    · rw [List.getElem?_map, List.getElem?_range (by omega), Option.map_some, ← f.eq] at z
      exact f.nd j i hj hl (Option.some.inj z)
  have s1 := sl_l ((dgs b t u 0 N).map PyData.int) none (some (i : Int))
  have s2 := sl_l ((dgs b t u 0 N).map PyData.int) (some (i : Int)) none
  rw [cut_dgs1 (by omega)] at s1
  rw [cut_dgs2 (by omega)] at s2
  unfold f_law_divided b_law_divided
  simp_arith [ev_run, ne, w, it, s1, s2, ddv]
theorem r_law_divided1 {b : Int} : f_law_divided.run [.f (.int b), .f (.int 1), .f (.int 1)] = .ret (.f (.tuple [.tuple [], .tuple [.int (b - 1)]])) [none, none, none] := by
  unfold f_law_divided b_law_divided
  simp_arith [ev_run, beq_self_eq_true]
end Y

namespace Y
open PySem Z
local macro_rules | `(tactic| simp_arith [$ls,*]) => `(tactic| simp only [List.getD_cons_succ, List.getD_cons_zero, b_sum, b_any, b_all, in_cons, in_nil, bl_cons, bl_nil, uw_cons, uw_nil, wp_cons, wp_nil, fz_cons, fz_nil, ev_vLc, k1_vLc, lc0_ok, lc1_some, lc2, lc3, ev_vCon, ev_oCon, ev_dCon, ev_sNil, ev_sBrk, ev_sCnt, ev_sRetN, ev_dsNil, ev_osNil, ev_kvNil, ev_pNo, ev_vDct0, ev_bYes, ev_frz_some, ev_oVar, pk_some, ev_vFrz, pf_some, ev_vMove, pm_some, k1_dOf, ev_dOf, k1_oOf, ev_oOf, k1_vB, ev_vB, k2_vBin, k1_vBin, ev_vBin, k2_bCmp, k1_bCmp, ev_bCmp, k2_vIdx, k1_vIdx, ev_vIdx, k1_vRev, ev_vRev, k1_bNot, ev_bNot, k1_bTru, ev_bTru, k1_vIsi, ev_vIsi, k1_vBi, ev_vBi, k2_dsCons, k1_dsCons, ev_dsCons, k2_osCons, k1_osCons, ev_osCons, k3_kvCons, k2_kvCons, k1_kvCons, ev_kvCons, k1_vTup, ev_vTup, k1_vLst, ev_vLst, k1_vDct, ev_vDct, k3_vSlc, k2_vSlc, k1_vSlc, ev_vSlc, k1_pI, pIv_int, ev_pI, k1_vNeg, ngv_int, ev_vNeg, k1_bOf, bov_bool, ev_bOf, k1_bAnd, ev_bAnd, k1_bOr, ev_bOr, k1_vIf, ev_vIf, k1_sIf, ev_sIf, chv_t, chv_f, k2_bChn, k1_bChn, ev_bChn, sq_nx, sq_brk, sq_ct, sq_ret, ev_sSeq, k1_sSet, ev_sSet, k1_sEx, ev_sEx, k1_sRet, ev_sRet, bdv_some, k1_sBnd, ev_sBnd, ev_gSet, ev_gTupT, ev_gTupL, ev_gAll0, ev_gAll1, parv_2, k1_sPar, ev_sPar, wh_t, wh_f, wh_nx, wh_brk, wh_ret, fo_nx, fo_ct, fo_brk, fo_ret, fov_some, for_nil, k1_sFor, ev_sFor, iov_0, iov_1, iov_2, iov_3, k1_iOf, ev_iOf, r1_int, ev_iR1, r2_int, ev_iR2, en_l, ev_iEn, zp_l, zp_t, ev_iZp, ev_iVals, iva_d, ev_iItems, iit_d, k1_vIsiT, ev_vIsiT, k2_vMe, k1_vMe, ev_vMe, any_s, List.any_cons, List.any_nil, cl_ret, cl_exc, cl_some, k1_call, ev_mCall, k1_callP, ev_mCallP, clq_some, clp_b, clp_i, clp_s, clp_n, tk_nil, tk_lent, tkl_some, tk_frz, tkf_some, tk_dat, bk_lent, bk_f, bk_d, bk_nil, mk_nil, mk_cons, out_nx, out_ret, out_exc, ev_run, ev_io, put3_some, put2_some, k2_put, put1_some, k1_put, ev_sPut, app2_l, k1_app, app1_l, ev_vApp, vc1_l, ev_vClr, ve1_l, ve2_l, kx_l, ev_vExt, i3Add_int, i2Add, i1Add_int, ev_sAdd, i3Sub_int, i2Sub, i1Sub_int, ev_sSub, lk_inl, lk_inr, lks_nil, lks_cons, bind_ok, bind_exc, bind_bad, of_some, of_none, peek_nil, peek_zero, peek_zero', peek_succ, fz_f, fz_l, fz_d, bin_add, bin_sub, bin_mul, bin_fdiv, bin_mod, bin_pow, bin_adds, bin_addt, bin_addl, cmp_eq, cmp_ne, cmp_in, cmp_nin, cmp_lt, cmp_le, cmp_gt, cmp_ge, cmp_is, cmp_isn, isD_int, isD_bool, isD_str, isD_list, isD_tuple, isD_dict, tru_int, tru_bool, tru_none, tru_list, tru_tuple, item_l, item_t, put_l, eqD_int, eqD_bool, eqD_str, bind_some, map_some, bLen, bTup, bMax2, bMin2, bAbs, bInt, List.getElem?_cons_zero, List.getElem?_cons_succ, List.set_cons_zero, List.set_cons_succ, List.length_cons, List.length_nil, List.length_set, List.replicate_succ, List.replicate_zero, List.map_cons, List.map_nil, List.cons_append, List.nil_append, Option.map_some, Option.map_none, Option.bind_some, Option.bind_none, if_true, if_false, Bool.not_true, Bool.not_false, Bool.false_eq_true, Bool.true_eq_false, reduceIte, Nat.reduceAdd, Nat.reduceSub, Nat.reduceLT, Nat.reduceLeDiff, Nat.reduceEqDiff, decide_true, decide_false, Int.reduceNeg, ne_eq, not_true_eq_false, not_false_eq_true, Nat.zero_lt_succ, Nat.lt_add_one, and_self, and_true, true_and, Bool.true_and, Bool.false_and, Bool.and_true, Bool.or_true, Bool.or_false, Bool.true_or, Bool.false_or, sizeOk_small, Int.cast_ofNat_Int, Int.reduceBEq, Int.reduceLT, Int.reduceLE, Int.reduceEq, lt_line, Option.getD_some, BEq.rfl, List.all_cons, List.all_nil, List.any_cons, List.any_nil, id_eq, Y.tyn_l, Y.tyn_s, Y.tyn_d, Y.in_ll, Y.in_tl, Y.jk_peek, dc_nil, dc_cons, dc1_some, dc2, dc2b, dc3, dc0_ok, k1_vDc, ev_vDc, ev_vSd, sd1_d, k1_sd, sd2_d, sd3_s, sd3_n, ev_vDp, dp1_d, k1_vDp, dp2_d, dp3_s, k1_vLr, ev_vLr, lrv_i, k1_vItL, ev_vItL, itv_d, lc_cons, lc_nil, $ls,*])
/-- a comprehension by what stays true: turn, made so far, the names (the block's own forgotten) -/
theorem lc_inv {own : List Nat} {g : Bd} {tt : M Bool} {elt : M PyData} (P : Nat → List PyData → Z.Env → Prop) : ∀ {l : List PyData} {n : Nat} {acc : List PyData} {e : Z.Env}, P n acc (wipeE e own) → acc.length + l.length ≤ 1000000 →
    (∀ (i : Nat) x, l[i]? = some x → ∀ acc e, P (n + i) acc e → ∃ e1, g x e = some e1 ∧ ((∃ e2 p e3, tt e1 = .ok true e2 ∧ elt e2 = .ok p e3 ∧ P (n + i + 1) (acc ++ [p]) (wipeE e3 own)) ∨ ∃ e2, tt e1 = .ok false e2 ∧ P (n + i + 1) acc (wipeE e2 own))) →
    ∃ acc' e', lcG own g tt elt l acc e = .ok acc' e' ∧ P (n + l.length) acc' (wipeE e' own)
  | [], n, acc, e, h, _, _ => ⟨acc, e, rfl, h⟩
  | x :: xs, n, acc, e, h, hl, st => by
    rw [List.length_cons] at hl
    obtain ⟨e1, h1, h2⟩ := st 0 x rfl acc _ h
    have st' : ∀ (i : Nat) y, xs[i]? = some y → ∀ acc e, P (n + 1 + i) acc e → ∃ e1, g y e = some e1 ∧ ((∃ e2 p e3, tt e1 = .ok true e2 ∧ elt e2 = .ok p e3 ∧ P (n + 1 + i + 1) (acc ++ [p]) (wipeE e3 own)) ∨ ∃ e2, tt e1 = .ok false e2 ∧ P (n + 1 + i + 1) acc (wipeE e2 own)) := fun i y hy acc e he => by
      have e1 : n + (i + 1) = n + 1 + i := by omega
      have := st (i + 1) y (by simpa using hy) acc e (by rw [e1]; exact he)
      rw [e1] at this
      exact this
    rw [lc_cons, h1, lc1_some]
    have e1 : n + (x :: xs).length = n + 1 + xs.length := by rw [List.length_cons]; omega
    rw [e1]
    rcases h2 with ⟨e2, p, e3, h3, h4, h5⟩ | ⟨e2, h3, h5⟩
    · obtain ⟨acc', e', q1, q2⟩ := lc_inv P (l := xs) (n := n + 1) (acc := acc ++ [p]) (e := e3) (by simpa using h5) (by rw [List.length_append, List.length_singleton]; omega) st'
      refine ⟨acc', e', ?_, q2⟩
      rw [h3, bind_ok, lc2, if_pos rfl, h4, bind_ok, lc3, if_pos (lt_line (by omega))]
      exact q1
    · obtain ⟨acc', e', q1, q2⟩ := lc_inv P (l := xs) (n := n + 1) (acc := acc) (e := e2) (by simpa using h5) (by omega) st'
      refine ⟨acc', e', ?_, q2⟩
      rw [h3, bind_ok, lc2, if_neg (by simp)]
      exact q1
/-- each item by a function, the names as they were -/
theorem lc_map {own : List Nat} {g : Bd} {elt : M PyData} {e : Z.Env} {α : Type} (en : α → PyData) (f : α → PyData) {l : List α} (hl : l.length ≤ 1000000)
    (h : ∀ x ∈ l, ∃ e1 e3, g (en x) (wipeE e own) = some e1 ∧ elt e1 = .ok (f x) e3 ∧ wipeE e3 own = wipeE e own) : ∃ e', lcG own g bYes elt (l.map en) [] e = .ok (l.map f) e' ∧ wipeE e' own = wipeE e own := by
  obtain ⟨acc, e', h1, h2, h3⟩ := lc_inv (own := own) (g := g) (tt := bYes) (elt := elt) (fun i acc e2 => acc = (l.take i).map f ∧ e2 = wipeE e own) (l := l.map en) (n := 0) (acc := []) (e := e) ⟨by simp, rfl⟩ (by simpa using hl) (fun i x hx acc e2 ⟨ha, he⟩ => by
    rw [List.getElem?_map] at hx
    obtain ⟨y, hy, rfl⟩ := Option.map_eq_some_iff.mp hx
    obtain ⟨e1, e3, q1, q2, q3⟩ := h y (List.mem_of_getElem? hy)
    rw [Nat.zero_add] at ha ⊢
    refine ⟨e1, by rw [he]; exact q1, .inl ⟨e1, f y, e3, rfl, q2, ?_, q3⟩⟩
    rw [ha, List.take_add_one, hy]
    simp)
  rw [Nat.zero_add, List.length_map, List.take_length] at h2
  rw [h2] at h1
  exact ⟨e', h1, h3⟩
/-- those items that pass, by a function -/
theorem lc_fil {own : List Nat} {g : Bd} {tt : M Bool} {elt : M PyData} {e : Z.Env} {α : Type} (en : α → PyData) (c : α → Bool) (f : α → PyData) {l : List α} (hl : l.length ≤ 1000000)
    (h : ∀ x ∈ l, ∃ e1 e2, g (en x) (wipeE e own) = some e1 ∧ tt e1 = .ok (c x) e2 ∧ (if c x = true then ∃ e3, elt e2 = .ok (f x) e3 ∧ wipeE e3 own = wipeE e own else wipeE e2 own = wipeE e own)) : ∃ e', lcG own g tt elt (l.map en) [] e = .ok ((l.filter c).map f) e' ∧ wipeE e' own = wipeE e own := by
  obtain ⟨acc, e', h1, h2, h3⟩ := lc_inv (own := own) (g := g) (tt := tt) (elt := elt) (fun i acc e2 => acc = ((l.take i).filter c).map f ∧ e2 = wipeE e own) (l := l.map en) (n := 0) (acc := []) (e := e) ⟨by simp, rfl⟩ (by simpa using hl) (fun i x hx acc e2 ⟨ha, he⟩ => by
    rw [List.getElem?_map] at hx
    obtain ⟨y, hy, rfl⟩ := Option.map_eq_some_iff.mp hx
    obtain ⟨e1, e3, q1, q2, q3⟩ := h y (List.mem_of_getElem? hy)
    rw [Nat.zero_add] at ha ⊢
    refine ⟨e1, by rw [he]; exact q1, ?_⟩
    cases hc : c y with
    | true =>
      rw [hc, if_pos rfl] at q3
      obtain ⟨e4, q4, q5⟩ := q3
      rw [hc] at q2
      exact .inl ⟨e3, f y, e4, q2, q4, by rw [ha, List.take_add_one, hy]; simp [hc], q5⟩
    | false =>
      rw [hc, if_neg (by simp)] at q3
      rw [hc] at q2
      exact .inr ⟨e3, q2, by rw [ha, List.take_add_one, hy]; simp [hc], q3⟩)
  rw [Nat.zero_add, List.length_map, List.take_length] at h2
  rw [h2] at h1
  exact ⟨e', h1, h3⟩
/-- a while by what stays true and what gets less -/
theorem whl_ind {c : M Bool} {b : M Z.Flow} {I : Nat → Z.Env → Prop} {Q : Res Z.Flow → Prop}
    (h : ∀ n e, I n e → (∃ e1, c e = .ok false e1 ∧ Q (.ok .nx e1)) ∨ ∃ e1, c e = .ok true e1 ∧ ((∃ e2, b e1 = .ok .brk e2 ∧ Q (.ok .nx e2)) ∨ (∃ w e2, b e1 = .ok (.ret w) e2 ∧ Q (.ok (.ret w) e2)) ∨ ∃ fl e2 m, b e1 = .ok fl e2 ∧ (fl = .nx ∨ fl = .ct) ∧ m < n ∧ I m e2)) :
    ∀ n e, I n e → Q (sWhl c b e) := by
  intro n
  induction n using Nat.strongRecOn with
  | _ n ih =>
    intro e he
    rw [whl1]
    rcases h n e he with ⟨e1, h1, q⟩ | ⟨e1, h1, hb⟩
    · rw [h1, wh_f]
      exact q
    · rw [h1, wh_t]
      rcases hb with ⟨e2, h2, q⟩ | ⟨w, e2, h2, q⟩ | ⟨fl, e2, m, h2, hf, hm, hi⟩
      · rw [h2, wh_brk]
        exact q
      · rw [h2, wh_ret]
        exact q
      · have := ih m hm e2 hi
        rw [h2]
        rcases hf with rfl | rfl
        · exact this
        · exact this
/-- a for whose turns may leave -/
theorem for_ind {g : Bd} {b : M Z.Flow} {Q : Res Z.Flow → Prop} (P : Nat → Z.Env → Prop) : ∀ {l : List PyData} {n : Nat} {e : Z.Env}, P n e →
    (∀ (i : Nat) x, l[i]? = some x → ∀ e, P (n + i) e → ∃ e1, g x e = some e1 ∧ ((∃ e2, b e1 = .ok .brk e2 ∧ Q (.ok .nx e2)) ∨ (∃ w e2, b e1 = .ok (.ret w) e2 ∧ Q (.ok (.ret w) e2)) ∨ ∃ fl e2, b e1 = .ok fl e2 ∧ (fl = .nx ∨ fl = .ct) ∧ P (n + i + 1) e2)) →
    (∀ e, P (n + l.length) e → Q (.ok .nx e)) → Q (sForG g b l e)
  | [], n, e, h, _, hq => hq e h
  | x :: xs, n, e, h, st, hq => by
    obtain ⟨e1, h1, h2⟩ := st 0 x rfl e h
    rw [for_cons, h1, fov_some]
    rcases h2 with ⟨e2, h2, q⟩ | ⟨w, e2, h2, q⟩ | ⟨fl, e2, h2, hf, hp⟩
    · rw [h2, bind_ok, fo_brk]
      exact q
    · rw [h2, bind_ok, fo_ret]
      exact q
    · have e1 : n + (x :: xs).length = n + 1 + xs.length := by rw [List.length_cons]; omega
      have := for_ind (Q := Q) (g := g) (b := b) P (l := xs) (n := n + 1) (e := e2) (by simpa using hp) (fun i y hy e he => by
        have e1 : n + (i + 1) = n + 1 + i := by omega
        have := st (i + 1) y (by simpa using hy) e (by rw [e1]; exact he)
        rw [e1] at this
        exact this) (fun e he => hq e (by rw [e1]; exact he))
      rw [h2, bind_ok]
      rcases hf with rfl | rfl
      · exact this
      · exact this
end Y

namespace Y
open PySem Z
local macro_rules | `(tactic| simp_arith [$ls,*]) => `(tactic| simp only [List.getD_cons_succ, List.getD_cons_zero, b_sum, b_any, b_all, in_cons, in_nil, bl_cons, bl_nil, uw_cons, uw_nil, wp_cons, wp_nil, fz_cons, fz_nil, ev_vLc, k1_vLc, lc0_ok, lc1_some, lc2, lc3, ev_vCon, ev_oCon, ev_dCon, ev_sNil, ev_sBrk, ev_sCnt, ev_sRetN, ev_dsNil, ev_osNil, ev_kvNil, ev_pNo, ev_vDct0, ev_bYes, ev_frz_some, ev_oVar, pk_some, ev_vFrz, pf_some, ev_vMove, pm_some, k1_dOf, ev_dOf, k1_oOf, ev_oOf, k1_vB, ev_vB, k2_vBin, k1_vBin, ev_vBin, k2_bCmp, k1_bCmp, ev_bCmp, k2_vIdx, k1_vIdx, ev_vIdx, k1_vRev, ev_vRev, k1_bNot, ev_bNot, k1_bTru, ev_bTru, k1_vIsi, ev_vIsi, k1_vBi, ev_vBi, k2_dsCons, k1_dsCons, ev_dsCons, k2_osCons, k1_osCons, ev_osCons, k3_kvCons, k2_kvCons, k1_kvCons, ev_kvCons, k1_vTup, ev_vTup, k1_vLst, ev_vLst, k1_vDct, ev_vDct, k3_vSlc, k2_vSlc, k1_vSlc, ev_vSlc, k1_pI, pIv_int, ev_pI, k1_vNeg, ngv_int, ev_vNeg, k1_bOf, bov_bool, ev_bOf, k1_bAnd, ev_bAnd, k1_bOr, ev_bOr, k1_vIf, ev_vIf, k1_sIf, ev_sIf, chv_t, chv_f, k2_bChn, k1_bChn, ev_bChn, sq_nx, sq_brk, sq_ct, sq_ret, ev_sSeq, k1_sSet, ev_sSet, k1_sEx, ev_sEx, k1_sRet, ev_sRet, bdv_some, k1_sBnd, ev_sBnd, ev_gSet, ev_gTupT, ev_gTupL, ev_gAll0, ev_gAll1, parv_2, k1_sPar, ev_sPar, wh_t, wh_f, wh_nx, wh_brk, wh_ret, fo_nx, fo_ct, fo_brk, fo_ret, fov_some, for_nil, k1_sFor, ev_sFor, iov_0, iov_1, iov_2, iov_3, k1_iOf, ev_iOf, r1_int, ev_iR1, r2_int, ev_iR2, en_l, ev_iEn, zp_l, zp_t, ev_iZp, ev_iVals, iva_d, ev_iItems, iit_d, k1_vIsiT, ev_vIsiT, k2_vMe, k1_vMe, ev_vMe, any_s, List.any_cons, List.any_nil, cl_ret, cl_exc, cl_some, k1_call, ev_mCall, k1_callP, ev_mCallP, clq_some, clp_b, clp_i, clp_s, clp_n, tk_nil, tk_lent, tkl_some, tk_frz, tkf_some, tk_dat, bk_lent, bk_f, bk_d, bk_nil, mk_nil, mk_cons, out_nx, out_ret, out_exc, ev_run, ev_io, put3_some, put2_some, k2_put, put1_some, k1_put, ev_sPut, app2_l, k1_app, app1_l, ev_vApp, vc1_l, ev_vClr, ve1_l, ve2_l, kx_l, ev_vExt, i3Add_int, i2Add, i1Add_int, ev_sAdd, i3Sub_int, i2Sub, i1Sub_int, ev_sSub, lk_inl, lk_inr, lks_nil, lks_cons, bind_ok, bind_exc, bind_bad, of_some, of_none, peek_nil, peek_zero, peek_zero', peek_succ, fz_f, fz_l, fz_d, bin_add, bin_sub, bin_mul, bin_fdiv, bin_mod, bin_pow, bin_adds, bin_addt, bin_addl, cmp_eq, cmp_ne, cmp_in, cmp_nin, cmp_lt, cmp_le, cmp_gt, cmp_ge, cmp_is, cmp_isn, isD_int, isD_bool, isD_str, isD_list, isD_tuple, isD_dict, tru_int, tru_bool, tru_none, tru_list, tru_tuple, item_l, item_t, put_l, eqD_int, eqD_bool, eqD_str, bind_some, map_some, bLen, bTup, bMax2, bMin2, bAbs, bInt, List.getElem?_cons_zero, List.getElem?_cons_succ, List.set_cons_zero, List.set_cons_succ, List.length_cons, List.length_nil, List.length_set, List.replicate_succ, List.replicate_zero, List.map_cons, List.map_nil, List.cons_append, List.nil_append, Option.map_some, Option.map_none, Option.bind_some, Option.bind_none, if_true, if_false, Bool.not_true, Bool.not_false, Bool.false_eq_true, Bool.true_eq_false, reduceIte, Nat.reduceAdd, Nat.reduceSub, Nat.reduceLT, Nat.reduceLeDiff, Nat.reduceEqDiff, decide_true, decide_false, Int.reduceNeg, ne_eq, not_true_eq_false, not_false_eq_true, Nat.zero_lt_succ, Nat.lt_add_one, and_self, and_true, true_and, Bool.true_and, Bool.false_and, Bool.and_true, Bool.or_true, Bool.or_false, Bool.true_or, Bool.false_or, sizeOk_small, Int.cast_ofNat_Int, Int.reduceBEq, Int.reduceLT, Int.reduceLE, Int.reduceEq, lt_line, Option.getD_some, BEq.rfl, List.all_cons, List.all_nil, List.any_cons, List.any_nil, id_eq, Y.tyn_l, Y.tyn_s, Y.tyn_d, Y.in_ll, Y.in_tl, Y.jk_peek, dc_nil, dc_cons, dc1_some, dc2, dc2b, dc3, dc0_ok, k1_vDc, ev_vDc, ev_vSd, sd1_d, k1_sd, sd2_d, sd3_s, sd3_n, ev_vDp, dp1_d, k1_vDp, dp2_d, dp3_s, k1_vLr, ev_vLr, lrv_i, k1_vItL, ev_vItL, itv_d, lc_cons, lc_nil, $ls,*])
/-! ### alike in kind and worth -/
mutual
/-- data without dicts, not too deep, not too wide -/
def sa : Nat → PyData → Bool
  | 0, _ => false
  | n + 1, p => match p with
    | .none | .bool _ | .int _ | .str _ => true
    | .list l | .tuple l => decide (l.length ≤ 1000000) && saAll n l
    | .dict _ => false
def saAll : Nat → List PyData → Bool
  | _, [] => true
  | n, x :: xs => sa n x && saAll n xs
end
theorem saAll_mem {n : Nat} : ∀ {l : List PyData}, saAll n l = true → ∀ x ∈ l, sa n x = true
  | y :: l, h, x, hx => by
    simp only [saAll, Bool.and_eq_true] at h
    rcases List.mem_cons.mp hx with rfl | hx
    · exact h.1
    · exact saAll_mem h.2 x hx
theorem saAll_of {n : Nat} : ∀ {l : List PyData}, (∀ x ∈ l, sa n x = true) → saAll n l = true
  | [], _ => by unfold saAll; rfl
  | y :: l, h => by
    simp only [saAll, Bool.and_eq_true]
    exact ⟨h y (by simp), saAll_of fun x hx => h x (by simp [hx])⟩
theorem zipD_self : ∀ l : List PyData, zipD l l = l.map fun x => .tuple [x, x]
  | [] => rfl
  | x :: l => by rw [zipD, zipD_self l]; rfl
theorem memD_trues (l : List PyData) : memD (.bool false) (l.map fun _ => .bool true) = some false := by
  unfold memD
  have h1 : PyData.plainAll (l.map fun _ => PyData.bool true) = true := by
    induction l with
    | nil => rfl
    | cons x l ih => simpa [PyData.plainAll, PyData.plain] using ih
  rw [h1, plain_bool]
  simp [PyData.eqv]
theorem same_self : ∀ (n : Nat) (p : PyData), sa n p = true → (f_law_same n).run [.f p, .f p] = .ret (.f (.bool true)) [none, none]
  | 0, p, h => by simp [sa] at h
  | n + 1, p, h => by
    have seq : ∀ (l : List PyData), saAll n l = true → l.length ≤ 1000000 → ∀ a b : Option W, ∃ e', lcG [2, 3] (gTupB [gSet 2, gSet 3]) bYes (dOf (mCall (f_law_same n) (osCons (oVar 2) (osCons (oVar 3) osNil)))) (zipD l l) [] [a, b, none, none] = .ok (l.map fun _ => .bool true) e' ∧ wipeE e' [2, 3] = [a, b, none, none] := by
      intro l hs hl a b
      rw [zipD_self]
      refine lc_map (own := [2, 3]) (e := [a, b, none, none]) (fun x : PyData => .tuple [x, x]) (fun _ => .bool true) hl fun x hx => ?_
      have ih := same_self n x (saAll_mem hs x hx)
      refine ⟨[a, b, some (.f x), some (.f x)], [a, b, some (.f x), some (.f x)], ?_, ?_, ?_⟩
      · simp_arith []
      · simp_arith [io_law_same, ih]
      · simp_arith []
    show (mkFu [false, false] 4 (b_law_same (f_law_same n))).run _ = _
    unfold b_law_same
    cases p with
    | none => simp_arith [ev_run, isNone, PyData.isBool, PyData.isInt, PyData.isStr]
    | bool b => simp_arith [ev_run, isNone, PyData.isBool, PyData.isInt, PyData.isStr, beq_self_eq_true]
    | int b => simp_arith [ev_run, isNone, PyData.isBool, PyData.isInt, PyData.isStr, beq_self_eq_true]
    | str b => simp_arith [ev_run, isNone, PyData.isBool, PyData.isInt, PyData.isStr, beq_self_eq_true]
    | list l =>
      simp only [sa, Bool.and_eq_true, decide_eq_true_eq] at h
      obtain ⟨e', q, q2⟩ := seq l h.2 h.1 (some (.f (.list l))) (some (.f (.list l)))
      simp_arith [ev_run, isNone, PyData.isBool, PyData.isInt, PyData.isStr, beq_self_eq_true, q, q2, memD_trues]
    | tuple l =>
      simp only [sa, Bool.and_eq_true, decide_eq_true_eq] at h
      obtain ⟨e', q, q2⟩ := seq l h.2 h.1 (some (.f (.tuple l))) (some (.f (.tuple l)))
      simp_arith [ev_run, isNone, PyData.isBool, PyData.isInt, PyData.isStr, beq_self_eq_true, q, q2, memD_trues]
    | dict l => simp [sa] at h
end Y

namespace Y
open PySem Z
local macro_rules | `(tactic| simp_arith [$ls,*]) => `(tactic| simp only [List.getD_cons_succ, List.getD_cons_zero, b_sum, b_any, b_all, in_cons, in_nil, bl_cons, bl_nil, uw_cons, uw_nil, wp_cons, wp_nil, fz_cons, fz_nil, ev_vLc, k1_vLc, lc0_ok, lc1_some, lc2, lc3, ev_vCon, ev_oCon, ev_dCon, ev_sNil, ev_sBrk, ev_sCnt, ev_sRetN, ev_dsNil, ev_osNil, ev_kvNil, ev_pNo, ev_vDct0, ev_bYes, ev_frz_some, ev_oVar, pk_some, ev_vFrz, pf_some, ev_vMove, pm_some, k1_dOf, ev_dOf, k1_oOf, ev_oOf, k1_vB, ev_vB, k2_vBin, k1_vBin, ev_vBin, k2_bCmp, k1_bCmp, ev_bCmp, k2_vIdx, k1_vIdx, ev_vIdx, k1_vRev, ev_vRev, k1_bNot, ev_bNot, k1_bTru, ev_bTru, k1_vIsi, ev_vIsi, k1_vBi, ev_vBi, k2_dsCons, k1_dsCons, ev_dsCons, k2_osCons, k1_osCons, ev_osCons, k3_kvCons, k2_kvCons, k1_kvCons, ev_kvCons, k1_vTup, ev_vTup, k1_vLst, ev_vLst, k1_vDct, ev_vDct, k3_vSlc, k2_vSlc, k1_vSlc, ev_vSlc, k1_pI, pIv_int, ev_pI, k1_vNeg, ngv_int, ev_vNeg, k1_bOf, bov_bool, ev_bOf, k1_bAnd, ev_bAnd, k1_bOr, ev_bOr, k1_vIf, ev_vIf, k1_sIf, ev_sIf, chv_t, chv_f, k2_bChn, k1_bChn, ev_bChn, sq_nx, sq_brk, sq_ct, sq_ret, ev_sSeq, k1_sSet, ev_sSet, k1_sEx, ev_sEx, k1_sRet, ev_sRet, bdv_some, k1_sBnd, ev_sBnd, ev_gSet, ev_gTupT, ev_gTupL, ev_gAll0, ev_gAll1, parv_2, k1_sPar, ev_sPar, wh_t, wh_f, wh_nx, wh_brk, wh_ret, fo_nx, fo_ct, fo_brk, fo_ret, fov_some, for_nil, k1_sFor, ev_sFor, iov_0, iov_1, iov_2, iov_3, k1_iOf, ev_iOf, r1_int, ev_iR1, r2_int, ev_iR2, en_l, ev_iEn, zp_l, zp_t, ev_iZp, ev_iVals, iva_d, ev_iItems, iit_d, k1_vIsiT, ev_vIsiT, k2_vMe, k1_vMe, ev_vMe, any_s, List.any_cons, List.any_nil, cl_ret, cl_exc, cl_some, k1_call, ev_mCall, k1_callP, ev_mCallP, clq_some, clp_b, clp_i, clp_s, clp_n, tk_nil, tk_lent, tkl_some, tk_frz, tkf_some, tk_dat, bk_lent, bk_f, bk_d, bk_nil, mk_nil, mk_cons, out_nx, out_ret, out_exc, ev_run, ev_io, put3_some, put2_some, k2_put, put1_some, k1_put, ev_sPut, app2_l, k1_app, app1_l, ev_vApp, vc1_l, ev_vClr, ve1_l, ve2_l, kx_l, ev_vExt, i3Add_int, i2Add, i1Add_int, ev_sAdd, i3Sub_int, i2Sub, i1Sub_int, ev_sSub, lk_inl, lk_inr, lks_nil, lks_cons, bind_ok, bind_exc, bind_bad, of_some, of_none, peek_nil, peek_zero, peek_zero', peek_succ, fz_f, fz_l, fz_d, bin_add, bin_sub, bin_mul, bin_fdiv, bin_mod, bin_pow, bin_adds, bin_addt, bin_addl, cmp_eq, cmp_ne, cmp_in, cmp_nin, cmp_lt, cmp_le, cmp_gt, cmp_ge, cmp_is, cmp_isn, isD_int, isD_bool, isD_str, isD_list, isD_tuple, isD_dict, tru_int, tru_bool, tru_none, tru_list, tru_tuple, item_l, item_t, put_l, eqD_int, eqD_bool, eqD_str, bind_some, map_some, bLen, bTup, bMax2, bMin2, bAbs, bInt, List.getElem?_cons_zero, List.getElem?_cons_succ, List.set_cons_zero, List.set_cons_succ, List.length_cons, List.length_nil, List.length_set, List.replicate_succ, List.replicate_zero, List.map_cons, List.map_nil, List.cons_append, List.nil_append, Option.map_some, Option.map_none, Option.bind_some, Option.bind_none, if_true, if_false, Bool.not_true, Bool.not_false, Bool.false_eq_true, Bool.true_eq_false, reduceIte, Nat.reduceAdd, Nat.reduceSub, Nat.reduceLT, Nat.reduceLeDiff, Nat.reduceEqDiff, decide_true, decide_false, Int.reduceNeg, ne_eq, not_true_eq_false, not_false_eq_true, Nat.zero_lt_succ, Nat.lt_add_one, and_self, and_true, true_and, Bool.true_and, Bool.false_and, Bool.and_true, Bool.or_true, Bool.or_false, Bool.true_or, Bool.false_or, sizeOk_small, Int.cast_ofNat_Int, Int.reduceBEq, Int.reduceLT, Int.reduceLE, Int.reduceEq, lt_line, Option.getD_some, BEq.rfl, List.all_cons, List.all_nil, List.any_cons, List.any_nil, id_eq, Y.tyn_l, Y.tyn_s, Y.tyn_d, Y.in_ll, Y.in_tl, Y.jk_peek, dc_nil, dc_cons, dc1_some, dc2, dc2b, dc3, dc0_ok, k1_vDc, ev_vDc, ev_vSd, sd1_d, k1_sd, sd2_d, sd3_s, sd3_n, ev_vDp, dp1_d, k1_vDp, dp2_d, dp3_s, k1_vLr, ev_vLr, lrv_i, k1_vItL, ev_vItL, itv_d, lc_cons, lc_nil, $ls,*])
/-! ### writings -/
def tI (l : List Int) : PyData := .tuple (l.map .int)
def wr (s r : List Int) : PyData := .tuple [tI s, tI r]
theorem eqD_tI (l m : List Int) : eqD (tI l) (tI m) = some (decide (l = m)) := eqD_enc (α := List Int) (by decide) l m
/-- the writings by the greater one -/
def wl (b : Int) (s r : List Int) : List PyData := if r = [0] ∧ s ≠ [] then [wr s r, wr (s.dropLast ++ [s.getLastD 0 - 1]) [b - 1]] else [wr s r]
theorem wl_one {b : Int} {s r : List Int} (h : r ≠ [0] ∨ s = []) : wl b s r = [wr s r] := by
  unfold wl
  rw [if_neg]
  rintro ⟨h1, h2⟩
  rcases h with h | h
  · exact h h1
  · exact h2 h
theorem wl_two {b : Int} (s : List Int) (x : Int) : wl b (s ++ [x]) [0] = [wr (s ++ [x]) [0], wr (s ++ [x - 1]) [b - 1]] := by
  unfold wl
  rw [if_pos ⟨rfl, by simp⟩]
  simp
theorem snoc_cases {α : Type} (s : List α) : s = [] ∨ ∃ s' x, s = s' ++ [x] := by
  rcases List.eq_nil_or_concat s with h | ⟨s', x, h⟩
  · exact .inl h
  · exact .inr ⟨s', x, by rw [h, List.concat_eq_append]⟩
theorem last_item (s : List Int) (x : Int) : item (tI (s ++ [x])) (.int (-1)) = some (.int x) := by
  show (ix ((s ++ [x]).map PyData.int).length (-1)).bind (fun j => ((s ++ [x]).map PyData.int)[j]?) = _
  have : ix ((s ++ [x]).map PyData.int).length (-1) = some s.length := by
    unfold ix
    rw [if_neg (by decide), if_pos (by simp; omega)]
    congr 1
    rw [List.length_map, List.length_append, List.length_singleton]
    omega
  rw [this]
  simp
theorem last_cut (s : List Int) (x : Int) : slice (tI (s ++ [x])) (oi none) (oi (some (-1))) = some (.f (tI s)) := by
  unfold tI
  rw [sl_t]
  have : cut ((s ++ [x]).map PyData.int) none (some (-1)) = s.map .int := by
    unfold cut
    have e : ∀ d, HT.sIx ((s ++ [x]).map PyData.int).length d (some (-1)) = s.length := by
      intro d
      have h : (-1 : Int) < 0 := by decide
      simp only [HT.sIx, h, if_true, List.length_map, List.length_append, List.length_singleton]
      omega
    rw [e, HT.sIx_none, List.drop_zero, Nat.sub_zero, List.map_append, List.take_left' (by simp)]
  rw [this]
theorem add_tI (s r : List Int) (h : s.length + r.length ≤ 1000000) : binop .Add (tI s) (tI r) = some (.f (tI (s ++ r))) := by
  unfold tI
  rw [bin_addt, if_pos (sizeOk_small (by simpa using h)), List.map_append]
theorem it_fr0 (t u : Int) : item (fr t u) (.int 0) = some (.int t) := rfl
theorem it_fr1 (t u : Int) : item (fr t u) (.int 1) = some (.int u) := rfl
theorem tI0 : PyData.tuple [] = tI [] := rfl
theorem tI1 (x : Int) : PyData.tuple [.int x] = tI [x] := rfl
theorem w_tail {b : Int} {s r : List Int} (hs : s.length ≤ 100000) :
    (eqD (tI r) (tI [0])) = some (decide (r = [0])) ∧ (eqD (tI s) (tI [])) = some (decide (s = [])) := ⟨eqD_tI .., eqD_tI ..⟩
theorem r_writings_of {b : Int} {p : PyData} {s r : List Int} (hs : s.length ≤ 100000) (hd : f_divided.run [.f (.int b), .f p] = .ret (.f (wr s r)) [none, none]) : f_writings_of.run [.f (.int b), .f p] = .ret (.lst (wl b s r)) [none, none] := by
  have e1 : eqD (tI r) (tI [0]) = some (decide (r = [0])) := eqD_tI ..
  have e2 : eqD (tI s) (tI []) = some (decide (s = [])) := eqD_tI ..
  unfold f_writings_of b_writings_of
  by_cases hr : r = [0]
  · subst hr
    rcases snoc_cases s with rfl | ⟨s', x, rfl⟩
    · rw [wl_one (.inr rfl)]
      simp_arith [ev_run, io_divided, hd, wr, tI0, tI1, e1, e2]
    · rw [wl_two]
      rw [List.length_append, List.length_singleton] at hs
      have e3 : decide (s' ++ [x] = []) = false := by simp
      have a := add_tI s' [x - 1] (by simp; omega)
      simp_arith [ev_run, io_divided, hd, wr, tI0, tI1, e1, e2, e3, last_item, last_cut, a]
  · rw [wl_one (.inl hr)]
    have e3 := decide_eq_false hr
    simp_arith [ev_run, io_divided, hd, wr, tI0, tI1, e1, e2, e3]
theorem r_law_writings {b t u : Int} {s r : List Int} (hs : s.length ≤ 100000) (hd : f_law_divided.run [.f (.int b), .f (.int t), .f (.int u)] = .ret (.f (wr s r)) [none, none, none]) : f_law_writings.run [.f (.int b), .f (fr t u)] = .ret (.lst (wl b s r)) [none, none] := by
  have e1 : eqD (tI r) (tI [0]) = some (decide (r = [0])) := eqD_tI ..
  have e2 : eqD (tI s) (tI []) = some (decide (s = [])) := eqD_tI ..
  unfold f_law_writings b_law_writings
  by_cases hr : r = [0]
  · subst hr
    rcases snoc_cases s with rfl | ⟨s', x, rfl⟩
    · rw [wl_one (.inr rfl)]
      simp_arith [ev_run, io_law_divided, hd, wr, tI0, tI1, e1, e2, it_fr0, it_fr1]
    · rw [wl_two]
      rw [List.length_append, List.length_singleton] at hs
      have e3 : decide (s' ++ [x] = []) = false := by simp
      have a := add_tI s' [x - 1] (by simp; omega)
      simp_arith [ev_run, io_law_divided, hd, wr, tI0, tI1, e1, e2, e3, last_item, last_cut, a, it_fr0, it_fr1]
  · rw [wl_one (.inl hr)]
    have e3 := decide_eq_false hr
    simp_arith [ev_run, io_law_divided, hd, wr, tI0, tI1, e1, e2, e3, it_fr0, it_fr1]
theorem sa_ints (n : Nat) : ∀ l : List Int, saAll (n + 1) (l.map .int) = true
  | [] => rfl
  | x :: l => by simp only [List.map_cons, saAll, sa, sa_ints n l, Bool.true_and]
theorem sa_tI {n : Nat} {l : List Int} (h : l.length ≤ 1000000) : sa (n + 2) (tI l) = true := by
  simp only [tI, sa, sa_ints, List.length_map, Bool.and_true, decide_eq_true_eq]
  exact h
theorem sa_wr {n : Nat} {s r : List Int} (h : s.length ≤ 1000000) (h' : r.length ≤ 1000000) : sa (n + 3) (wr s r) = true := by
  simp [wr, sa, saAll, sa_tI h, sa_tI h']
theorem sa_fr {n : Nat} (t u : Int) : sa (n + 2) (fr t u) = true := by simp [fr, sa, saAll]
theorem sa_wl {b : Int} {s r : List Int} (h : s.length ≤ 100000) (h' : r.length ≤ 100000) : sa 8 (.list (wl b s r)) = true := by
  unfold wl
  split
  · have h2 : (s.dropLast ++ [s.getLastD 0 - 1]).length ≤ 1000000 := by simp; omega
    generalize s.dropLast ++ [s.getLastD 0 - 1] = z at h2 ⊢
    simp [sa, saAll, sa_wr (n := 4) (Nat.le_trans h (by decide)) (Nat.le_trans h' (by decide)), sa_wr (n := 4) (r := [b - 1]) h2 (by simp)]
  · simp [sa, saAll, sa_wr (n := 4) (Nat.le_trans h (by decide)) (Nat.le_trans h' (by decide))]
/-! ### a fraction's writings tell it -/
/-- what division by base tells of a fraction -/
structure DivOf (b p q : Int) (s r : List Int) : Prop where
  ds : Dg b s
  dr : Dg b r
  ne : r ≠ []
  val : topW b s r * q = p * undW b s r
  run : f_divided.run [.f (.int b), .f (fr p q)] = .ret (.f (wr s r)) [none, none]
  run2 : f_law_divided.run [.f (.int b), .f (.int p), .f (.int q)] = .ret (.f (wr s r)) [none, none, none]
  /-- a last digit of the stem of a writing that ends -/
  pos : r = [0] → ∀ s' x, s = s' ++ [x] → 0 < x
theorem num_one (b x : Int) : num b [x] = x := by simp [num]
theorem div_one {b : Int} (hb : 1 < b) : DivOf b 1 1 [] [b - 1] := ⟨by intro d hd; simp at hd, by intro d hd; simp at hd; omega, by simp, by unfold topW undW; rw [num_one]; simp [num, Int.pow_succ], r_divided1, r_law_divided1, fun _ s' x h => by simp at h⟩
/-- a rest is nothing only at the end: the last digit of a stem that ends is none -/
theorem fst_pos {b p q : Int} (hb : 0 < b) (h0 : 0 ≤ p) (h1 : p < q) {N i : Nat} (f : Fst b p q N i) (hr : dgs b p q i (N - i) = [0]) {s' : List Int} {x : Int} (hs : dgs b p q 0 i = s' ++ [x]) : 0 < x := by
  have hN : N = i + 1 := by
    have := congrArg List.length hr
    rw [dgs_len] at this
    have hl := f.lt
    simp at this
    omega
  have hi : 0 < i := by
    have := congrArg List.length hs
    rw [dgs_len] at this
    simp at this
    omega
  obtain ⟨j, rfl⟩ : ∃ j, i = j + 1 := ⟨i - 1, by omega⟩
  rw [dgs_succ, Nat.zero_add] at hs
  have hx := List.append_inj_right' hs rfl
  simp only [List.cons.injEq, and_true] at hx
  obtain ⟨d0, d1⟩ := dd_range hb h0 h1 j
  rw [hx] at d0
  rcases Int.lt_or_eq_of_le d0 with z | z
  · exact z
  · exfalso
    subst hN
    have e1 : rr b p q (j + 1) = rr b p q (j + 2) := f.eq
    have e2 : dd b p q (j + 1) = 0 := by
      rw [show j + 1 + 1 - (j + 1) = 0 + 1 by omega, dgs_succ] at hr
      simpa [dgs] using hr
    have s1 := dd_step b p q (j + 1)
    rw [e2, Int.zero_mul, Int.zero_add, ← e1] at s1
    have s2 := dd_step b p q j
    rw [hx, ← z, Int.zero_mul, Int.zero_add] at s2
    obtain ⟨r0, r1⟩ := rr_range (b := b) h0 h1 (j + 1)
    obtain ⟨q0, q1⟩ := rr_range (b := b) h0 h1 j
    have hz : ∀ y : Int, y * b = y → 0 ≤ y → b ≠ 1 → y = 0 := fun y hy h0 hb => by
      have : y * (b - 1) = 0 := by rw [Int.mul_sub, Int.mul_one]; omega
      rcases Int.mul_eq_zero.mp this with z | z
      · exact z
      · omega
    by_cases hb1 : b = 1
    · subst hb1
      rw [Int.mul_one] at s2
      exact f.nd j (j + 1) (by omega) (by omega) s2
    · have := hz _ s1 r0 hb1
      rw [this] at s2
      rcases Int.mul_eq_zero.mp s2 with z2 | z2
      · exact f.nd j (j + 1) (by omega) (by omega) (by rw [z2, this])
      · omega
theorem div_fst {b p q : Int} (hb : 1 < b) (hb2 : b ≤ 10) (h : Fr p q) (h1 : p < q) (hu : log2i q < 9000) {N i : Nat} (f : Fst b p q N i) (hN : N ≤ 100000) : DivOf b p q (dgs b p q 0 i) (dgs b p q i (N - i)) := by
  have hl := f.lt
  refine ⟨dgs_dg (by omega) h.h0 h1 _ _, dgs_dg (by omega) h.h0 h1 _ _, fun z => ?_, fst_val hb h.h0 h1 f, r_divided (by omega) hb2 h.h0 h1 hu f hN, r_law_divided (by omega) hb2 h.h0 h1 hu f hN, fun hr s' x hs => fst_pos (by omega) h.h0 h1 f hr hs⟩
  have := congrArg List.length z
  rw [dgs_len] at this
  simp at this
  omega
theorem low_val {b p q : Int} {s r : List Int} (hb : 1 < b) (hf : Fr p q) (hs : Dg b s) (hr : Dg b r) (ne : r ≠ []) (val : topW b s r * q = p * undW b s r) : low (topW b s r) (undW b s r) = fr p q :=
  low_eq (undW_pos hb ne) (topW_range hb hs hr ne).1 hf.h0 hf.h2 hf.h3 val
/-- the lesser writing -/
theorem val_less {b : Int} {s : List Int} {x : Int} (hb : 1 < b) : topW b (s ++ [x - 1]) [b - 1] = topW b (s ++ [x]) [0] ∧ undW b (s ++ [x - 1]) [b - 1] = undW b (s ++ [x]) [0] := by
  unfold topW undW
  rw [num_snoc, num_snoc, num_one, num_one]
  simp only [List.length_append, List.length_singleton, Int.pow_succ, Int.pow_zero, Int.one_mul]
  refine ⟨?_, trivial⟩
  have e : num b s * b + (x - 1) = num b s * b + x - 1 := by omega
  rw [e, Int.sub_mul]
  omega
theorem rep_one (x : PyData) (n : Nat) : rep [x] (n : Int) = List.replicate n x := by
  unfold rep
  rw [Int.toNat_natCast]
  induction n with
  | zero => rfl
  | succ n ih => rw [List.replicate_succ, List.flatten_cons, ih]; rfl
theorem mul_t1 (x : PyData) {n : Nat} (h : n ≤ 1000) : binop .Mult (.tuple [x]) (.int (n : Int)) = some (.f (.tuple (List.replicate n x))) := by
  rw [← rep_one]
  show (if -1000 ≤ (n : Int) ∧ (n : Int) ≤ 1000 ∧ [x].length ≤ 1000 then _ else none) = _
  rw [if_pos ⟨by omega, by omega, by simp⟩]
theorem num_nines (b : Int) : ∀ n, num b (List.replicate n (b - 1)) = b ^ n - 1
  | 0 => by simp [num]
  | n + 1 => by
    have : List.replicate (n + 1) (b - 1) = List.replicate n (b - 1) ++ [b - 1] := by rw [← List.replicate_append_replicate]; rfl
    rw [this, num_snoc, num_nines b n, Int.pow_succ, Int.sub_mul]
    omega
theorem num_scale (b : Int) : ∀ n, num b (1 :: List.replicate n 0) = b ^ n
  | 0 => by simp [num]
  | n + 1 => by
    have : (1 : Int) :: List.replicate (n + 1) 0 = (1 :: List.replicate n 0) ++ [0] := by rw [← List.replicate_append_replicate]; rfl
    rw [this, num_snoc, num_scale b n, Int.pow_succ, Int.add_zero]
theorem r_law_worth {b : Int} (hb : 1 < b) (hb2 : b ≤ 10) {s r : List Int} (hs : Dg b s) (hr : Dg b r) (h0 : r ≠ []) (hl : s.length + r.length ≤ 900) {p q : PyData} (hp : Sq p (s.map .int)) (hq : Sq q (r.map .int)) :
    f_law_worth.run [.f (.int b), .f p, .f q] = .ret (.f (low (topW b s r) (undW b s r))) [none, none, none] := by
  have n1 := r_law_number (by omega) hb2 hs (by omega) hp
  have n2 := r_law_number (by omega) hb2 hr (by omega) hq
  have p1 := r_law_number (b := b) (by omega) hb2 (ds := List.replicate r.length (b - 1)) (fun d hd => by rw [List.eq_of_mem_replicate hd]; omega) (by rw [List.length_replicate]; omega) (.inl rfl)
  have p2 := r_law_number (b := b) (by omega) hb2 (ds := 1 :: List.replicate s.length 0) (fun d hd => by
    rcases List.mem_cons.mp hd with rfl | hd
    · omega
    · rw [List.eq_of_mem_replicate hd]; omega) (by rw [List.length_cons, List.length_replicate]; omega) (.inl rfl)
  rw [num_nines, List.map_replicate] at p1
  rw [num_scale, List.map_cons, List.map_replicate] at p2
  obtain ⟨t0, t1⟩ := topW_range hb hs hr h0
  have lw := r_reduced (undW_pos hb h0 (s := s)) t0 (by have := undW_log hb hb2 h0 (s := s); omega)
  unfold topW undW at lw
  have a := num_range (by omega) hs
  have h := pow1_pos hb (List.length_pos_iff.mpr h0)
  have l0 : log2i (b ^ r.length - 1) < 4 * r.length + 1 := log_pow (by omega) hb2 _ (by omega) (by omega)
  have l1 : log2i (num b s) + log2i (b ^ r.length - 1) < 1000000 := by
    have := log_pow (by omega) hb2 s.length a.1 (Int.le_of_lt a.2)
    omega
  have l2 : log2i (b ^ s.length) + log2i (b ^ r.length - 1) < 1000000 := by
    have := log_pow (b := b) (n := b ^ s.length) (by omega) hb2 s.length (Int.le_of_lt (Int.pow_pos (by omega))) (Int.le_refl _)
    omega
  have m1 := mul_t1 (.int (b - 1)) (n := r.length) (by omega)
  have m2 := mul_t1 (.int 0) (n := s.length) (by omega)
  have k1 : Z.sizeOk (1 + (List.replicate s.length (PyData.int 0)).length) = true := sizeOk_small (by rw [List.length_replicate]; omega)
  unfold f_law_worth b_law_worth topW undW
  rcases hp with rfl | rfl <;> rcases hq with rfl | rfl <;> simp_arith [ev_run, io_law_number, io_law_reduced, n1, n2, p1, p2, lw, l1, l2, List.length_map, m1, m2, k1, bin_addt]
end Y

namespace Y
open PySem Z
local macro_rules | `(tactic| simp_arith [$ls,*]) => `(tactic| simp only [List.getD_cons_succ, List.getD_cons_zero, b_sum, b_any, b_all, in_cons, in_nil, bl_cons, bl_nil, uw_cons, uw_nil, wp_cons, wp_nil, fz_cons, fz_nil, ev_vLc, k1_vLc, lc0_ok, lc1_some, lc2, lc3, ev_vCon, ev_oCon, ev_dCon, ev_sNil, ev_sBrk, ev_sCnt, ev_sRetN, ev_dsNil, ev_osNil, ev_kvNil, ev_pNo, ev_vDct0, ev_bYes, ev_frz_some, ev_oVar, pk_some, ev_vFrz, pf_some, ev_vMove, pm_some, k1_dOf, ev_dOf, k1_oOf, ev_oOf, k1_vB, ev_vB, k2_vBin, k1_vBin, ev_vBin, k2_bCmp, k1_bCmp, ev_bCmp, k2_vIdx, k1_vIdx, ev_vIdx, k1_vRev, ev_vRev, k1_bNot, ev_bNot, k1_bTru, ev_bTru, k1_vIsi, ev_vIsi, k1_vBi, ev_vBi, k2_dsCons, k1_dsCons, ev_dsCons, k2_osCons, k1_osCons, ev_osCons, k3_kvCons, k2_kvCons, k1_kvCons, ev_kvCons, k1_vTup, ev_vTup, k1_vLst, ev_vLst, k1_vDct, ev_vDct, k3_vSlc, k2_vSlc, k1_vSlc, ev_vSlc, k1_pI, pIv_int, ev_pI, k1_vNeg, ngv_int, ev_vNeg, k1_bOf, bov_bool, ev_bOf, k1_bAnd, ev_bAnd, k1_bOr, ev_bOr, k1_vIf, ev_vIf, k1_sIf, ev_sIf, chv_t, chv_f, k2_bChn, k1_bChn, ev_bChn, sq_nx, sq_brk, sq_ct, sq_ret, ev_sSeq, k1_sSet, ev_sSet, k1_sEx, ev_sEx, k1_sRet, ev_sRet, bdv_some, k1_sBnd, ev_sBnd, ev_gSet, ev_gTupT, ev_gTupL, ev_gAll0, ev_gAll1, parv_2, k1_sPar, ev_sPar, wh_t, wh_f, wh_nx, wh_brk, wh_ret, fo_nx, fo_ct, fo_brk, fo_ret, fov_some, for_nil, k1_sFor, ev_sFor, iov_0, iov_1, iov_2, iov_3, k1_iOf, ev_iOf, r1_int, ev_iR1, r2_int, ev_iR2, en_l, ev_iEn, zp_l, zp_t, ev_iZp, ev_iVals, iva_d, ev_iItems, iit_d, k1_vIsiT, ev_vIsiT, k2_vMe, k1_vMe, ev_vMe, any_s, List.any_cons, List.any_nil, cl_ret, cl_exc, cl_some, k1_call, ev_mCall, k1_callP, ev_mCallP, clq_some, clp_b, clp_i, clp_s, clp_n, tk_nil, tk_lent, tkl_some, tk_frz, tkf_some, tk_dat, bk_lent, bk_f, bk_d, bk_nil, mk_nil, mk_cons, out_nx, out_ret, out_exc, ev_run, ev_io, put3_some, put2_some, k2_put, put1_some, k1_put, ev_sPut, app2_l, k1_app, app1_l, ev_vApp, vc1_l, ev_vClr, ve1_l, ve2_l, kx_l, ev_vExt, i3Add_int, i2Add, i1Add_int, ev_sAdd, i3Sub_int, i2Sub, i1Sub_int, ev_sSub, lk_inl, lk_inr, lks_nil, lks_cons, bind_ok, bind_exc, bind_bad, of_some, of_none, peek_nil, peek_zero, peek_zero', peek_succ, fz_f, fz_l, fz_d, bin_add, bin_sub, bin_mul, bin_fdiv, bin_mod, bin_pow, bin_adds, bin_addt, bin_addl, cmp_eq, cmp_ne, cmp_in, cmp_nin, cmp_lt, cmp_le, cmp_gt, cmp_ge, cmp_is, cmp_isn, isD_int, isD_bool, isD_str, isD_list, isD_tuple, isD_dict, tru_int, tru_bool, tru_none, tru_list, tru_tuple, item_l, item_t, put_l, eqD_int, eqD_bool, eqD_str, bind_some, map_some, bLen, bTup, bMax2, bMin2, bAbs, bInt, List.getElem?_cons_zero, List.getElem?_cons_succ, List.set_cons_zero, List.set_cons_succ, List.length_cons, List.length_nil, List.length_set, List.replicate_succ, List.replicate_zero, List.map_cons, List.map_nil, List.cons_append, List.nil_append, Option.map_some, Option.map_none, Option.bind_some, Option.bind_none, if_true, if_false, Bool.not_true, Bool.not_false, Bool.false_eq_true, Bool.true_eq_false, reduceIte, Nat.reduceAdd, Nat.reduceSub, Nat.reduceLT, Nat.reduceLeDiff, Nat.reduceEqDiff, decide_true, decide_false, Int.reduceNeg, ne_eq, not_true_eq_false, not_false_eq_true, Nat.zero_lt_succ, Nat.lt_add_one, and_self, and_true, true_and, Bool.true_and, Bool.false_and, Bool.and_true, Bool.or_true, Bool.or_false, Bool.true_or, Bool.false_or, sizeOk_small, Int.cast_ofNat_Int, Int.reduceBEq, Int.reduceLT, Int.reduceLE, Int.reduceEq, lt_line, Option.getD_some, BEq.rfl, List.all_cons, List.all_nil, List.any_cons, List.any_nil, id_eq, Y.tyn_l, Y.tyn_s, Y.tyn_d, Y.in_ll, Y.in_tl, Y.jk_peek, dc_nil, dc_cons, dc1_some, dc2, dc2b, dc3, dc0_ok, k1_vDc, ev_vDc, ev_vSd, sd1_d, k1_sd, sd2_d, sd3_s, sd3_n, ev_vDp, dp1_d, k1_vDp, dp2_d, dp3_s, k1_vLr, ev_vLr, lrv_i, k1_vItL, ev_vItL, itv_d, lc_cons, lc_nil, $ls,*])
theorem pen_fz {n : Nat} {w : W} (h : Pen n w) : ∃ p, w.fz = some p := by
  obtain ⟨c, a, r, rfl, _⟩ := h
  exact ⟨_, rfl⟩
theorem pen_le {n m : Nat} {w : W} (h : Pen n w) (hl : n ≤ m) : Pen m w := by
  obtain ⟨c, a, r, e, h1, h2⟩ := h
  exact ⟨c, a, r, e, h1, Nat.le_trans h2 hl⟩
theorem w_fraction {b most : Int} (hb : 1 < b) (hb2 : b ≤ 10) (hm : 1 ≤ most) (x0 x3 : Option W) : ∀ j : Nat, j ≤ 10 → ∃ k, sWhl (bCmp .Gt (oVar 4) (oVar 2)) b_law_fraction_1 [x0, some (.f (.int b)), some (.f (.int most)), x3, some (.f (.int (b ^ j)))] =
    .ok .nx [x0, some (.f (.int b)), some (.f (.int most)), x3, some (.f (.int (b ^ k)))] ∧ b ^ k ≤ most
  | 0, _ => ⟨0, by
    have h : decide (most < 1) = false := decide_eq_false (by omega)
    rw [whl1, Int.pow_zero]
    simp_arith [h], by rw [Int.pow_zero]; exact hm⟩
  | j + 1, hj => by
    by_cases h : most < b ^ (j + 1)
    · obtain ⟨k, q, hk⟩ := w_fraction hb hb2 hm x0 x3 j (by omega)
      refine ⟨k, ?_, hk⟩
      have hd := decide_eq_true h
      have b0 : ¬ (b = 0) := by omega
      have lb : log2i b < 9000 := by have := log_one (by omega) hb2; omega
      have e : (b ^ (j + 1)).fdiv b = b ^ j := by
        rw [Int.pow_succ, Int.fdiv_eq_ediv_of_nonneg _ (by omega)]
        exact Int.mul_ediv_cancel _ (by omega)
      rw [whl1]
      simp_arith [hd, b_law_fraction_1, b0, lb, e]
      rw [← b_law_fraction_1]
      exact q
    · refine ⟨j + 1, ?_, by omega⟩
      have hd := decide_eq_false h
      rw [whl1]
      simp_arith [hd]
theorem it4 (a b c d : PyData) {v : Int} (h0 : 0 ≤ v) (h1 : v < 4) : item (.list [a, b, c, d]) (.int v) = some (if v = 0 then a else if v = 1 then b else if v = 2 then c else d) := by
  have : v = 0 ∨ v = 1 ∨ v = 2 ∨ v = 3 := by omega
  rcases this with rfl | rfl | rfl | rfl <;> rfl
theorem max1 (x : Int) : ∃ z : Int, bMax2 [.int 1, .int x] = some (.f (.int z)) ∧ 1 ≤ z ∧ (z = 1 ∨ z = x) := by
  refine ⟨if x > 1 then x else 1, rfl, ?_, ?_⟩ <;> split <;> omega
theorem pow_v (b : Int) {v : Int} (h0 : 0 ≤ v) (h1 : v < 4) : ∃ j : Nat, j ≤ 3 ∧ (if v = 0 then PyData.int 1 else if v = 1 then .int b else if v = 2 then .int (b * b) else .int (b * b * b)) = .int (b ^ j) := by
  have : v = 0 ∨ v = 1 ∨ v = 2 ∨ v = 3 := by omega
  rcases this with rfl | rfl | rfl | rfl
  · exact ⟨0, by omega, by simp⟩
  · exact ⟨1, by omega, by simp [Int.pow_succ]⟩
  · exact ⟨2, by omega, by simp [Int.pow_succ]⟩
  · exact ⟨3, by omega, by simp [Int.pow_succ]⟩
theorem r_law_fraction {n : Nat} {w : W} {b most : Int} (hw : Pen n w) (hn : n < 100000) (hb : 1 < b) (hb2 : b ≤ 10) (hm : 1 ≤ most) (hm2 : most < 10 ^ 30) :
    ∃ p q w', f_law_fraction.run [w, .f (.int b), .f (.int most)] = .ret (.f (fr p q)) [some w', none, none] ∧ Fr p q ∧ q ≤ most ∧ Pen (n + 4) w' := by
  have hB : (10 : Int) ^ 30 < 2 ^ 8000 := by decide
  obtain ⟨v1, w1, e1, a1, b1, p1⟩ := r_take hw (by omega) (m := 3) (by decide) (by decide)
  obtain ⟨v2, w2, e2, a2, b2, p2⟩ := r_take p1 (by omega) (m := most) (by omega) (by omega)
  obtain ⟨f1, q1⟩ := pen_fz hw
  obtain ⟨f2, q2⟩ := pen_fz p1
  obtain ⟨f3, q3⟩ := pen_fz p2
  -- the end
  have fin : ∀ (wh : Int) (m : Nat) (w3 : W), 1 ≤ wh → wh ≤ most → m ≤ n + 3 → Pen m w3 → ∃ p q w', (∃ v, f_pen_take.run [w3, .f (.int (wh + 1))] = .ret (.f (.int v)) [some w', none] ∧ f_law_reduced.run [.f (.int v), .f (.int wh)] = .ret (.f (fr p q)) [none, none]) ∧ Fr p q ∧ q ≤ most ∧ Pen (n + 4) w' := by
    intro wh m w3 h0 h1 h2 hp
    obtain ⟨v, w4, e4, a4, b4, p4⟩ := r_take hp (by omega) (m := wh + 1) (by omega) (by omega)
    obtain ⟨p, q, e, F, _, hq, _⟩ := low_fr (t := v) (u := wh) (by omega) a4 (by omega)
    refine ⟨p, q, w4, ⟨v, e4, ?_⟩, F, by omega, pen_le p4 (by omega)⟩
    rw [r_reduced (by omega) a4 (Nat.lt_trans (log_lt (k := 110) (by omega) (Int.lt_of_le_of_lt h1 (Int.lt_trans hm2 (by decide))) (by decide)) (by decide)), e]
  by_cases hv : 0 < v1
  · have hd := decide_eq_true hv
    obtain ⟨v3, w3, e3, a3, b3, p3⟩ := r_take p2 (by omega) (m := 4) (by decide) (by decide)
    obtain ⟨j, hj, ej⟩ := pow_v b a3 b3
    have it := it4 (.int 1) (.int b) (.int (b * b)) (.int (b * b * b)) a3 b3
    rw [ej] at it
    obtain ⟨f4, q4⟩ := pen_fz p3
    obtain ⟨k, wk, hk⟩ := w_fraction hb hb2 hm (some w3) (some (.f (.int v1))) j (by omega)
    obtain ⟨z, ez, z0, z1⟩ := max1 (b ^ k - (if (v1 == 2) = true then 1 else 0))
    have zm : z ≤ most := by
      rcases z1 with rfl | rfl
      · exact hm
      · split <;> omega
    obtain ⟨p, q, w', ⟨v, e5, e6⟩, F, hq, hp⟩ := fin z (n + 3) w3 z0 zm (by omega) p3
    refine ⟨p, q, w', ?_, F, hq, hp⟩
    have l1 : log2i b + log2i b < 1000000 := by have := log_one (by omega) hb2; omega
    have l2 : log2i (b * b) + log2i b < 1000000 := by
      have := log_one (by omega) hb2
      have := log_pow (b := b) (n := b * b) (by omega) hb2 2 (Int.mul_nonneg (by omega) (by omega)) (by simp [Int.pow_succ])
      omega
    unfold f_law_fraction b_law_fraction
    simp_arith [ev_run, io_pen_take, io_law_reduced, e1, e2, e3, e5, e6, q1, q2, q3, q4, hd, it, wk, ez, l1, l2, -item_l, -bMax2]
  · have hd := decide_eq_false hv
    obtain ⟨p, q, w', ⟨v, e5, e6⟩, F, hq, hp⟩ := fin (1 + v2) (n + 2) w2 (by omega) (by omega) (by omega) p2
    refine ⟨p, q, w', ?_, F, hq, hp⟩
    unfold f_law_fraction b_law_fraction
    simp_arith [ev_run, io_pen_take, io_law_reduced, e1, e2, e5, e6, q1, q2, q3, hd]
end Y


namespace K04
open PySem PySem.Spec PyProof.Rows L2 Z Y
def topS (i : Nat) : Stmt := PySem.Challenge.pw_dustwithin_k04_names_with_endless_ways.main.body.getD i (.Pass ⟨0, 0, 0, 0⟩)
section
variable {P : Program} {w : World} {K : PySem.W.Frag} {mg : Str → Option Value} {base : Heap}
abbrev s_lasting : Stmt := topS 1
theorem sc_lasting : FnScope ["rows", "digits", "left", "size", "name", "digit", "other"] ["rows", "digits"] (defScope s_lasting) := ⟨rfl, rfl, rfl, by decide +kernel, rfl, by decide +kernel, by decide +kernel⟩
theorem ok_lasting {f : Addr} {fd : FuncData} (F : Fun K "lasting" "lasting" s_lasting f fd) (gm : mg "lasting" = some (.ref f))  (m_len : mg "len" = none) (m_any : mg "any" = none)  : CalZ P w K mg base 1 "lasting" f_lasting :=
  cal_mk F gm (F.binds (ps := ["rows", "digits"]) fun _ _ _ _ _ _ us hl => match us, hl with | [_, _], _ => rfl) (z_def (k := 0) F sc_lasting rfl fun cdv A fr s H E c =>
    (zs_cons (zs_set (i := 2) (z_dc (own := [("name", 4)]) c.hu c.ca c.nd (by decide) (zi_of (z_dOf (z_var (i := 0) rfl (vis (by rfl))))) (blkOk_by (by rfl)) (fun _ _ _ _ _ => (zg_name (i := 4) (by rfl) c.nd rfl (loc (by rfl)))) (fun _ _ _ _ _ => zts_nil) (fun _ _ _ _ _ => (z_dOf (z_var (i := 4) rfl (vis (by rfl))))) (fun _ _ _ _ _ => zd_bl)) (by rfl) c.nd rfl (loc (by rfl))) (zs_cons (zs_set (i := 3) (z_neg zo_int) (by rfl) c.nd rfl (loc (by rfl))) (zs_cons (zs_whl c.hp (zt_cmp c.hu (z_ovar (i := 3) rfl (vis (by rfl))) (z_oOf (z_biB c.hu c.ca c.gd cr_len (z_osCons (z_ovar (i := 2) rfl (vis (by rfl))) z_osNil) (by rfl) m_len (by decide +kernel))) (nomark _)) (zs_cons (zs_set (i := 3) (z_biB c.hu c.ca c.gd cr_len (z_osCons (z_ovar (i := 2) rfl (vis (by rfl))) z_osNil) (by rfl) m_len (by decide +kernel)) (by rfl) c.nd rfl (loc (by rfl))) (zs_cons (zs_set (i := 2) (z_dc (own := [("name", 4)]) c.hu c.ca c.nd (by decide) (zi_of (z_dOf (z_var (i := 2) rfl (vis (by rfl))))) (blkOk_by (by rfl)) (fun _ _ _ _ _ => (zg_name (i := 4) (by rfl) c.nd rfl (loc (by rfl)))) (fun _ _ _ _ _ => (zts_one (zt_tru (z_oOf (z_biB c.hu c.ca c.gd cr_any (z_osCons (z_oOf (z_lc (own := [("digit", 5), ("other", 6)]) c.ca c.nd (by decide) (zi_of (z_dOf (z_idx c.hu (z_ovar (i := 0) rfl (vis (by rfl))) (z_ovar (i := 4) rfl (vis (by rfl)))))) (blkOk_by (by rfl)) (fun _ _ _ _ _ => (zg_tup c.ca (zgs_cons (zg_name (i := 5) (by rfl) c.nd rfl (loc (by rfl))) (zgs_cons (zg_name (i := 6) (by rfl) c.nd rfl (loc (by rfl))) zgs_nil)))) (fun _ _ _ _ _ => zts_nil) (fun _ _ _ _ _ => (z_dOf (z_vB (z_and (z_cmp c.hu (z_ovar (i := 5) rfl (vis (by rfl))) (z_ovar (i := 1) rfl (vis (by rfl))) (by with_unfolding_all rfl)) (z_one (z_cmp c.hu (z_ovar (i := 6) rfl (vis (by rfl))) (z_ovar (i := 2) rfl (vis (by rfl))) (by with_unfolding_all rfl))))))))) z_osNil) (by rfl) m_any (by decide +kernel)))))) (fun _ _ _ _ _ => (z_dOf (z_var (i := 4) rfl (vis (by rfl))))) (fun _ _ _ _ _ => zd_bl)) (by rfl) c.nd rfl (loc (by rfl))) zs_nil))) (zs_cons (zs_ret (z_move (i := 2) rfl (vis (by rfl)))) zs_nil)))))
abbrev s_live : Stmt := topS 2
theorem sc_live : FnScope ["book", "base", "rows"] ["book"] (defScope s_live) := ⟨rfl, rfl, rfl, by decide +kernel, rfl, by decide +kernel, by decide +kernel⟩
theorem ok_live {f : Addr} {fd : FuncData} (F : Fun K "live" "live" s_live f fd) (gm : mg "live" = some (.ref f)) (c_lasting : CalZ P w K mg base 1 "lasting" f_lasting) (m_sorted : mg "sorted" = none) (m_list : mg "list" = none) (m_range : mg "range" = none)  : CalZ P w K mg base 2 "live" f_live :=
  cal_mk F gm (F.binds (ps := ["book"]) fun _ _ _ _ _ _ us hl => match us, hl with | [_], _ => rfl) (z_def (k := 1) F sc_live rfl fun cdv A fr s H E c =>
    (zs_cons (zs_bnd (z_dOf (z_var (i := 0) rfl (vis (by rfl)))) (zg_tup c.ca (zgs_cons (zg_name (i := 1) (by rfl) c.nd rfl (loc (by rfl))) (zgs_cons (zg_name (i := 2) (by rfl) c.nd rfl (loc (by rfl))) zgs_nil)))) (zs_cons (zs_ret (z_biB c.hu c.ca c.gd cr_sorted (z_osCons (z_oOf (z_c c_lasting c.rm (by decide) c.gd (by rfl) (z_osCons (z_ovar (i := 2) rfl (vis (by rfl))) (z_osCons (z_oOf (z_lr c.ca (by rfl) m_list (by rfl) m_range (z_ovar (i := 1) rfl (vis (by rfl))))) z_osNil)))) z_osNil) (by rfl) m_sorted (by decide +kernel))) zs_nil)))
abbrev s_pen_spread : Stmt := topS 4
theorem sc_pen_spread : FnScope ["cell", "at", "primes", "one", "two", "three"] ["cell", "at"] (defScope s_pen_spread) := ⟨rfl, rfl, rfl, by decide +kernel, rfl, by decide +kernel, by decide +kernel⟩
theorem ok_pen_spread {f : Addr} {fd : FuncData} (F : Fun K "_law_spread" "_law_spread" s_pen_spread f fd) (gm : mg "_law_spread" = some (.ref f))    : CalZ P w K mg base 1 "_law_spread" f_pen_spread :=
  cal_mk F gm (F.binds (ps := ["cell", "at"]) fun _ _ _ _ _ _ us hl => match us, hl with | [_, _], _ => rfl) (z_def (k := 0) F sc_pen_spread rfl fun cdv A fr s H E c =>
    (zs_cons (zs_if (zt_cmp c.hu (z_ovar (i := 0) rfl (vis (by rfl))) (z_oOf (z_bin zo_int zo_int)) (nomark _)) (zs_cons (zs_ret (z_move (i := 0) rfl (vis (by rfl)))) zs_nil) zs_nil) (zs_cons (zs_set (i := 2) (z_lst (z_dsCons zd_int (z_dsCons zd_int (z_dsCons zd_int (z_dsCons zd_int (z_dsCons zd_int (z_dsCons zd_int (z_dsCons zd_int (z_dsCons zd_int z_dsNil))))))))) (by rfl) c.nd rfl (loc (by rfl))) (zs_cons (zs_set (i := 2) (z_bin (z_ovar (i := 2) rfl (vis (by rfl))) (z_oOf (z_lst (z_dsCons zd_int (z_dsCons zd_int (z_dsCons zd_int (z_dsCons zd_int (z_dsCons zd_int z_dsNil)))))))) (by rfl) c.nd rfl (loc (by rfl))) (zs_cons (zs_set (i := 3) (z_bin (z_oOf (z_bin (z_oOf (z_bin (z_oOf (z_bin (z_oOf (z_bin (z_oOf (z_bin (z_ovar (i := 0) rfl (vis (by rfl))) zo_int)) (z_oOf (z_bin (z_oOf (z_bin zo_int (z_ovar (i := 1) rfl (vis (by rfl))))) zo_int)))) (z_oOf (z_bin (z_ovar (i := 1) rfl (vis (by rfl))) zo_int)))) zo_int)) zo_int)) (z_oOf (z_idx c.hu (z_ovar (i := 2) rfl (vis (by rfl))) (z_oOf (z_bin (z_ovar (i := 1) rfl (vis (by rfl))) zo_int))))) (by rfl) c.nd rfl (loc (by rfl))) (zs_cons (zs_set (i := 4) (z_bin (z_oOf (z_bin (z_oOf (z_bin (z_oOf (z_bin (z_oOf (z_bin (z_ovar (i := 3) rfl (vis (by rfl))) (z_oOf (z_bin (z_ovar (i := 1) rfl (vis (by rfl))) zo_int)))) (z_oOf (z_bin (z_ovar (i := 0) rfl (vis (by rfl))) zo_int)))) zo_int)) zo_int)) (z_oOf (z_idx c.hu (z_ovar (i := 2) rfl (vis (by rfl))) (z_oOf (z_bin (z_oOf (z_bin (z_ovar (i := 1) rfl (vis (by rfl))) zo_int)) zo_int))))) (by rfl) c.nd rfl (loc (by rfl))) (zs_cons (zs_set (i := 5) (z_bin (z_oOf (z_bin (z_oOf (z_bin (z_oOf (z_bin (z_ovar (i := 4) rfl (vis (by rfl))) (z_oOf (z_bin (z_ovar (i := 3) rfl (vis (by rfl))) zo_int)))) (z_ovar (i := 1) rfl (vis (by rfl))))) zo_int)) (z_oOf (z_idx c.hu (z_ovar (i := 2) rfl (vis (by rfl))) (z_oOf (z_bin (z_oOf (z_bin (z_ovar (i := 1) rfl (vis (by rfl))) zo_int)) zo_int))))) (by rfl) c.nd rfl (loc (by rfl))) (zs_cons (zs_ret (z_bin (z_oOf (z_bin (z_oOf (z_bin (z_oOf (z_bin (z_ovar (i := 3) rfl (vis (by rfl))) zo_int)) (z_ovar (i := 4) rfl (vis (by rfl))))) zo_int)) (z_ovar (i := 5) rfl (vis (by rfl))))) zs_nil))))))))
abbrev s_pen_open : Stmt := topS 5
theorem sc_pen_open : FnScope ["script", "cells", "k", "cell"] ["script"] (defScope s_pen_open) := ⟨rfl, rfl, rfl, by decide +kernel, rfl, by decide +kernel, by decide +kernel⟩
theorem ok_pen_open {f : Addr} {fd : FuncData} (F : Fun K "_law_open" "_law_open" s_pen_open f fd) (gm : mg "_law_open" = some (.ref f))  (m_enumerate : mg "enumerate" = none) (m_list : mg "list" = none)  : CalZ P w K mg base 1 "_law_open" f_pen_open :=
  cal_mk F gm (F.binds (ps := ["script"]) fun _ _ _ _ _ _ us hl => match us, hl with | [_], _ => rfl) (z_def (k := 0) F sc_pen_open rfl fun cdv A fr s H E c =>
    (zs_cons (zs_set (i := 1) (z_biT c.hu c.ca c.gd cr_list (z_osCons (z_oOf (z_slc (z_ovar (i := 0) rfl (vis (by rfl))) zp_no (zp_i zo_int))) z_osNil) (by rfl) m_list (by decide +kernel)) (by rfl) c.nd rfl (loc (by rfl))) (zs_cons (zs_for c.hp c.ca (zi_en (z_dsCons (z_dOf (z_slc (z_ovar (i := 0) rfl (vis (by rfl))) (zp_i zo_int) (zp_i zo_int))) z_dsNil) (by rfl) m_enumerate) (zg_tup c.ca (zgs_cons (zg_name (i := 2) (by rfl) c.nd rfl (loc (by rfl))) (zgs_cons (zg_name (i := 3) (by rfl) c.nd rfl (loc (by rfl))) zgs_nil))) (zs_cons (zs_put c.hu (z_dOf (z_bin (z_oOf (z_idx c.hu (z_ovar (i := 1) rfl (vis (by rfl))) (z_oOf (z_bin (z_ovar (i := 2) rfl (vis (by rfl))) zo_int)))) (z_ovar (i := 3) rfl (vis (by rfl))))) (z_oOf (z_bin (z_ovar (i := 2) rfl (vis (by rfl))) zo_int)) (i := 1) rfl (vis (by rfl))) zs_nil)) (zs_cons (zs_ret (z_lst (z_dsCons (z_dOf (z_var (i := 1) rfl (vis (by rfl)))) (z_dsCons zd_int (z_dsCons zd_int z_dsNil))))) zs_nil))))
abbrev s_pen_take : Stmt := topS 6
theorem sc_pen_take : FnScope ["pen", "many", "found", "at", "cell"] ["pen", "many"] (defScope s_pen_take) := ⟨rfl, rfl, rfl, by decide +kernel, rfl, by decide +kernel, by decide +kernel⟩
theorem ok_pen_take {f : Addr} {fd : FuncData} (F : Fun K "_law_take" "_law_take" s_pen_take f fd) (gm : mg "_law_take" = some (.ref f)) (c_pen_spread : CalZ P w K mg base 1 "_law_spread" f_pen_spread) (m_len : mg "len" = none)  : CalZ P w K mg base 2 "_law_take" f_pen_take :=
  cal_mk F gm (F.binds (ps := ["pen", "many"]) fun _ _ _ _ _ _ us hl => match us, hl with | [_, _], _ => rfl) (z_def (k := 1) F sc_pen_take rfl fun cdv A fr s H E c =>
    (zs_cons (zs_if (zt_cmp c.hu (z_oOf (z_idx c.hu (z_ovar (i := 0) rfl (vis (by rfl))) zo_int)) (z_ovar (i := 1) rfl (vis (by rfl))) (nomark _)) (zs_cons (zs_set (i := 3) (z_idx c.hu (z_ovar (i := 0) rfl (vis (by rfl))) zo_int) (by rfl) c.nd rfl (loc (by rfl))) (zs_cons (zs_set (i := 4) z_int (by rfl) c.nd rfl (loc (by rfl))) (zs_cons (zs_if (zt_cmp c.hu (z_ovar (i := 3) rfl (vis (by rfl))) (z_oOf (z_biB c.hu c.ca c.gd cr_len (z_osCons (z_oOf (z_idx c.hu (z_ovar (i := 0) rfl (vis (by rfl))) zo_int)) z_osNil) (by rfl) m_len (by decide +kernel))) (nomark _)) (zs_cons (zs_set (i := 4) (z_idx c.hu (z_oOf (z_idx c.hu (z_ovar (i := 0) rfl (vis (by rfl))) zo_int)) (z_ovar (i := 3) rfl (vis (by rfl)))) (by rfl) c.nd rfl (loc (by rfl))) zs_nil) (zs_cons (zs_if (zt_cmp c.hu (z_oOf (z_biB c.hu c.ca c.gd cr_len (z_osCons (z_oOf (z_idx c.hu (z_ovar (i := 0) rfl (vis (by rfl))) zo_int)) z_osNil) (by rfl) m_len (by decide +kernel))) zo_int (nomark _)) (zs_cons (zs_set (i := 4) (z_bin (z_oOf (z_idx c.hu (z_oOf (z_idx c.hu (z_ovar (i := 0) rfl (vis (by rfl))) zo_int)) (z_oOf (z_bin (z_oOf (z_bin (z_oOf (z_bin (z_ovar (i := 3) rfl (vis (by rfl))) zo_int)) zo_int)) (z_oOf (z_biB c.hu c.ca c.gd cr_len (z_osCons (z_oOf (z_idx c.hu (z_ovar (i := 0) rfl (vis (by rfl))) zo_int)) z_osNil) (by rfl) m_len (by decide +kernel))))))) (z_oOf (z_bin (z_oOf (z_bin zo_int zo_int)) (z_ovar (i := 3) rfl (vis (by rfl)))))) (by rfl) c.nd rfl (loc (by rfl))) zs_nil) zs_nil) zs_nil)) (zs_cons (zs_put c.hu (z_dOf (z_bin (z_ovar (i := 3) rfl (vis (by rfl))) zo_int)) zo_int (i := 0) rfl (vis (by rfl))) (zs_cons (zs_put c.hu (z_dOf (z_c c_pen_spread c.rm (by decide) c.gd (by rfl) (z_osCons (z_ovar (i := 4) rfl (vis (by rfl))) (z_osCons (z_ovar (i := 3) rfl (vis (by rfl))) z_osNil)))) zo_int (i := 0) rfl (vis (by rfl))) zs_nil))))) zs_nil) (zs_cons (zs_set (i := 2) (z_bin (z_oOf (z_idx c.hu (z_ovar (i := 0) rfl (vis (by rfl))) zo_int)) (z_ovar (i := 1) rfl (vis (by rfl)))) (by rfl) c.nd rfl (loc (by rfl))) (zs_cons (zs_put c.hu (z_dOf (z_bin (z_oOf (z_idx c.hu (z_ovar (i := 0) rfl (vis (by rfl))) zo_int)) (z_ovar (i := 1) rfl (vis (by rfl))))) zo_int (i := 0) rfl (vis (by rfl))) (zs_cons (zs_ret (z_move (i := 2) rfl (vis (by rfl)))) zs_nil)))))
abbrev s_law_same : Stmt := topS 7
theorem sc_law_same : FnScope ["found", "due", "one", "other"] ["found", "due"] (defScope s_law_same) := ⟨rfl, rfl, rfl, by decide +kernel, rfl, by decide +kernel, by decide +kernel⟩
theorem ok_law_same {f : Addr} {fd : FuncData} (F : Fun K "_law_same" "_law_same" s_law_same f fd) (gm : mg "_law_same" = some (.ref f))  (m_zip : mg "zip" = none) (m_len : mg "len" = none) (m_isinstance : mg "isinstance" = none) (m_tuple : mg "tuple" = none) (m_list : mg "list" = none) (m_int : mg "int" = none) (m_str : mg "str" = none) (m_bool : mg "bool" = none)  : ∀ n, CalZ P w K mg base (0 + n) "_law_same" (f_law_same n) :=
  z_rec (qual := "_law_same") F gm sc_law_same rfl (F.binds (ps := ["found", "due"]) fun _ _ _ _ _ _ us hl => match us, hl with | [_, _], _ => rfl) fun k fu hk hio c_self cdv A fr s H E c =>
    (zs_cons (zs_if (zw_or (zt_cmp c.hu (z_ovar (i := 1) rfl (vis (by rfl))) zo_non (nomark _)) (zw_or1 (zt_cmp c.hu (z_ovar (i := 0) rfl (vis (by rfl))) zo_non (nomark _)))).t (zs_cons (zs_ret (z_vB (z_and (z_cmp c.hu (z_ovar (i := 1) rfl (vis (by rfl))) zo_non (nomark _)) (z_one (z_cmp c.hu (z_ovar (i := 0) rfl (vis (by rfl))) zo_non (nomark _)))))) zs_nil) zs_nil) (zs_cons (zs_if (zw_or (zt_val (z_isi (z_ovar (i := 1) rfl (vis (by rfl))) (by decide) (by rfl) m_isinstance (by rfl) m_bool (by decide +kernel))) (zw_or1 (zt_val (z_isi (z_ovar (i := 0) rfl (vis (by rfl))) (by decide) (by rfl) m_isinstance (by rfl) m_bool (by decide +kernel))))).t (zs_cons (zs_ret (z_vB (z_and (z_isi (z_ovar (i := 1) rfl (vis (by rfl))) (by decide) (by rfl) m_isinstance (by rfl) m_bool (by decide +kernel)) (z_and (z_isi (z_ovar (i := 0) rfl (vis (by rfl))) (by decide) (by rfl) m_isinstance (by rfl) m_bool (by decide +kernel)) (z_one (z_cmp c.hu (z_ovar (i := 0) rfl (vis (by rfl))) (z_ovar (i := 1) rfl (vis (by rfl))) (nomark _))))))) zs_nil) zs_nil) (zs_cons (zs_if (zt_val (z_isiT (z_ovar (i := 1) rfl (vis (by rfl))) (tn_cons (by decide) (by rfl) m_int (by decide +kernel) (tn_cons (by decide) (by rfl) m_str (by decide +kernel) tn_nil)) (by rfl) m_isinstance)) (zs_cons (zs_if (zt_cmp c.hu (z_oOf (z_vB (z_isi (z_ovar (i := 0) rfl (vis (by rfl))) (by decide) (by rfl) m_isinstance (by rfl) m_int (by decide +kernel)))) (z_oOf (z_vB (z_isi (z_ovar (i := 1) rfl (vis (by rfl))) (by decide) (by rfl) m_isinstance (by rfl) m_int (by decide +kernel)))) (nomark _)) (zs_cons (zs_ret z_bl) zs_nil) zs_nil) (zs_cons (zs_ret (z_vB (z_and (z_isiT (z_ovar (i := 0) rfl (vis (by rfl))) (tn_cons (by decide) (by rfl) m_int (by decide +kernel) (tn_cons (by decide) (by rfl) m_str (by decide +kernel) tn_nil)) (by rfl) m_isinstance) (z_one (z_cmp c.hu (z_ovar (i := 0) rfl (vis (by rfl))) (z_ovar (i := 1) rfl (vis (by rfl))) (nomark _)))))) zs_nil)) zs_nil) (zs_cons (zs_if (zw_or (zt_cmp c.hu (z_oOf (z_vB (z_isi (z_ovar (i := 1) rfl (vis (by rfl))) (by decide) (by rfl) m_isinstance (by rfl) m_tuple (by decide +kernel)))) (z_oOf (z_vB (z_isi (z_ovar (i := 0) rfl (vis (by rfl))) (by decide) (by rfl) m_isinstance (by rfl) m_tuple (by decide +kernel)))) (nomark _)) (zw_or1 (zt_cmp c.hu (z_oOf (z_vB (z_isi (z_ovar (i := 1) rfl (vis (by rfl))) (by decide) (by rfl) m_isinstance (by rfl) m_list (by decide +kernel)))) (z_oOf (z_vB (z_isi (z_ovar (i := 0) rfl (vis (by rfl))) (by decide) (by rfl) m_isinstance (by rfl) m_list (by decide +kernel)))) (nomark _)))).t (zs_cons (zs_ret z_bl) zs_nil) zs_nil) (zs_cons (zs_if (zt_cmp c.hu (z_oOf (z_biB c.hu c.ca c.gd cr_len (z_osCons (z_ovar (i := 0) rfl (vis (by rfl))) z_osNil) (by rfl) m_len (by decide +kernel))) (z_oOf (z_biB c.hu c.ca c.gd cr_len (z_osCons (z_ovar (i := 1) rfl (vis (by rfl))) z_osNil) (by rfl) m_len (by decide +kernel))) (nomark _)) (zs_cons (zs_ret z_bl) zs_nil) zs_nil) (zs_cons (zs_ret (z_vB (z_cmp c.hu zo_bl (z_oOf (z_lc (own := [("one", 2), ("other", 3)]) c.ca c.nd (by decide) (zi_zp (z_dsCons (z_dOf (z_var (i := 0) rfl (vis (by rfl)))) (z_dsCons (z_dOf (z_var (i := 1) rfl (vis (by rfl)))) z_dsNil)) (by rfl) m_zip) (blkOk_by (by rfl)) (fun _ _ _ _ _ => (zg_tup c.ca (zgs_cons (zg_name (i := 2) (by rfl) c.nd rfl (loc (by rfl))) (zgs_cons (zg_name (i := 3) (by rfl) c.nd rfl (loc (by rfl))) zgs_nil)))) (fun _ _ _ _ _ => zts_nil) (fun _ _ _ _ _ => (z_dOf (z_c c_self c.rm (Nat.le_refl _) c.gd (by rfl) (z_osCons (z_ovar (i := 2) rfl (vis (by rfl))) (z_osCons (z_ovar (i := 3) rfl (vis (by rfl))) z_osNil))))))) (by with_unfolding_all rfl)))) zs_nil))))))
abbrev s_law_names : Stmt := topS 8
theorem sc_law_names : FnScope ["pen", "many", "signs", "stem", "at", "first", "way", "k"] ["pen", "many"] (defScope s_law_names) := ⟨rfl, rfl, rfl, by decide +kernel, rfl, by decide +kernel, by decide +kernel⟩
theorem ok_law_names {f : Addr} {fd : FuncData} (F : Fun K "_law_names" "_law_names" s_law_names f fd) (gm : mg "_law_names" = some (.ref f)) (c_pen_take : CalZ P w K mg base 2 "_law_take" f_pen_take) (m_range : mg "range" = none) (m_len : mg "len" = none)  : CalZ P w K mg base 3 "_law_names" f_law_names :=
  cal_mk F gm (F.binds (ps := ["pen", "many"]) fun _ _ _ _ _ _ us hl => match us, hl with | [_, _], _ => rfl) (z_def (k := 2) F sc_law_names rfl fun cdv A fr s H E c =>
    (zs_cons (zs_set (i := 2) z_str (by rfl) c.nd rfl (loc (by rfl))) (zs_cons (zs_set (i := 3) (z_me c.hu c.ca c.gd PySem.F.plainAttrs_str PySem.F.slot_str_join PySem.F.type_str_join me_join (by decide) zo_str (z_osCons (z_oOf (z_lc (own := [("k", 7)]) c.ca c.nd (by decide) (zi_r1 (z_dsCons (z_dOf (z_c c_pen_take c.rm (by decide) c.gd (by rfl) (z_osCons (z_ovar (i := 0) rfl (vis (by rfl))) (z_osCons zo_int z_osNil)))) z_dsNil) (by rfl) m_range) (blkOk_by (by rfl)) (fun _ _ _ _ _ => (zg_name (i := 7) (by rfl) c.nd rfl (loc (by rfl)))) (fun _ _ _ _ _ => zts_nil) (fun _ _ _ _ _ => (z_dOf (z_idx c.hu (z_ovar (i := 2) rfl (vis (by rfl))) (z_oOf (z_c c_pen_take c.rm (by decide) c.gd (by rfl) (z_osCons (z_ovar (i := 0) rfl (vis (by rfl))) (z_osCons zo_int z_osNil))))))))) z_osNil)) (by rfl) c.nd rfl (loc (by rfl))) (zs_cons (zs_set (i := 4) (z_c c_pen_take c.rm (by decide) c.gd (by rfl) (z_osCons (z_ovar (i := 0) rfl (vis (by rfl))) (z_osCons (z_oOf (z_bin (z_oOf (z_biB c.hu c.ca c.gd cr_len (z_osCons (z_ovar (i := 3) rfl (vis (by rfl))) z_osNil) (by rfl) m_len (by decide +kernel))) zo_int)) z_osNil))) (by rfl) c.nd rfl (loc (by rfl))) (zs_cons (zs_set (i := 5) (z_c c_pen_take c.rm (by decide) c.gd (by rfl) (z_osCons (z_ovar (i := 0) rfl (vis (by rfl))) (z_osCons zo_int z_osNil))) (by rfl) c.nd rfl (loc (by rfl))) (zs_cons (zs_set (i := 6) (z_c c_pen_take c.rm (by decide) c.gd (by rfl) (z_osCons (z_ovar (i := 0) rfl (vis (by rfl))) (z_osCons zo_int z_osNil))) (by rfl) c.nd rfl (loc (by rfl))) (zs_cons (zs_if (zt_cmp c.hu (z_ovar (i := 6) rfl (vis (by rfl))) zo_int (nomark _)) (zs_cons (zs_ret (z_lc (own := [("k", 7)]) c.ca c.nd (by decide) (zi_r1 (z_dsCons (z_dOf (z_var (i := 1) rfl (vis (by rfl)))) z_dsNil) (by rfl) m_range) (blkOk_by (by rfl)) (fun _ _ _ _ _ => (zg_name (i := 7) (by rfl) c.nd rfl (loc (by rfl)))) (fun _ _ _ _ _ => zts_nil) (fun _ _ _ _ _ => (z_dOf (z_bin (z_oOf (z_idx c.hu (z_ovar (i := 2) rfl (vis (by rfl))) (z_oOf (z_bin (z_oOf (z_bin (z_ovar (i := 5) rfl (vis (by rfl))) (z_oOf (z_bin zo_int (z_ovar (i := 7) rfl (vis (by rfl))))))) zo_int)))) (z_oOf (z_bin zo_int (z_oOf (z_bin (z_oOf (z_bin (z_ovar (i := 4) rfl (vis (by rfl))) (z_oOf (z_bin zo_int (z_ovar (i := 7) rfl (vis (by rfl))))))) zo_int))))))))) zs_nil) zs_nil) (zs_cons (zs_if (zw_and (zt_cmp c.hu (z_ovar (i := 6) rfl (vis (by rfl))) zo_int (nomark _)) (zw_and1 (zt_cmp c.hu (z_ovar (i := 1) rfl (vis (by rfl))) zo_int (nomark _)))).t (zs_cons (zs_ret (z_lc (own := [("k", 7)]) c.ca c.nd (by decide) (zi_r1 (z_dsCons (z_dOf (z_var (i := 1) rfl (vis (by rfl)))) z_dsNil) (by rfl) m_range) (blkOk_by (by rfl)) (fun _ _ _ _ _ => (zg_name (i := 7) (by rfl) c.nd rfl (loc (by rfl)))) (fun _ _ _ _ _ => zts_nil) (fun _ _ _ _ _ => (z_dOf (z_bin (z_oOf (z_idx c.hu (z_ovar (i := 2) rfl (vis (by rfl))) (z_ovar (i := 5) rfl (vis (by rfl))))) (z_oOf (z_bin zo_int (z_oOf (z_bin (z_oOf (z_bin (z_ovar (i := 4) rfl (vis (by rfl))) (z_ovar (i := 7) rfl (vis (by rfl))))) zo_int))))))))) zs_nil) zs_nil) (zs_cons (zs_ret (z_lc (own := [("k", 7)]) c.ca c.nd (by decide) (zi_r1 (z_dsCons (z_dOf (z_var (i := 1) rfl (vis (by rfl)))) z_dsNil) (by rfl) m_range) (blkOk_by (by rfl)) (fun _ _ _ _ _ => (zg_name (i := 7) (by rfl) c.nd rfl (loc (by rfl)))) (fun _ _ _ _ _ => zts_nil) (fun _ _ _ _ _ => (z_dOf (z_bin (z_oOf (z_bin (z_oOf (z_slc (z_ovar (i := 3) rfl (vis (by rfl))) zp_no (zp_i (z_ovar (i := 4) rfl (vis (by rfl)))))) (z_oOf (z_idx c.hu (z_ovar (i := 2) rfl (vis (by rfl))) (z_oOf (z_bin (z_oOf (z_bin (z_ovar (i := 5) rfl (vis (by rfl))) (z_oOf (z_bin zo_int (z_ovar (i := 7) rfl (vis (by rfl))))))) zo_int)))))) (z_oOf (z_slc (z_ovar (i := 3) rfl (vis (by rfl))) (zp_i (z_ovar (i := 4) rfl (vis (by rfl)))) zp_no))))))) zs_nil)))))))))
abbrev s_law_row : Stmt := topS 9
theorem sc_law_row : FnScope ["pen", "base", "names", "most", "found", "turn"] ["pen", "base", "names", "most"] (defScope s_law_row) := ⟨rfl, rfl, rfl, by decide +kernel, rfl, by decide +kernel, by decide +kernel⟩
theorem ok_law_row {f : Addr} {fd : FuncData} (F : Fun K "_law_row" "_law_row" s_law_row f fd) (gm : mg "_law_row" = some (.ref f)) (c_pen_take : CalZ P w K mg base 2 "_law_take" f_pen_take) (m_tuple : mg "tuple" = none) (m_sorted : mg "sorted" = none) (m_range : mg "range" = none) (m_len : mg "len" = none)  : CalZ P w K mg base 3 "_law_row" f_law_row :=
  cal_mk F gm (F.binds (ps := ["pen", "base", "names", "most"]) fun _ _ _ _ _ _ us hl => match us, hl with | [_, _, _, _], _ => rfl) (z_def (k := 2) F sc_law_row rfl fun cdv A fr s H E c =>
    (zs_cons (zs_set (i := 4) z_dct0 (by rfl) c.nd rfl (loc (by rfl))) (zs_cons (zs_for c.hp c.ca (zi_r1 (z_dsCons (z_dOf (z_c c_pen_take c.rm (by decide) c.gd (by rfl) (z_osCons (z_ovar (i := 0) rfl (vis (by rfl))) (z_osCons (z_oOf (z_bin (z_ovar (i := 3) rfl (vis (by rfl))) zo_int)) z_osNil)))) z_dsNil) (by rfl) m_range) (zg_name (i := 5) (by rfl) c.nd rfl (loc (by rfl))) (zs_cons (zs_put c.hu zd_bl (z_oOf (z_tup (z_dsCons (z_dOf (z_c c_pen_take c.rm (by decide) c.gd (by rfl) (z_osCons (z_ovar (i := 0) rfl (vis (by rfl))) (z_osCons (z_ovar (i := 1) rfl (vis (by rfl))) z_osNil)))) (z_dsCons (z_dOf (z_idx c.hu (z_ovar (i := 2) rfl (vis (by rfl))) (z_oOf (z_c c_pen_take c.rm (by decide) c.gd (by rfl) (z_osCons (z_ovar (i := 0) rfl (vis (by rfl))) (z_osCons (z_oOf (z_biB c.hu c.ca c.gd cr_len (z_osCons (z_ovar (i := 2) rfl (vis (by rfl))) z_osNil) (by rfl) m_len (by decide +kernel))) z_osNil)))))) z_dsNil)))) (i := 4) rfl (vis (by rfl))) zs_nil)) (zs_cons (zs_ret (z_biT c.hu c.ca c.gd cr_tup (z_osCons (z_oOf (z_biB c.hu c.ca c.gd cr_sorted (z_osCons (z_ovar (i := 4) rfl (vis (by rfl))) z_osNil) (by rfl) m_sorted (by decide +kernel))) z_osNil) (by rfl) m_tuple (by decide +kernel))) zs_nil))))
abbrev s_law_book : Stmt := topS 10
theorem sc_law_book : FnScope ["pen", "base", "names", "most", "rows", "name", "other", "d", "e", "way", "row", "some", "k", "pair"] ["pen", "base", "names", "most"] (defScope s_law_book) := ⟨rfl, rfl, rfl, by decide +kernel, rfl, by decide +kernel, by decide +kernel⟩
theorem ok_law_book {f : Addr} {fd : FuncData} (F : Fun K "_law_book" "_law_book" s_law_book f fd) (gm : mg "_law_book" = some (.ref f)) (c_law_row : CalZ P w K mg base 3 "_law_row" f_law_row) (c_pen_take : CalZ P w K mg base 2 "_law_take" f_pen_take) (m_tuple : mg "tuple" = none) (m_sorted : mg "sorted" = none) (m_dict : mg "dict" = none) (m_range : mg "range" = none) (m_len : mg "len" = none)  : CalZ P w K mg base 4 "_law_book" f_law_book :=
  cal_mk F gm (F.binds (ps := ["pen", "base", "names", "most"]) fun _ _ _ _ _ _ us hl => match us, hl with | [_, _, _, _], _ => rfl) (z_def (k := 3) F sc_law_book rfl fun cdv A fr s H E c =>
    (zs_cons (zs_set (i := 4) z_dct0 (by rfl) c.nd rfl (loc (by rfl))) (zs_cons (zs_for c.hp c.ca (zi_of (z_dOf (z_var (i := 2) rfl (vis (by rfl))))) (zg_name (i := 5) (by rfl) c.nd rfl (loc (by rfl))) (zs_cons (zs_set (i := 6) (z_idx c.hu (z_ovar (i := 2) rfl (vis (by rfl))) (z_oOf (z_c c_pen_take c.rm (by decide) c.gd (by rfl) (z_osCons (z_ovar (i := 0) rfl (vis (by rfl))) (z_osCons (z_oOf (z_biB c.hu c.ca c.gd cr_len (z_osCons (z_ovar (i := 2) rfl (vis (by rfl))) z_osNil) (by rfl) m_len (by decide +kernel))) z_osNil))))) (by rfl) c.nd rfl (loc (by rfl))) (zs_cons (zs_set (i := 7) (z_c c_pen_take c.rm (by decide) c.gd (by rfl) (z_osCons (z_ovar (i := 0) rfl (vis (by rfl))) (z_osCons (z_ovar (i := 1) rfl (vis (by rfl))) z_osNil))) (by rfl) c.nd rfl (loc (by rfl))) (zs_cons (zs_set (i := 8) (z_c c_pen_take c.rm (by decide) c.gd (by rfl) (z_osCons (z_ovar (i := 0) rfl (vis (by rfl))) (z_osCons (z_ovar (i := 1) rfl (vis (by rfl))) z_osNil))) (by rfl) c.nd rfl (loc (by rfl))) (zs_cons (zs_set (i := 9) (z_c c_pen_take c.rm (by decide) c.gd (by rfl) (z_osCons (z_ovar (i := 0) rfl (vis (by rfl))) (z_osCons zo_int z_osNil))) (by rfl) c.nd rfl (loc (by rfl))) (zs_cons (zs_set (i := 10) (z_c c_law_row c.rm (by decide) c.gd (by rfl) (z_osCons (z_ovar (i := 0) rfl (vis (by rfl))) (z_osCons (z_ovar (i := 1) rfl (vis (by rfl))) (z_osCons (z_ovar (i := 2) rfl (vis (by rfl))) (z_osCons (z_ovar (i := 3) rfl (vis (by rfl))) z_osNil))))) (by rfl) c.nd rfl (loc (by rfl))) (zs_cons (zs_if (zt_cmp c.hu (z_ovar (i := 9) rfl (vis (by rfl))) zo_int (nomark _)) (zs_cons (zs_set (i := 11) (z_lst (z_dsCons (z_dOf (z_lst (z_dsCons (z_dOf (z_tup (z_dsCons (z_dOf (z_var (i := 7) rfl (vis (by rfl)))) (z_dsCons (z_dOf (z_var (i := 5) rfl (vis (by rfl)))) z_dsNil)))) (z_dsCons (z_dOf (z_tup (z_dsCons (z_dOf (z_var (i := 8) rfl (vis (by rfl)))) (z_dsCons (z_dOf (z_var (i := 5) rfl (vis (by rfl)))) z_dsNil)))) z_dsNil)))) (z_dsCons (z_dOf (z_lc (own := [("k", 12)]) c.ca c.nd (by decide) (zi_r1 (z_dsCons (z_dOf (z_var (i := 1) rfl (vis (by rfl)))) z_dsNil) (by rfl) m_range) (blkOk_by (by rfl)) (fun _ _ _ _ _ => (zg_name (i := 12) (by rfl) c.nd rfl (loc (by rfl)))) (fun _ _ _ _ _ => zts_nil) (fun _ _ _ _ _ => (z_dOf (z_tup (z_dsCons (z_dOf (z_var (i := 12) rfl (vis (by rfl)))) (z_dsCons (z_dOf (z_var (i := 5) rfl (vis (by rfl)))) z_dsNil))))))) (z_dsCons (z_dOf (z_lst (z_dsCons (z_dOf (z_tup (z_dsCons zd_int (z_dsCons (z_dOf (z_var (i := 6) rfl (vis (by rfl)))) z_dsNil)))) (z_dsCons (z_dOf (z_tup (z_dsCons (z_dOf (z_bin (z_ovar (i := 1) rfl (vis (by rfl))) zo_int)) (z_dsCons (z_dOf (z_var (i := 5) rfl (vis (by rfl)))) z_dsNil)))) z_dsNil)))) z_dsNil)))) (by rfl) c.nd rfl (loc (by rfl))) (zs_cons (zs_set (i := 11) (z_bin (z_ovar (i := 11) rfl (vis (by rfl))) (z_oOf (z_lst (z_dsCons (z_dOf (z_lst (z_dsCons (z_dOf (z_tup (z_dsCons (z_dOf (z_var (i := 7) rfl (vis (by rfl)))) (z_dsCons (z_dOf (z_var (i := 5) rfl (vis (by rfl)))) z_dsNil)))) z_dsNil))) (z_dsCons (z_dOf (z_lst (z_dsCons (z_dOf (z_tup (z_dsCons (z_dOf (z_var (i := 7) rfl (vis (by rfl)))) (z_dsCons (z_dOf (z_var (i := 5) rfl (vis (by rfl)))) z_dsNil)))) (z_dsCons (z_dOf (z_tup (z_dsCons (z_dOf (z_var (i := 8) rfl (vis (by rfl)))) (z_dsCons (z_dOf (z_var (i := 6) rfl (vis (by rfl)))) z_dsNil)))) z_dsNil)))) (z_dsCons (z_dOf (z_lst (z_dsCons (z_dOf (z_tup (z_dsCons (z_dOf (z_var (i := 7) rfl (vis (by rfl)))) (z_dsCons (z_dOf (z_var (i := 6) rfl (vis (by rfl)))) z_dsNil)))) (z_dsCons (z_dOf (z_tup (z_dsCons (z_dOf (z_var (i := 7) rfl (vis (by rfl)))) (z_dsCons (z_dOf (z_var (i := 5) rfl (vis (by rfl)))) z_dsNil)))) z_dsNil)))) z_dsNil)))))) (by rfl) c.nd rfl (loc (by rfl))) (zs_cons (zs_set (i := 10) (z_biT c.hu c.ca c.gd cr_tup (z_osCons (z_oOf (z_biB c.hu c.ca c.gd cr_sorted (z_osCons (z_oOf (z_biT c.hu c.ca c.gd cr_dict (z_osCons (z_oOf (z_lc (own := [("pair", 13)]) c.ca c.nd (by decide) (zi_of (z_dOf (z_idx c.hu (z_ovar (i := 11) rfl (vis (by rfl))) (z_oOf (z_bin (z_ovar (i := 9) rfl (vis (by rfl))) zo_int))))) (blkOk_by (by rfl)) (fun _ _ _ _ _ => (zg_name (i := 13) (by rfl) c.nd rfl (loc (by rfl)))) (fun _ _ _ _ _ => zts_nil) (fun _ _ _ _ _ => (z_dOf (z_tup (z_dsCons (z_dOf (z_var (i := 13) rfl (vis (by rfl)))) (z_dsCons zd_bl z_dsNil))))))) z_osNil) (by rfl) m_dict (by decide +kernel))) z_osNil) (by rfl) m_sorted (by decide +kernel))) z_osNil) (by rfl) m_tuple (by decide +kernel)) (by rfl) c.nd rfl (loc (by rfl))) zs_nil))) zs_nil) (zs_cons (zs_put c.hu (z_dOf (z_var (i := 10) rfl (vis (by rfl)))) (z_ovar (i := 5) rfl (vis (by rfl))) (i := 4) rfl (vis (by rfl))) zs_nil)))))))) (zs_cons (zs_ret (z_tup (z_dsCons (z_dOf (z_var (i := 1) rfl (vis (by rfl)))) (z_dsCons (z_dOf (z_var (i := 4) rfl (vis (by rfl)))) z_dsNil)))) zs_nil))))
noncomputable def b_law_behind_1 : M Z.Flow := (sSeq (sIf (bCmp .NotIn (oVar 5) (oVar 2)) (sSeq (sEx (vApp 2 (dOf (vFrz 5)))) (sSeq (sEx (vApp 3 (dOf (vFrz 5)))) sNil)) sNil) sNil)
noncomputable def b_law_behind_2 : M Z.Flow := (sSeq (sFor (gTupB [(gSet 4), (gSet 5)]) (iOf (dOf (vIdx (oVar 0) (oOf (vPop 3))))) b_law_behind_1) sNil)
noncomputable def b_law_behind : M Z.Flow := (sSeq (sSet 2 (vLst dsNil)) (sSeq (sSet 3 (vLst (dsCons (dOf (vFrz 1)) dsNil))) (sSeq (sWhl (bCmp .NotEq (oVar 3) (oOf (vLst dsNil))) b_law_behind_2) (sSeq (sRet (vMove 2)) sNil))))
noncomputable def f_law_behind : Fu := mkFu [false, false] 6 b_law_behind
theorem io_law_behind : f_law_behind.io = [false, false] := rfl
abbrev s_law_behind : Stmt := topS 11
theorem sc_law_behind : FnScope ["rows", "name", "found", "todo", "digit", "other"] ["rows", "name"] (defScope s_law_behind) := ⟨rfl, rfl, rfl, by decide +kernel, rfl, by decide +kernel, by decide +kernel⟩
theorem ok_law_behind {f : Addr} {fd : FuncData} (F : Fun K "_law_behind" "_law_behind" s_law_behind f fd) (gm : mg "_law_behind" = some (.ref f))    : CalZ P w K mg base 1 "_law_behind" f_law_behind :=
  cal_mk F gm (F.binds (ps := ["rows", "name"]) fun _ _ _ _ _ _ us hl => match us, hl with | [_, _], _ => rfl) (z_def (k := 0) F sc_law_behind rfl fun cdv A fr s H E c =>
    (zs_cons (zs_set (i := 2) (z_lst z_dsNil) (by rfl) c.nd rfl (loc (by rfl))) (zs_cons (zs_set (i := 3) (z_lst (z_dsCons (z_dOf (z_var (i := 1) rfl (vis (by rfl)))) z_dsNil)) (by rfl) c.nd rfl (loc (by rfl))) (zs_cons (zs_whl c.hp (zt_cmp c.hu (z_ovar (i := 3) rfl (vis (by rfl))) (z_oOf (z_lst z_dsNil)) (nomark _)) (zs_cons (zs_for c.hp c.ca (zi_of (z_dOf (z_idx c.hu (z_ovar (i := 0) rfl (vis (by rfl))) (z_oOf (z_pop (m := dCon .none) (i := 3) rfl (vis (by rfl))))))) (zg_tup c.ca (zgs_cons (zg_name (i := 4) (by rfl) c.nd rfl (loc (by rfl))) (zgs_cons (zg_name (i := 5) (by rfl) c.nd rfl (loc (by rfl))) zgs_nil))) (zs_cons (zs_if (zt_cmp c.hu (z_ovar (i := 5) rfl (vis (by rfl))) (z_ovar (i := 2) rfl (vis (by rfl))) (by with_unfolding_all rfl)) (zs_cons (zs_ex (z_app (z_dOf (z_var (i := 5) rfl (vis (by rfl)))) (i := 2) rfl (vis (by rfl)))) (zs_cons (zs_ex (z_app (z_dOf (z_var (i := 5) rfl (vis (by rfl)))) (i := 3) rfl (vis (by rfl)))) zs_nil)) zs_nil) zs_nil)) zs_nil)) (zs_cons (zs_ret (z_move (i := 2) rfl (vis (by rfl)))) zs_nil)))))
noncomputable def b_law_chain_1 : M Z.Flow := (sSeq (sSet 6 (vSlc (oVar 2) (pI (oOf (vBin .Add (oVar 4) (oCon (.int 1))))) (pI (oOf (vBin .Add (oVar 4) (oCon (.int 2))))))) (sSeq (sIf (bAnd (bCmp .Eq (oVar 6) (oOf (vLst dsNil))) (bCmp .Eq (oOf (mCall f_pen_take (osCons (oVar 0) (osCons (oCon (.int 2)) osNil)))) (oCon (.int 0)))) (sSeq (sSet 6 (vLst (dsCons (dOf (vIdx (oVar 2) (oOf (mCall f_pen_take (osCons (oVar 0) (osCons (oOf (vBi bLen (osCons (oVar 2) osNil))) osNil)))))) dsNil))) sNil) sNil) (sSeq (sPut 3 (oVar 5) (dOf (vBi bTup (osCons (oOf (vLc [7] (gSet 7) (iOf (dOf (vFrz 6))) bYes (dOf (vTup (dsCons (dOf (mCall f_pen_take (osCons (oVar 0) (osCons (oVar 1) osNil)))) (dsCons (dOf (vFrz 7)) dsNil)))))) osNil)))) sNil)))
noncomputable def b_law_chain : M Z.Flow := (sSeq (sSet 3 vDct0) (sSeq (sFor (gTupB [(gSet 4), (gSet 5)]) (iEn (dsCons (dOf (vFrz 2)) dsNil)) b_law_chain_1) (sSeq (sRet (vTup (dsCons (dOf (vFrz 1)) (dsCons (dOf (vFrz 3)) dsNil)))) sNil)))
noncomputable def f_law_chain : Fu := mkFu [true, false, false] 8 b_law_chain
theorem io_law_chain : f_law_chain.io = [true, false, false] := rfl
abbrev s_law_chain : Stmt := topS 12
theorem sc_law_chain : FnScope ["pen", "base", "names", "rows", "k", "name", "onward", "other"] ["pen", "base", "names"] (defScope s_law_chain) := ⟨rfl, rfl, rfl, by decide +kernel, rfl, by decide +kernel, by decide +kernel⟩
theorem ok_law_chain {f : Addr} {fd : FuncData} (F : Fun K "_law_chain" "_law_chain" s_law_chain f fd) (gm : mg "_law_chain" = some (.ref f)) (c_pen_take : CalZ P w K mg base 2 "_law_take" f_pen_take) (m_enumerate : mg "enumerate" = none) (m_tuple : mg "tuple" = none) (m_len : mg "len" = none)  : CalZ P w K mg base 3 "_law_chain" f_law_chain :=
  cal_mk F gm (F.binds (ps := ["pen", "base", "names"]) fun _ _ _ _ _ _ us hl => match us, hl with | [_, _, _], _ => rfl) (z_def (k := 2) F sc_law_chain rfl fun cdv A fr s H E c =>
    (zs_cons (zs_set (i := 3) z_dct0 (by rfl) c.nd rfl (loc (by rfl))) (zs_cons (zs_for c.hp c.ca (zi_en (z_dsCons (z_dOf (z_var (i := 2) rfl (vis (by rfl)))) z_dsNil) (by rfl) m_enumerate) (zg_tup c.ca (zgs_cons (zg_name (i := 4) (by rfl) c.nd rfl (loc (by rfl))) (zgs_cons (zg_name (i := 5) (by rfl) c.nd rfl (loc (by rfl))) zgs_nil))) (zs_cons (zs_set (i := 6) (z_slc (z_ovar (i := 2) rfl (vis (by rfl))) (zp_i (z_oOf (z_bin (z_ovar (i := 4) rfl (vis (by rfl))) zo_int))) (zp_i (z_oOf (z_bin (z_ovar (i := 4) rfl (vis (by rfl))) zo_int)))) (by rfl) c.nd rfl (loc (by rfl))) (zs_cons (zs_if (zw_and (zt_cmp c.hu (z_ovar (i := 6) rfl (vis (by rfl))) (z_oOf (z_lst z_dsNil)) (nomark _)) (zw_and1 (zt_cmp c.hu (z_oOf (z_c c_pen_take c.rm (by decide) c.gd (by rfl) (z_osCons (z_ovar (i := 0) rfl (vis (by rfl))) (z_osCons zo_int z_osNil)))) zo_int (nomark _)))).t (zs_cons (zs_set (i := 6) (z_lst (z_dsCons (z_dOf (z_idx c.hu (z_ovar (i := 2) rfl (vis (by rfl))) (z_oOf (z_c c_pen_take c.rm (by decide) c.gd (by rfl) (z_osCons (z_ovar (i := 0) rfl (vis (by rfl))) (z_osCons (z_oOf (z_biB c.hu c.ca c.gd cr_len (z_osCons (z_ovar (i := 2) rfl (vis (by rfl))) z_osNil) (by rfl) m_len (by decide +kernel))) z_osNil)))))) z_dsNil)) (by rfl) c.nd rfl (loc (by rfl))) zs_nil) zs_nil) (zs_cons (zs_put c.hu (z_dOf (z_biT c.hu c.ca c.gd cr_tup (z_osCons (z_oOf (z_lc (own := [("other", 7)]) c.ca c.nd (by decide) (zi_of (z_dOf (z_var (i := 6) rfl (vis (by rfl))))) (blkOk_by (by rfl)) (fun _ _ _ _ _ => (zg_name (i := 7) (by rfl) c.nd rfl (loc (by rfl)))) (fun _ _ _ _ _ => zts_nil) (fun _ _ _ _ _ => (z_dOf (z_tup (z_dsCons (z_dOf (z_c c_pen_take c.rm (by decide) c.gd (by rfl) (z_osCons (z_ovar (i := 0) rfl (vis (by rfl))) (z_osCons (z_ovar (i := 1) rfl (vis (by rfl))) z_osNil)))) (z_dsCons (z_dOf (z_var (i := 7) rfl (vis (by rfl)))) z_dsNil))))))) z_osNil) (by rfl) m_tuple (by decide +kernel))) (z_ovar (i := 5) rfl (vis (by rfl))) (i := 3) rfl (vis (by rfl))) zs_nil)))) (zs_cons (zs_ret (z_tup (z_dsCons (z_dOf (z_var (i := 1) rfl (vis (by rfl)))) (z_dsCons (z_dOf (z_var (i := 3) rfl (vis (by rfl)))) z_dsNil)))) zs_nil))))
noncomputable def b_law_1 : M Z.Flow := (sSeq (sSet 13 (mCall f_live (osCons (oVar 5) osNil))) (sSeq (sIf (bOr (bNot (bTru (oOf (mCallP (f_law_same 8) (osCons (oVar 13) (osCons (oVar 8) osNil)))))) (bCmp .NotEq (oOf (vBi bRepr (osCons (oVar 5) osNil))) (oVar 10))) (sSeq (sRet (vCon (.bool false))) sNil) sNil) (sSeq (sEx (vApp 13 (dCon (.str "")))) sNil)))
noncomputable def b_law_2 : M Z.Flow := (sSeq (sSet 12 (vBin .Add (oOf (mCall f_law_behind (osCons (oVar 6) (osCons (oVar 9) osNil)))) (oOf (vLst (dsCons (dOf (vFrz 9)) dsNil))))) (sSeq (sIf (bCmp .NotEq (oOf (vLc [14] (gSet 14) (iOf (dOf (vFrz 12))) (bCmp .In (oVar 14) (oVar 7)) (dOf (vFrz 14)))) (oOf (vLst dsNil))) (sSeq (sEx (vApp 8 (dOf (vFrz 9)))) sNil) sNil) sNil))
noncomputable def b_law_3 : M Z.Flow := (sSeq (sSet 3 (vBin .Add (oCon (.int 2)) (oOf (mCall f_pen_take (osCons (oVar 1) (osCons (oCon (.int 9)) osNil)))))) (sSeq (sSet 4 (mCall f_law_names (osCons (oVar 1) (osCons (oOf (vBin .Add (oCon (.int 1)) (oOf (mCall f_pen_take (osCons (oVar 1) (osCons (oCon (.int 6)) osNil)))))) osNil)))) (sSeq (sSet 5 (mCall f_law_book (osCons (oVar 1) (osCons (oVar 3) (osCons (oVar 4) (osCons (oOf (vIdx (oOf (vLst (dsCons (dCon (.int 1)) (dsCons (dCon (.int 2)) (dsCons (dCon (.int 12)) dsNil))))) (oOf (mCall f_pen_take (osCons (oVar 1) (osCons (oCon (.int 3)) osNil)))))) osNil)))))) (sSeq (sIf (bCmp .Eq (oOf (mCall f_pen_take (osCons (oVar 1) (osCons (oCon (.int 3)) osNil)))) (oCon (.int 0))) (sSeq (sSet 5 (mCall f_law_chain (osCons (oVar 1) (osCons (oVar 3) (osCons (oVar 4) osNil))))) sNil) sNil) (sSeq (sSet 6 (vIdx (oVar 5) (oCon (.int 1)))) (sSeq (sSet 7 (vLc [9] (gSet 9) (iOf (dOf (vFrz 4))) (bCmp .In (oVar 9) (oOf (mCall f_law_behind (osCons (oVar 6) (osCons (oVar 9) osNil))))) (dOf (vFrz 9)))) (sSeq (sSet 8 (vLst dsNil)) (sSeq (sFor (gSet 9) (iOf (dOf (vBi bSorted (osCons (oVar 4) osNil)))) b_law_2) (sSeq (sSet 10 (vBi bRepr (osCons (oVar 5) osNil))) (sSeq (sFor (gSet 11) (iR1 (dsCons (dCon (.int 2)) dsNil)) b_law_1) sNil))))))))))
noncomputable def b_law : M Z.Flow := (sSeq (sSet 1 (mCall f_pen_open (osCons (oVar 0) osNil))) (sSeq (sFor (gSet 2) (iR1 (dsCons (dCon (.int 8)) dsNil)) b_law_3) (sSeq (sRet (vCon (.bool true))) sNil)))
noncomputable def f_law : Fu := mkFu [false] 15 b_law
theorem io_law : f_law.io = [false] := rfl
abbrev s_law : Stmt := topS 13
theorem sc_law : FnScope ["script", "pen", "turn", "base", "names", "book", "rows", "round_names", "due", "name", "before", "time", "behind", "found", "other"] ["script"] (defScope s_law) := ⟨rfl, rfl, rfl, by decide +kernel, rfl, by decide +kernel, by decide +kernel⟩
theorem ok_law {f : Addr} {fd : FuncData} (F : Fun K "law" "law" s_law f fd) (c_law_same : CalZ P w K mg base 8 "_law_same" (f_law_same 8)) (c_live : CalZ P w K mg base 2 "live" f_live) (c_law_behind : CalZ P w K mg base 1 "_law_behind" f_law_behind) (c_pen_take : CalZ P w K mg base 2 "_law_take" f_pen_take) (c_law_chain : CalZ P w K mg base 3 "_law_chain" f_law_chain) (c_law_book : CalZ P w K mg base 4 "_law_book" f_law_book) (c_law_names : CalZ P w K mg base 3 "_law_names" f_law_names) (c_pen_open : CalZ P w K mg base 1 "_law_open" f_pen_open) (m_range : mg "range" = none) (m_repr : mg "repr" = none) (m_sorted : mg "sorted" = none)  : FnZ P w K mg base 9 f fd ["script"] f_law :=
  z_def (k := 8) F sc_law rfl fun cdv A fr s H E c =>
    (zs_cons (zs_set (i := 1) (z_c c_pen_open c.rm (by decide) c.gd (by rfl) (z_osCons (z_ovar (i := 0) rfl (vis (by rfl))) z_osNil)) (by rfl) c.nd rfl (loc (by rfl))) (zs_cons (zs_for c.hp c.ca (zi_r1 (z_dsCons zd_int z_dsNil) (by rfl) m_range) (zg_name (i := 2) (by rfl) c.nd rfl (loc (by rfl))) (zs_cons (zs_set (i := 3) (z_bin zo_int (z_oOf (z_c c_pen_take c.rm (by decide) c.gd (by rfl) (z_osCons (z_ovar (i := 1) rfl (vis (by rfl))) (z_osCons zo_int z_osNil))))) (by rfl) c.nd rfl (loc (by rfl))) (zs_cons (zs_set (i := 4) (z_c c_law_names c.rm (by decide) c.gd (by rfl) (z_osCons (z_ovar (i := 1) rfl (vis (by rfl))) (z_osCons (z_oOf (z_bin zo_int (z_oOf (z_c c_pen_take c.rm (by decide) c.gd (by rfl) (z_osCons (z_ovar (i := 1) rfl (vis (by rfl))) (z_osCons zo_int z_osNil)))))) z_osNil))) (by rfl) c.nd rfl (loc (by rfl))) (zs_cons (zs_set (i := 5) (z_c c_law_book c.rm (by decide) c.gd (by rfl) (z_osCons (z_ovar (i := 1) rfl (vis (by rfl))) (z_osCons (z_ovar (i := 3) rfl (vis (by rfl))) (z_osCons (z_ovar (i := 4) rfl (vis (by rfl))) (z_osCons (z_oOf (z_idx c.hu (z_oOf (z_lst (z_dsCons zd_int (z_dsCons zd_int (z_dsCons zd_int z_dsNil))))) (z_oOf (z_c c_pen_take c.rm (by decide) c.gd (by rfl) (z_osCons (z_ovar (i := 1) rfl (vis (by rfl))) (z_osCons zo_int z_osNil)))))) z_osNil))))) (by rfl) c.nd rfl (loc (by rfl))) (zs_cons (zs_if (zt_cmp c.hu (z_oOf (z_c c_pen_take c.rm (by decide) c.gd (by rfl) (z_osCons (z_ovar (i := 1) rfl (vis (by rfl))) (z_osCons zo_int z_osNil)))) zo_int (nomark _)) (zs_cons (zs_set (i := 5) (z_c c_law_chain c.rm (by decide) c.gd (by rfl) (z_osCons (z_ovar (i := 1) rfl (vis (by rfl))) (z_osCons (z_ovar (i := 3) rfl (vis (by rfl))) (z_osCons (z_ovar (i := 4) rfl (vis (by rfl))) z_osNil)))) (by rfl) c.nd rfl (loc (by rfl))) zs_nil) zs_nil) (zs_cons (zs_set (i := 6) (z_idx c.hu (z_ovar (i := 5) rfl (vis (by rfl))) zo_int) (by rfl) c.nd rfl (loc (by rfl))) (zs_cons (zs_set (i := 7) (z_lc (own := [("name", 9)]) c.ca c.nd (by decide) (zi_of (z_dOf (z_var (i := 4) rfl (vis (by rfl))))) (blkOk_by (by rfl)) (fun _ _ _ _ _ => (zg_name (i := 9) (by rfl) c.nd rfl (loc (by rfl)))) (fun _ _ _ _ _ => (zts_one (zt_cmp c.hu (z_ovar (i := 9) rfl (vis (by rfl))) (z_oOf (z_c c_law_behind c.rm (by decide) c.gd (by rfl) (z_osCons (z_ovar (i := 6) rfl (vis (by rfl))) (z_osCons (z_ovar (i := 9) rfl (vis (by rfl))) z_osNil)))) (by with_unfolding_all rfl)))) (fun _ _ _ _ _ => (z_dOf (z_var (i := 9) rfl (vis (by rfl)))))) (by rfl) c.nd rfl (loc (by rfl))) (zs_cons (zs_set (i := 8) (z_lst z_dsNil) (by rfl) c.nd rfl (loc (by rfl))) (zs_cons (zs_for c.hp c.ca (zi_of (z_dOf (z_biB c.hu c.ca c.gd cr_sorted (z_osCons (z_ovar (i := 4) rfl (vis (by rfl))) z_osNil) (by rfl) m_sorted (by decide +kernel)))) (zg_name (i := 9) (by rfl) c.nd rfl (loc (by rfl))) (zs_cons (zs_set (i := 12) (z_bin (z_oOf (z_c c_law_behind c.rm (by decide) c.gd (by rfl) (z_osCons (z_ovar (i := 6) rfl (vis (by rfl))) (z_osCons (z_ovar (i := 9) rfl (vis (by rfl))) z_osNil)))) (z_oOf (z_lst (z_dsCons (z_dOf (z_var (i := 9) rfl (vis (by rfl)))) z_dsNil)))) (by rfl) c.nd rfl (loc (by rfl))) (zs_cons (zs_if (zt_cmp c.hu (z_oOf (z_lc (own := [("other", 14)]) c.ca c.nd (by decide) (zi_of (z_dOf (z_var (i := 12) rfl (vis (by rfl))))) (blkOk_by (by rfl)) (fun _ _ _ _ _ => (zg_name (i := 14) (by rfl) c.nd rfl (loc (by rfl)))) (fun _ _ _ _ _ => (zts_one (zt_cmp c.hu (z_ovar (i := 14) rfl (vis (by rfl))) (z_ovar (i := 7) rfl (vis (by rfl))) (by with_unfolding_all rfl)))) (fun _ _ _ _ _ => (z_dOf (z_var (i := 14) rfl (vis (by rfl))))))) (z_oOf (z_lst z_dsNil)) (nomark _)) (zs_cons (zs_ex (z_app (z_dOf (z_var (i := 9) rfl (vis (by rfl)))) (i := 8) rfl (vis (by rfl)))) zs_nil) zs_nil) zs_nil))) (zs_cons (zs_set (i := 10) (z_biB c.hu c.ca c.gd cr_repr (z_osCons (z_ovar (i := 5) rfl (vis (by rfl))) z_osNil) (by rfl) m_repr (by decide +kernel)) (by rfl) c.nd rfl (loc (by rfl))) (zs_cons (zs_for c.hp c.ca (zi_r1 (z_dsCons zd_int z_dsNil) (by rfl) m_range) (zg_name (i := 11) (by rfl) c.nd rfl (loc (by rfl))) (zs_cons (zs_set (i := 13) (z_c c_live c.rm (by decide) c.gd (by rfl) (z_osCons (z_ovar (i := 5) rfl (vis (by rfl))) z_osNil)) (by rfl) c.nd rfl (loc (by rfl))) (zs_cons (zs_if (zw_or (zt_not (zt_tru (z_oOf (z_cP c_law_same c.rm (by decide) c.gd (by rfl) (z_osCons (z_ovar (i := 13) rfl (vis (by rfl))) (z_osCons (z_ovar (i := 8) rfl (vis (by rfl))) z_osNil)))))) (zw_or1 (zt_cmp c.hu (z_oOf (z_biB c.hu c.ca c.gd cr_repr (z_osCons (z_ovar (i := 5) rfl (vis (by rfl))) z_osNil) (by rfl) m_repr (by decide +kernel))) (z_ovar (i := 10) rfl (vis (by rfl))) (nomark _)))).t (zs_cons (zs_ret z_bl) zs_nil) zs_nil) (zs_cons (zs_ex (z_app zd_str (i := 13) rfl (vis (by rfl)))) zs_nil)))) zs_nil))))))))))) (zs_cons (zs_ret z_bl) zs_nil)))
end
end K04

namespace Y
open PySem Z
local macro_rules | `(tactic| simp_arith [$ls,*]) => `(tactic| simp only [List.getD_cons_succ, List.getD_cons_zero, b_sum, b_any, b_all, in_cons, in_nil, bl_cons, bl_nil, uw_cons, uw_nil, wp_cons, wp_nil, fz_cons, fz_nil, ev_vLc, k1_vLc, lc0_ok, lc1_some, lc2, lc3, ev_vCon, ev_oCon, ev_dCon, ev_sNil, ev_sBrk, ev_sCnt, ev_sRetN, ev_dsNil, ev_osNil, ev_kvNil, ev_pNo, ev_vDct0, ev_bYes, ev_frz_some, ev_oVar, pk_some, ev_vFrz, pf_some, ev_vMove, pm_some, k1_dOf, ev_dOf, k1_oOf, ev_oOf, k1_vB, ev_vB, k2_vBin, k1_vBin, ev_vBin, k2_bCmp, k1_bCmp, ev_bCmp, k2_vIdx, k1_vIdx, ev_vIdx, k1_vRev, ev_vRev, k1_bNot, ev_bNot, k1_bTru, ev_bTru, k1_vIsi, ev_vIsi, k1_vBi, ev_vBi, k2_dsCons, k1_dsCons, ev_dsCons, k2_osCons, k1_osCons, ev_osCons, k3_kvCons, k2_kvCons, k1_kvCons, ev_kvCons, k1_vTup, ev_vTup, k1_vLst, ev_vLst, k1_vDct, ev_vDct, k3_vSlc, k2_vSlc, k1_vSlc, ev_vSlc, k1_pI, pIv_int, ev_pI, k1_vNeg, ngv_int, ev_vNeg, k1_bOf, bov_bool, ev_bOf, k1_bAnd, ev_bAnd, k1_bOr, ev_bOr, k1_vIf, ev_vIf, k1_sIf, ev_sIf, chv_t, chv_f, k2_bChn, k1_bChn, ev_bChn, sq_nx, sq_brk, sq_ct, sq_ret, ev_sSeq, k1_sSet, ev_sSet, k1_sEx, ev_sEx, k1_sRet, ev_sRet, bdv_some, k1_sBnd, ev_sBnd, ev_gSet, ev_gTupT, ev_gTupL, ev_gAll0, ev_gAll1, parv_2, k1_sPar, ev_sPar, wh_t, wh_f, wh_nx, wh_brk, wh_ret, fo_nx, fo_ct, fo_brk, fo_ret, fov_some, for_nil, k1_sFor, ev_sFor, iov_0, iov_1, iov_2, iov_3, k1_iOf, ev_iOf, r1_int, ev_iR1, r2_int, ev_iR2, en_l, ev_iEn, zp_l, zp_t, ev_iZp, ev_iVals, iva_d, ev_iItems, iit_d, k1_vIsiT, ev_vIsiT, k2_vMe, k1_vMe, ev_vMe, any_s, List.any_cons, List.any_nil, cl_ret, cl_exc, cl_some, k1_call, ev_mCall, k1_callP, ev_mCallP, clq_some, clp_b, clp_i, clp_s, clp_n, tk_nil, tk_lent, tkl_some, tk_frz, tkf_some, tk_dat, bk_lent, bk_f, bk_d, bk_nil, mk_nil, mk_cons, out_nx, out_ret, out_exc, ev_run, ev_io, put3_some, put2_some, k2_put, put1_some, k1_put, ev_sPut, app2_l, k1_app, app1_l, ev_vApp, vc1_l, ev_vClr, ve1_l, ve2_l, kx_l, ev_vExt, i3Add_int, i2Add, i1Add_int, ev_sAdd, i3Sub_int, i2Sub, i1Sub_int, ev_sSub, lk_inl, lk_inr, lks_nil, lks_cons, bind_ok, bind_exc, bind_bad, of_some, of_none, peek_nil, peek_zero, peek_zero', peek_succ, fz_f, fz_l, fz_d, bin_add, bin_sub, bin_mul, bin_fdiv, bin_mod, bin_pow, bin_adds, bin_addt, bin_addl, cmp_eq, cmp_ne, cmp_in, cmp_nin, cmp_lt, cmp_le, cmp_gt, cmp_ge, cmp_is, cmp_isn, isD_int, isD_bool, isD_str, isD_list, isD_tuple, isD_dict, tru_int, tru_bool, tru_none, tru_list, tru_tuple, item_l, item_t, put_l, eqD_int, eqD_bool, eqD_str, bind_some, map_some, bLen, bTup, bMax2, bMin2, bAbs, bInt, List.getElem?_cons_zero, List.getElem?_cons_succ, List.set_cons_zero, List.set_cons_succ, List.length_cons, List.length_nil, List.length_set, List.replicate_succ, List.replicate_zero, List.map_cons, List.map_nil, List.cons_append, List.nil_append, Option.map_some, Option.map_none, Option.bind_some, Option.bind_none, if_true, if_false, Bool.not_true, Bool.not_false, Bool.false_eq_true, Bool.true_eq_false, reduceIte, Nat.reduceAdd, Nat.reduceSub, Nat.reduceLT, Nat.reduceLeDiff, Nat.reduceEqDiff, decide_true, decide_false, Int.reduceNeg, ne_eq, not_true_eq_false, not_false_eq_true, Nat.zero_lt_succ, Nat.lt_add_one, and_self, and_true, true_and, Bool.true_and, Bool.false_and, Bool.and_true, Bool.or_true, Bool.or_false, Bool.true_or, Bool.false_or, sizeOk_small, Int.cast_ofNat_Int, Int.reduceBEq, Int.reduceLT, Int.reduceLE, Int.reduceEq, lt_line, Option.getD_some, BEq.rfl, List.all_cons, List.all_nil, List.any_cons, List.any_nil, id_eq, Y.tyn_l, Y.tyn_s, Y.tyn_d, Y.in_ll, Y.in_tl, Y.jk_peek, dc_nil, dc_cons, dc1_some, dc2, dc2b, dc3, dc0_ok, k1_vDc, ev_vDc, ev_vSd, sd1_d, k1_sd, sd2_d, sd3_s, sd3_n, ev_vDp, dp1_d, k1_vDp, dp2_d, dp3_s, k1_vLr, ev_vLr, lrv_i, k1_vItL, ev_vItL, itv_d, lc_cons, lc_nil, $ls,*])
theorem cut_0g {α : Type} (l : List α) (b : Nat) : cut l none (some (b : Int)) = l.take (min b l.length) := by
  unfold cut
  rw [HT.sIx_nat, HT.sIx_none]
  simp
theorem cut_g0 {α : Type} (l : List α) (a : Nat) : cut l (some (a : Int)) none = l.drop (min a l.length) := by
  unfold cut
  rw [HT.sIx_nat, HT.sIx_none, List.take_of_length_le (by rw [List.length_drop]; exact Nat.le_refl _)]
/-! ### names -/
def st (l : List Nat) : Str := ⟨l.toArray⟩
theorem st_len (l : List Nat) : (st l).length = l.length := by simp [st, Str.length]
theorem st_inj {l m : List Nat} (h : st l = st m) : l = m := by
  have := congrArg (fun s : Str => s.cps.toList) h
  simpa [st] using this
theorem st_add (l m : List Nat) : st l ++ st m = st (l ++ m) := by
  show Str.append _ _ = _
  simp [Str.append, st]
theorem abc : ("abcdefghijklmnopqrstuvwxyz" : Str) = st ((List.range 26).map (97 + ·)) := by decide +kernel
theorem nil_st : ("" : Str) = st [] := by decide +kernel
theorem item_st {l : List Nat} (hl : l.length ≤ 1000000) {n : Nat} {c : Nat} (h : l[n]? = some c) : item (.str (st l)) (.int (n : Int)) = some (.str (st [c])) := by
  show (if sizeOk (st l).length then _ else none) = _
  rw [st_len, if_pos (sizeOk_small hl)]
  have hn : n < l.length := (List.getElem?_eq_some_iff.mp h).1
  have : ix l.length (n : Int) = some n := by
    unfold ix
    rw [if_pos (by omega), if_pos (by simpa using hn)]
    simp
  rw [this]
  show (((st l).cps[n]?).map fun c => PyData.str ⟨#[c]⟩) = _
  have e : (st l).cps[n]? = some c := by simp [st, h]
  rw [e]
  rfl
theorem sign_at {v : Int} (h0 : 0 ≤ v) (h1 : v < 26) : item (.str "abcdefghijklmnopqrstuvwxyz") (.int v) = some (.str (st [97 + v.toNat])) := by
  obtain ⟨n, rfl⟩ := Int.eq_ofNat_of_zero_le h0
  rw [abc]
  have hn : n < 26 := by omega
  refine item_st (by simp) ?_
  rw [List.getElem?_map, List.getElem?_range hn]
  rfl
theorem mul_st (l : List Nat) {k : Int} (h0 : 0 ≤ k) (h1 : k ≤ 1000) (hl : l.length ≤ 1000) : binop .Mult (.str (st l)) (.int k) = some (.f (.str (st (rep l k)))) := by
  show (if -1000 ≤ k ∧ k ≤ 1000 ∧ (st l).length ≤ 1000 then some (W.f (.str ⟨(rep (st l).cps.toList k).toArray⟩)) else none) = _
  rw [if_pos ⟨by omega, h1, by rw [st_len]; exact hl⟩]
  simp [st]
theorem rep_sing (c : Nat) {k : Int} : rep [c] k = List.replicate k.toNat c := by
  unfold rep
  generalize k.toNat = n
  induction n with
  | zero => rfl
  | succ n ih => rw [List.replicate_succ, List.flatten_cons, ih]; rfl
theorem strsD_st : ∀ ls : List (List Nat), strsD (ls.map fun l => .str (st l)) = some (ls.map st)
  | [] => rfl
  | l :: ls => by rw [List.map_cons, strsD, strsD_st ls]; rfl
theorem join_nil : ∀ ls : List (List Nat), Txt.join (st []) (ls.map st) = st ls.flatten := by
  intro ls
  show PySem.Builtin.Str.glued _ _ = _
  rw [PySem.StrLaws.glued_eq_join]
  induction ls with
  | nil => rfl
  | cons l ls ih =>
    cases ls with
    | nil => simp [Str.join]
    | cons m ls =>
      show st l ++ st [] ++ Str.join (st []) (st m :: ls.map st) = _
      rw [show Str.join (st []) (st m :: ls.map st) = Str.join (st []) ((m :: ls).map st) from rfl, ih, st_add, st_add]
      simp
theorem bJoin_st {ls : List (List Nat)} (h : (ls.map List.length).sum ≤ 1000000) : bJoin [.str "", .list (ls.map fun l => .str (st l))] = some (.f (.str (st ls.flatten))) := by
  rw [nil_st]
  show ((strsD (ls.map fun l => .str (st l))).bind fun ys => if (ys.map (·.length)).sum + ys.length * (st []).length ≤ 16777216 then some (W.f (.str (Txt.join (st []) ys))) else none) = _
  rw [strsD_st, Option.bind_some, join_nil, if_pos]
  have e : (ls.map st).map (·.length) = ls.map List.length := by
    rw [List.map_map]
    exact List.map_congr_left fun l _ => st_len l
  rw [e, st_len]
  simp
  omega
theorem rangeD_map (n : Nat) : ∀ lo : Int, rangeD lo n = (List.range' 0 n).map fun k : Nat => .int (lo + k) := by
  have key : ∀ (n s : Nat) (lo : Int), rangeD (lo + s) n = (List.range' s n).map fun k : Nat => .int (lo + k) := by
    intro n
    induction n with
    | zero => intro s lo; rfl
    | succ n ih =>
      intro s lo
      rw [List.range'_succ, List.map_cons, rangeD, ← ih (s + 1) lo, show lo + (s : Int) + 1 = lo + ((s + 1 : Nat) : Int) by omega]
  intro lo
  have := key n 0 lo
  simpa using this
theorem rangeD_nat (n : Nat) : rangeD 0 n = (List.range n).map fun k : Nat => .int (k : Int) := by
  rw [rangeD_map, ← List.range_eq_range']
  refine List.map_congr_left fun k _ => ?_
  rw [Int.zero_add]
/-- a name -/
def Nm (x : Str) : Prop := ∃ l : List Nat, x = st l ∧ 0 < l.length ∧ l.length ≤ 8 ∧ ∀ c ∈ l, 97 ≤ c ∧ c ≤ 122
/-- names, no two alike -/
structure Nms (ns : List Str) : Prop where
  nd : ns.Nodup
  nm : ∀ x ∈ ns, Nm x
theorem sig_at {v : Int} : item (.str "abcdefghijklmnopqrstuvwxyz") (.int (v.fmod 26)) = some (.str (st [97 + (v.fmod 26).toNat])) := sign_at (Int.fmod_nonneg_of_pos _ (by decide)) (Int.fmod_lt_of_pos _ (by decide))
theorem stem_lc {n m : Nat} {w : W} (hw : Pen n w) (hn : n + m < 800000) (hm : m ≤ 1000) (lo : Int) (x1 x3 x4 x5 x6 x7 : Option W) :
    ∃ (ls : List Nat) (w' : W) (e' : Z.Env), lcG [7] (gSet 7) bYes (dOf (vIdx (oVar 2) (oOf (mCall f_pen_take (osCons (oVar 0) (osCons (oCon (.int 26)) osNil)))))) (rangeD lo m) [] [some w, x1, some (.f (.str "abcdefghijklmnopqrstuvwxyz")), x3, x4, x5, x6, x7] = .ok (ls.map fun c => .str (st [c])) e' ∧
      wipeE e' [7] = [some w', x1, some (.f (.str "abcdefghijklmnopqrstuvwxyz")), x3, x4, x5, x6, none] ∧ ls.length = m ∧ (∀ c ∈ ls, 97 ≤ c ∧ c ≤ 122) ∧ Pen (n + m) w' := by
  obtain ⟨acc, e', q, ls, w', rfl, h0, h1, h2, h3⟩ := lc_inv (own := [7]) (g := gSet 7) (tt := bYes) (elt := dOf (vIdx (oVar 2) (oOf (mCall f_pen_take (osCons (oVar 0) (osCons (oCon (.int 26)) osNil))))))
    (fun i acc e => ∃ (ls : List Nat) (w' : W), acc = ls.map (fun c => PyData.str (st [c])) ∧ e = [some w', x1, some (.f (.str "abcdefghijklmnopqrstuvwxyz")), x3, x4, x5, x6, none] ∧ ls.length = i ∧ (∀ c ∈ ls, 97 ≤ c ∧ c ≤ 122) ∧ Pen (n + i) w') (l := rangeD lo m) (n := 0) (acc := []) (e := [some w, x1, some (.f (.str "abcdefghijklmnopqrstuvwxyz")), x3, x4, x5, x6, x7])
    ⟨[], w, rfl, rfl, rfl, fun c hc => by simp at hc, hw⟩ (by rw [rangeD_len]; simp; omega) (fun i x hx acc e ⟨ls, w1, ha, he, h1, h2, h3⟩ => by
      obtain ⟨hi, rfl⟩ := rangeD_at hx
      rw [Nat.zero_add] at h1 h3
      obtain ⟨v, w2, e1, v0, v1, p2⟩ := r_take h3 (by omega) (m := 26) (by decide) (by decide)
      obtain ⟨f1, q1⟩ := pen_fz h3
      subst ha he
      have hs := sign_at v0 v1
      refine ⟨_, rfl, .inl ⟨_, .str (st [97 + v.toNat]), [some w2, x1, some (.f (.str "abcdefghijklmnopqrstuvwxyz")), x3, x4, x5, x6, some (.f (.int (lo + i)))], rfl, ?_, ls ++ [97 + v.toNat], w2, by simp, rfl, by simp [h1], fun c hc => ?_, by rw [Nat.zero_add, ← Nat.add_assoc]; exact p2⟩⟩
      · simp_arith [io_pen_take, e1, q1, hs]
      · rcases List.mem_append.mp hc with z | z
        · exact h2 c z
        · rw [List.mem_singleton.mp z]; omega)
  rw [Nat.zero_add, rangeD_len] at h1 h3
  exact ⟨ls, w', e', q, h0, h1, h2, h3⟩
theorem cut_st (l : List Nat) (lo hi : Option Int) (h : l.length ≤ 1000000) : slice (.str (st l)) (oi lo) (oi hi) = some (.f (.str (st (cut l lo hi)))) := by
  have e : ∀ a b, bnd? a = some lo → bnd? b = some hi → slice (.str (st l)) a b = if sizeOk (st l).length then some (W.f (.str ⟨(cut (st l).cps.toList lo hi).toArray⟩)) else none := by
    intro a b ha hb
    unfold slice
    rw [ha, hb]
  have h1 : bnd? (oi lo) = some lo := by cases lo <;> rfl
  have h2 : bnd? (oi hi) = some hi := by cases hi <;> rfl
  rw [e _ _ h1 h2, st_len, if_pos (sizeOk_small h)]
  simp [st]
theorem add_st (l m : List Nat) (h : l.length + m.length ≤ 1000000) : binop .Add (.str (st l)) (.str (st m)) = some (.f (.str (st (l ++ m)))) := by
  rw [bin_adds, st_len, st_len, if_pos (sizeOk_small h), st_add]
theorem nodup_map_range {α : Type} (f : Nat → α) (n : Nat) (h : ∀ i j, i < j → j < n → f i ≠ f j) : ((List.range n).map f).Nodup := by
  rw [List.nodup_iff_pairwise_ne, List.pairwise_map]
  refine List.pairwise_iff_getElem.mpr fun i j hi hj hij => ?_
  simp only [List.length_range, List.getElem_range] at hi hj ⊢
  exact h i j hij hj
theorem flat1 {α : Type} : ∀ ls : List α, (ls.map fun c => [c]).flatten = ls
  | [] => rfl
  | c :: ls => by rw [List.map_cons, List.flatten_cons, flat1 ls]; rfl
theorem sum1 {α : Type} : ∀ ls : List α, ((ls.map fun c => [c]).map List.length).sum = ls.length
  | [] => rfl
  | c :: ls => by simp only [List.map_cons, List.sum_cons, sum1 ls, List.length_cons, List.length_nil]; omega
theorem r_law_names {n : Nat} {w : W} (hw : Pen n w) (hn : n < 700000) {many : Nat} (hm : many ≤ 8) :
    ∃ ns w', f_law_names.run [w, .f (.int (many : Int))] = .ret (.lst (ns.map .str)) [some w', none] ∧ ns.length = many ∧ Nms ns ∧ Pen (n + 12) w' := by
  obtain ⟨v1, w1, e1, a1, b1, p1⟩ := r_take hw (by omega) (m := 8) (by decide) (by decide)
  obtain ⟨m, hm1⟩ := Int.eq_ofNat_of_zero_le a1
  have hm1 : v1 = (m : Int) := hm1
  obtain ⟨f1, q1⟩ := pen_fz hw
  obtain ⟨My, hMy⟩ : ∃ My : Int, My = (many : Int) := ⟨_, rfl⟩
  obtain ⟨ls, w2, e2, g1, g2, g3, g4, p2⟩ := stem_lc p1 (m := m) (by omega) (by omega) 0 (some (.f (.int My))) none none none none none
  have hj : bJoin [.str "", .list (ls.map fun c => .str (st [c]))] = some (.f (.str (st ls))) := by
    have := bJoin_st (ls := ls.map fun c => [c]) (by rw [sum1]; omega)
    rw [List.map_map, flat1] at this
    exact this
  obtain ⟨L, hL⟩ : ∃ L : Int, L = ((st ls).length : Int) := ⟨_, rfl⟩
  have hlen : bLen [.str (st ls)] = some (.f (.int L)) := by
    rw [hL]
    show (if sizeOk (st ls).length then _ else none) = _
    rw [if_pos (sizeOk_small (by rw [st_len]; omega))]
  rw [st_len] at hL
  obtain ⟨at', w3, e3, a3, b3, p3⟩ := r_take p2 (by omega) (m := L + 1) (by omega) (Int.lt_of_le_of_lt (b := 100) (by omega) (by decide))
  obtain ⟨fi, w4, e4, a4, b4, p4⟩ := r_take p3 (by omega) (m := 26) (by decide) (by decide)
  obtain ⟨wy, w5, e5, a5, b5, p5⟩ := r_take p4 (by omega) (m := 3) (by decide) (by decide)
  obtain ⟨f2, q2⟩ := pen_fz p1
  obtain ⟨f3, q3⟩ := pen_fz p2
  obtain ⟨f4, q4⟩ := pen_fz p3
  obtain ⟨f5, q5⟩ := pen_fz p4
  have t1 : v1.toNat = m := by omega
  have r1 : small62 v1 = true := by rw [hm1]; exact small_nat (by omega)
  have r2 : small62 My = true := by rw [hMy]; exact small_nat (by omega)
  have t2 : My.toNat = many := by omega
  -- the names by turns
  have turns : ∀ (elt : M PyData) (nmf : Nat → List Nat) (E : Z.Env), (∀ k, k < many → ∃ e3, elt (E ++ [some (.f (.int (k : Int)))]) = .ok (.str (st (nmf k))) e3 ∧ wipeE e3 [7] = E ++ [none]) → E.length = 7 →
      ∃ e', lcG [7] (gSet 7) bYes elt (rangeD 0 many) [] (E ++ [none]) = .ok (((List.range many).map fun k => st (nmf k)).map .str) e' ∧ wipeE e' [7] = E ++ [none] := by
    intro elt nmf E h hE
    rw [rangeD_nat]
    match E, hE with
    | [x0, x1, x2, x3, x4, x5, x6], _ =>
      have := lc_map (own := [7]) (g := gSet 7) (elt := elt) (e := [x0, x1, x2, x3, x4, x5, x6, none]) (fun k : Nat => .int (k : Int)) (fun k => .str (st (nmf k))) (l := List.range many) (by simp; omega) fun k hk => by
        obtain ⟨e3, h1, h2⟩ := h k (List.mem_range.mp hk)
        exact ⟨_, e3, rfl, h1, h2⟩
      rw [List.map_map]
      exact this
  have five : ∀ i j : Nat, i < j → j < many → (fi + 5 * (i : Int)).fmod 26 ≠ (fi + 5 * (j : Int)).fmod 26 := by
    intro i j hij hj
    rw [Int.fmod_eq_emod_of_nonneg _ (by decide), Int.fmod_eq_emod_of_nonneg _ (by decide)]
    omega
  by_cases h0 : wy = 0
  · subst h0
    obtain ⟨e6, c1, c2⟩ := turns (dOf (vBin .Mult (oOf (vIdx (oVar 2) (oOf (vBin .Mod (oOf (vBin .Add (oVar 5) (oOf (vBin .Mult (oCon (.int 5)) (oVar 7))))) (oCon (.int 26)))))) (oOf (vBin .Add (oCon (.int 1)) (oOf (vBin .Mod (oOf (vBin .Add (oVar 4) (oOf (vBin .Mult (oCon (.int 3)) (oVar 7))))) (oCon (.int 8))))))))
      (fun k => List.replicate (1 + (at' + 3 * (k : Int)).fmod 8).toNat (97 + ((fi + 5 * (k : Int)).fmod 26).toNat)) [some w5, some (.f (.int My)), some (.f (.str "abcdefghijklmnopqrstuvwxyz")), some (.f (.str (st ls))), some (.f (.int at')), some (.f (.int fi)), some (.f (.int 0))] (fun k hk => by
        obtain ⟨K, hK⟩ : ∃ K : Int, (k : Int) = K := ⟨_, rfl⟩
        rw [hK]
        have m0 := Int.fmod_nonneg_of_pos (at' + 3 * K) (b := 8) (by decide)
        have m1 := Int.fmod_lt_of_pos (at' + 3 * K) (b := 8) (by decide)
        have mm := mul_st [97 + ((fi + 5 * K).fmod 26).toNat] (k := 1 + (at' + 3 * K).fmod 8) (by omega) (by omega) (by simp)
        rw [rep_sing] at mm
        have l1 : log2i 5 + log2i K < 1000000 := by have := log_lt (i := K) (k := 10) (by omega) (by omega) (by decide); have : log2i 5 < 10 := by decide
                                                    omega
        have l2 : log2i 3 + log2i K < 1000000 := by have := log_lt (i := K) (k := 10) (by omega) (by omega) (by decide); have : log2i 3 < 10 := by decide
                                                    omega
        refine ⟨[some w5, some (.f (.int My)), some (.f (.str "abcdefghijklmnopqrstuvwxyz")), some (.f (.str (st ls))), some (.f (.int at')), some (.f (.int fi)), some (.f (.int 0)), some (.f (.int K))], ?_, rfl⟩
        simp_arith [sig_at, mm, l1, l2]) rfl
    refine ⟨(List.range many).map fun k : Nat => st (List.replicate (1 + (at' + 3 * (k : Int)).fmod 8).toNat (97 + ((fi + 5 * (k : Int)).fmod 26).toNat)), w5, ?_, by simp, ⟨nodup_map_range _ _ fun i j hij hj z => ?_, fun x hx => ?_⟩, pen_le p5 (by omega)⟩
    · rw [← hMy]
      unfold f_law_names b_law_names
      simp only [List.cons_append, List.nil_append] at c1 c2
      have z0 : ((0 : Int) == 0) = true := rfl
      simp_arith [ev_run, io_pen_take, e1, q1, r1, t1, g1, g2, hj, hlen, e3, q3, e4, q4, e5, q5, -bLen, z0, r2, t2, c1, c2]
    · have z := st_inj z
      have m0 := Int.fmod_nonneg_of_pos (at' + 3 * (i : Int)) (b := 8) (by decide)
      have m1 := Int.fmod_nonneg_of_pos (at' + 3 * (j : Int)) (b := 8) (by decide)
      have h1 : (97 + ((fi + 5 * (i : Int)).fmod 26).toNat) ∈ List.replicate (1 + (at' + 3 * (j : Int)).fmod 8).toNat (97 + ((fi + 5 * (j : Int)).fmod 26).toNat) := by
        rw [← z]
        exact List.mem_replicate.mpr ⟨by omega, rfl⟩
      have h2 := List.eq_of_mem_replicate h1
      have n0 := Int.fmod_nonneg_of_pos (fi + 5 * (i : Int)) (b := 26) (by decide)
      have n1 := Int.fmod_nonneg_of_pos (fi + 5 * (j : Int)) (b := 26) (by decide)
      exact five i j hij hj (by omega)
    · obtain ⟨k, hk, rfl⟩ := List.mem_map.mp hx
      have m0 := Int.fmod_nonneg_of_pos (at' + 3 * (k : Int)) (b := 8) (by decide)
      have m1 := Int.fmod_lt_of_pos (at' + 3 * (k : Int)) (b := 8) (by decide)
      have n0 := Int.fmod_nonneg_of_pos (fi + 5 * (k : Int)) (b := 26) (by decide)
      have n1 := Int.fmod_lt_of_pos (fi + 5 * (k : Int)) (b := 26) (by decide)
      refine ⟨_, rfl, by rw [List.length_replicate]; omega, by rw [List.length_replicate]; omega, fun c hc => ?_⟩
      rw [List.eq_of_mem_replicate hc]
      omega
  · have z0 : (wy == 0) = false := by simpa using h0
    by_cases h1 : wy = 1
    · subst h1
      have lt9 : decide (My < 9) = true := decide_eq_true (by omega)
      obtain ⟨e6, c1, c2⟩ := turns (dOf (vBin .Mult (oOf (vIdx (oVar 2) (oVar 5))) (oOf (vBin .Add (oCon (.int 1)) (oOf (vBin .Mod (oOf (vBin .Add (oVar 4) (oVar 7))) (oCon (.int 8))))))))
        (fun k => List.replicate (1 + (at' + (k : Int)).fmod 8).toNat (97 + fi.toNat)) [some w5, some (.f (.int My)), some (.f (.str "abcdefghijklmnopqrstuvwxyz")), some (.f (.str (st ls))), some (.f (.int at')), some (.f (.int fi)), some (.f (.int 1))] (fun k hk => by
          obtain ⟨K, hK⟩ : ∃ K : Int, (k : Int) = K := ⟨_, rfl⟩
          rw [hK]
          have m0 := Int.fmod_nonneg_of_pos (at' + K) (b := 8) (by decide)
          have m1 := Int.fmod_lt_of_pos (at' + K) (b := 8) (by decide)
          have mm := mul_st [97 + fi.toNat] (k := 1 + (at' + K).fmod 8) (by omega) (by omega) (by simp)
          rw [rep_sing] at mm
          refine ⟨[some w5, some (.f (.int My)), some (.f (.str "abcdefghijklmnopqrstuvwxyz")), some (.f (.str (st ls))), some (.f (.int at')), some (.f (.int fi)), some (.f (.int 1)), some (.f (.int K))], ?_, rfl⟩
          simp_arith [sign_at a4 b4, mm]) rfl
      refine ⟨(List.range many).map fun k : Nat => st (List.replicate (1 + (at' + (k : Int)).fmod 8).toNat (97 + fi.toNat)), w5, ?_, by simp, ⟨nodup_map_range _ _ fun i j hij hj z => ?_, fun x hx => ?_⟩, pen_le p5 (by omega)⟩
      · rw [← hMy]
        unfold f_law_names b_law_names
        simp only [List.cons_append, List.nil_append] at c1 c2
        simp_arith [ev_run, io_pen_take, e1, q1, r1, t1, g1, g2, hj, hlen, e3, q3, e4, q4, e5, q5, -bLen, z0, lt9, beq_self_eq_true, r2, t2, c1, c2]
      · have z := congrArg List.length (st_inj z)
        rw [List.length_replicate, List.length_replicate] at z
        have m0 := Int.fmod_nonneg_of_pos (at' + (i : Int)) (b := 8) (by decide)
        have m1 := Int.fmod_nonneg_of_pos (at' + (j : Int)) (b := 8) (by decide)
        have e : (at' + (i : Int)).fmod 8 = (at' + (j : Int)).fmod 8 := by omega
        rw [Int.fmod_eq_emod_of_nonneg _ (by decide), Int.fmod_eq_emod_of_nonneg _ (by decide)] at e
        omega
      · obtain ⟨k, hk, rfl⟩ := List.mem_map.mp hx
        have m0 := Int.fmod_nonneg_of_pos (at' + (k : Int)) (b := 8) (by decide)
        have m1 := Int.fmod_lt_of_pos (at' + (k : Int)) (b := 8) (by decide)
        refine ⟨_, rfl, by rw [List.length_replicate]; omega, by rw [List.length_replicate]; omega, fun c hc => ?_⟩
        rw [List.eq_of_mem_replicate hc]
        omega
    · have z1 : (wy == 1) = false := by simpa using h1
      obtain ⟨j0, hj0⟩ := Int.eq_ofNat_of_zero_le a3
      have hj0 : at' = (j0 : Int) := hj0
      have hj1 : j0 ≤ ls.length := by omega
      have s1 := cut_st ls none (some at') (by omega)
      have s2 := cut_st ls (some at') none (by omega)
      rw [hj0, cut_0g, Nat.min_eq_left hj1] at s1
      rw [hj0, cut_g0, Nat.min_eq_left hj1] at s2
      rw [← hj0] at s1 s2
      have lt : (ls.take j0).length = j0 := by rw [List.length_take]; omega
      have ld : (ls.drop j0).length = ls.length - j0 := List.length_drop
      obtain ⟨e6, c1, c2⟩ := turns (dOf (vBin .Add (oOf (vBin .Add (oOf (vSlc (oVar 3) pNo (pI (oVar 4)))) (oOf (vIdx (oVar 2) (oOf (vBin .Mod (oOf (vBin .Add (oVar 5) (oOf (vBin .Mult (oCon (.int 5)) (oVar 7))))) (oCon (.int 26)))))))) (oOf (vSlc (oVar 3) (pI (oVar 4)) pNo))))
        (fun k => ls.take j0 ++ [97 + ((fi + 5 * (k : Int)).fmod 26).toNat] ++ ls.drop j0) [some w5, some (.f (.int My)), some (.f (.str "abcdefghijklmnopqrstuvwxyz")), some (.f (.str (st ls))), some (.f (.int at')), some (.f (.int fi)), some (.f (.int wy))] (fun k hk => by
          obtain ⟨K, hK⟩ : ∃ K : Int, (k : Int) = K := ⟨_, rfl⟩
          rw [hK]
          have l1 : log2i 5 + log2i K < 1000000 := by
            have := log_lt (i := K) (k := 10) (by omega) (by omega) (by decide)
            have : log2i 5 < 10 := by decide
            omega
          have ad1 := add_st (ls.take j0) [97 + ((fi + 5 * K).fmod 26).toNat] (by simp; omega)
          have ad2 := add_st (ls.take j0 ++ [97 + ((fi + 5 * K).fmod 26).toNat]) (ls.drop j0) (by simp; omega)
          refine ⟨[some w5, some (.f (.int My)), some (.f (.str "abcdefghijklmnopqrstuvwxyz")), some (.f (.str (st ls))), some (.f (.int at')), some (.f (.int fi)), some (.f (.int wy)), some (.f (.int K))], ?_, rfl⟩
          simp_arith [sig_at, l1, s1, s2, ad1, ad2, -bin_adds]) rfl
      refine ⟨(List.range many).map fun k : Nat => st (ls.take j0 ++ [97 + ((fi + 5 * (k : Int)).fmod 26).toNat] ++ ls.drop j0), w5, ?_, by simp, ⟨nodup_map_range _ _ fun i j hij hj z => ?_, fun x hx => ?_⟩, pen_le p5 (by omega)⟩
      · rw [← hMy]
        unfold f_law_names b_law_names
        simp only [List.cons_append, List.nil_append] at c1 c2
        simp_arith [ev_run, io_pen_take, e1, q1, r1, t1, g1, g2, hj, hlen, e3, q3, e4, q4, e5, q5, -bLen, z0, z1, r2, t2, c1, c2]
      · have z := st_inj z
        rw [List.append_assoc, List.append_assoc] at z
        have z := List.append_cancel_left z
        simp only [List.cons_append, List.nil_append, List.cons.injEq] at z
        have n0 := Int.fmod_nonneg_of_pos (fi + 5 * (i : Int)) (b := 26) (by decide)
        have n1 := Int.fmod_nonneg_of_pos (fi + 5 * (j : Int)) (b := 26) (by decide)
        exact five i j hij hj (by omega)
      · obtain ⟨k, hk, rfl⟩ := List.mem_map.mp hx
        have n0 := Int.fmod_nonneg_of_pos (fi + 5 * (k : Int)) (b := 26) (by decide)
        have n1 := Int.fmod_lt_of_pos (fi + 5 * (k : Int)) (b := 26) (by decide)
        refine ⟨_, rfl, by simp; omega, by simp; omega, fun c hc => ?_⟩
        rcases List.mem_append.mp hc with z | z
        · rcases List.mem_append.mp z with z | z
          · exact g4 c (List.mem_of_mem_take z)
          · rw [List.mem_singleton.mp z]; omega
        · exact g4 c (List.mem_of_mem_drop z)
end Y

namespace Y
open PySem Z
local macro_rules | `(tactic| simp_arith [$ls,*]) => `(tactic| simp only [List.getD_cons_succ, List.getD_cons_zero, b_sum, b_any, b_all, in_cons, in_nil, bl_cons, bl_nil, uw_cons, uw_nil, wp_cons, wp_nil, fz_cons, fz_nil, ev_vLc, k1_vLc, lc0_ok, lc1_some, lc2, lc3, ev_vCon, ev_oCon, ev_dCon, ev_sNil, ev_sBrk, ev_sCnt, ev_sRetN, ev_dsNil, ev_osNil, ev_kvNil, ev_pNo, ev_vDct0, ev_bYes, ev_frz_some, ev_oVar, pk_some, ev_vFrz, pf_some, ev_vMove, pm_some, k1_dOf, ev_dOf, k1_oOf, ev_oOf, k1_vB, ev_vB, k2_vBin, k1_vBin, ev_vBin, k2_bCmp, k1_bCmp, ev_bCmp, k2_vIdx, k1_vIdx, ev_vIdx, k1_vRev, ev_vRev, k1_bNot, ev_bNot, k1_bTru, ev_bTru, k1_vIsi, ev_vIsi, k1_vBi, ev_vBi, k2_dsCons, k1_dsCons, ev_dsCons, k2_osCons, k1_osCons, ev_osCons, k3_kvCons, k2_kvCons, k1_kvCons, ev_kvCons, k1_vTup, ev_vTup, k1_vLst, ev_vLst, k1_vDct, ev_vDct, k3_vSlc, k2_vSlc, k1_vSlc, ev_vSlc, k1_pI, pIv_int, ev_pI, k1_vNeg, ngv_int, ev_vNeg, k1_bOf, bov_bool, ev_bOf, k1_bAnd, ev_bAnd, k1_bOr, ev_bOr, k1_vIf, ev_vIf, k1_sIf, ev_sIf, chv_t, chv_f, k2_bChn, k1_bChn, ev_bChn, sq_nx, sq_brk, sq_ct, sq_ret, ev_sSeq, k1_sSet, ev_sSet, k1_sEx, ev_sEx, k1_sRet, ev_sRet, bdv_some, k1_sBnd, ev_sBnd, ev_gSet, ev_gTupT, ev_gTupL, ev_gAll0, ev_gAll1, parv_2, k1_sPar, ev_sPar, wh_t, wh_f, wh_nx, wh_brk, wh_ret, fo_nx, fo_ct, fo_brk, fo_ret, fov_some, for_nil, k1_sFor, ev_sFor, iov_0, iov_1, iov_2, iov_3, k1_iOf, ev_iOf, r1_int, ev_iR1, r2_int, ev_iR2, en_l, ev_iEn, zp_l, zp_t, ev_iZp, ev_iVals, iva_d, ev_iItems, iit_d, k1_vIsiT, ev_vIsiT, k2_vMe, k1_vMe, ev_vMe, any_s, List.any_cons, List.any_nil, cl_ret, cl_exc, cl_some, k1_call, ev_mCall, k1_callP, ev_mCallP, clq_some, clp_b, clp_i, clp_s, clp_n, tk_nil, tk_lent, tkl_some, tk_frz, tkf_some, tk_dat, bk_lent, bk_f, bk_d, bk_nil, mk_nil, mk_cons, out_nx, out_ret, out_exc, ev_run, ev_io, put3_some, put2_some, k2_put, put1_some, k1_put, ev_sPut, app2_l, k1_app, app1_l, ev_vApp, vc1_l, ev_vClr, ve1_l, ve2_l, kx_l, ev_vExt, i3Add_int, i2Add, i1Add_int, ev_sAdd, i3Sub_int, i2Sub, i1Sub_int, ev_sSub, lk_inl, lk_inr, lks_nil, lks_cons, bind_ok, bind_exc, bind_bad, of_some, of_none, peek_nil, peek_zero, peek_zero', peek_succ, fz_f, fz_l, fz_d, bin_add, bin_sub, bin_mul, bin_fdiv, bin_mod, bin_pow, bin_adds, bin_addt, bin_addl, cmp_eq, cmp_ne, cmp_in, cmp_nin, cmp_lt, cmp_le, cmp_gt, cmp_ge, cmp_is, cmp_isn, isD_int, isD_bool, isD_str, isD_list, isD_tuple, isD_dict, tru_int, tru_bool, tru_none, tru_list, tru_tuple, item_l, item_t, put_l, eqD_int, eqD_bool, eqD_str, bind_some, map_some, bLen, bTup, bMax2, bMin2, bAbs, bInt, List.getElem?_cons_zero, List.getElem?_cons_succ, List.set_cons_zero, List.set_cons_succ, List.length_cons, List.length_nil, List.length_set, List.replicate_succ, List.replicate_zero, List.map_cons, List.map_nil, List.cons_append, List.nil_append, Option.map_some, Option.map_none, Option.bind_some, Option.bind_none, if_true, if_false, Bool.not_true, Bool.not_false, Bool.false_eq_true, Bool.true_eq_false, reduceIte, Nat.reduceAdd, Nat.reduceSub, Nat.reduceLT, Nat.reduceLeDiff, Nat.reduceEqDiff, decide_true, decide_false, Int.reduceNeg, ne_eq, not_true_eq_false, not_false_eq_true, Nat.zero_lt_succ, Nat.lt_add_one, and_self, and_true, true_and, Bool.true_and, Bool.false_and, Bool.and_true, Bool.or_true, Bool.or_false, Bool.true_or, Bool.false_or, sizeOk_small, Int.cast_ofNat_Int, Int.reduceBEq, Int.reduceLT, Int.reduceLE, Int.reduceEq, lt_line, Option.getD_some, BEq.rfl, List.all_cons, List.all_nil, List.any_cons, List.any_nil, id_eq, Y.tyn_l, Y.tyn_s, Y.tyn_d, Y.in_ll, Y.in_tl, Y.jk_peek, dc_nil, dc_cons, dc1_some, dc2, dc2b, dc3, dc0_ok, k1_vDc, ev_vDc, ev_vSd, sd1_d, k1_sd, sd2_d, sd3_s, sd3_n, ev_vDp, dp1_d, k1_vDp, dp2_d, dp3_s, k1_vLr, ev_vLr, lrv_i, k1_vItL, ev_vItL, itv_d, lc_cons, lc_nil, $ls,*])
/-! ### order -/
theorem le_trans (a b c : PyData) (h1 : W.dataLe false id a b = true) (h2 : W.dataLe false id b c = true) : W.dataLe false id a c = true := (PySem.W.sortLe_total (PyProof.Rows.listOrd PyProof.Rows.itemOrd) false (fun b : PyData => (W.keyToks b : List (Int ⊕ List Nat)))).trans a b c h1 h2
theorem le_total (a b : PyData) : (W.dataLe false id a b || W.dataLe false id b a) = true := by
  rw [Bool.or_eq_true]
  exact (PySem.W.sortLe_total (PyProof.Rows.listOrd PyProof.Rows.itemOrd) false (fun b : PyData => (W.keyToks b : List (Int ⊕ List Nat)))).total a b
theorem sort_pw (l : List PyData) : (sortD l).Pairwise fun a b => W.dataLe false id a b = true := List.pairwise_mergeSort le_trans le_total l
theorem sort_perm (l : List PyData) : (sortD l).Perm l := List.mergeSort_perm ..
theorem le_anti {a b : PyData} (h1 : W.dataLe false id a b = true) (h2 : W.dataLe false id b a = true) : W.keyToks a = W.keyToks b := by
  have e1 : PyProof.Rows.lexLt PyProof.Rows.itemOrd (W.keyToks b) (W.keyToks a) = false := by simpa [W.dataLe, PySem.W.sortLe] using h1
  have e2 : PyProof.Rows.lexLt PyProof.Rows.itemOrd (W.keyToks a) (W.keyToks b) = false := by simpa [W.dataLe, PySem.W.sortLe] using h2
  exact (PyProof.Rows.listOrd PyProof.Rows.itemOrd).total _ _ e2 e1
/-- data of which like order means the same -/
def Anti (l : List PyData) : Prop := ∀ a ∈ l, ∀ b ∈ l, W.keyToks a = W.keyToks b → a = b
theorem sort_uniq {l m : List PyData} (p : l.Perm m) (h : Anti l) : sortD l = sortD m := by
  refine List.Perm.eq_of_pairwise (fun a b ha hb h1 h2 => ?_) (sort_pw l) (sort_pw m) ((sort_perm l).trans (p.trans (sort_perm m).symm))
  exact h a ((sort_perm l).mem_iff.mp ha) b (p.mem_iff.mpr ((sort_perm m).mem_iff.mp hb)) (le_anti h1 h2)
theorem sort_filter {l : List PyData} (h : Anti l) (c : PyData → Bool) : sortD (l.filter c) = (sortD l).filter c := by
  refine List.Perm.eq_of_pairwise (fun a b ha hb h1 h2 => ?_) (sort_pw _) ((sort_pw l).sublist List.filter_sublist) ((sort_perm _).trans ((sort_perm l).filter c).symm)
  have ha := (List.mem_filter.mp ((sort_perm _).mem_iff.mp ha)).1
  have hb := (sort_perm l).mem_iff.mp (List.mem_filter.mp hb).1
  exact h a ha b hb (le_anti h1 h2)
theorem anti_strs (l : List Str) : Anti (l.map .str) := by
  intro a ha b hb e
  obtain ⟨x, _, rfl⟩ := List.mem_map.mp ha
  obtain ⟨y, _, rfl⟩ := List.mem_map.mp hb
  simp only [W.keyToks, List.cons.injEq, Sum.inr.injEq, and_true] at e
  rw [W.str_of_cps e]
def sortS (l : List Str) : List Str := (sortD (l.map .str)).filterMap fun p => match p with
  | .str x => some x
  | _ => none
theorem sortS_map (l : List Str) : sortD (l.map .str) = (sortS l).map .str := by
  unfold sortS
  have h : ∀ p ∈ sortD (l.map .str), ∃ x : Str, p = .str x := fun p hp => by
    obtain ⟨x, _, rfl⟩ := List.mem_map.mp ((sort_perm _).mem_iff.mp hp)
    exact ⟨x, rfl⟩
  generalize sortD (l.map .str) = m at h
  induction m with
  | nil => rfl
  | cons p m ih =>
    obtain ⟨x, rfl⟩ := h p (by simp)
    rw [List.filterMap_cons]
    simp only [List.map_cons]
    rw [← ih fun q hq => h q (by simp [hq])]
theorem map_inj {α β : Type} {f : α → β} (hf : ∀ a b, f a = f b → a = b) : ∀ {l m : List α}, l.map f = m.map f → l = m
  | [], [], _ => rfl
  | [], _ :: _, h => by cases h
  | _ :: _, [], h => by cases h
  | a :: l, b :: m, h => by
    simp only [List.map_cons, List.cons.injEq] at h
    rw [hf a b h.1, map_inj hf h.2]
theorem str_inj (a b : Str) (h : PyData.str a = .str b) : a = b := PyData.str.inj h
theorem sortS_perm (l : List Str) : (sortS l).Perm l := by
  have h := sort_perm (l.map .str)
  rw [sortS_map] at h
  have := h.filterMap fun p => match p with
    | .str x => some x
    | _ => none
  rw [List.filterMap_map, List.filterMap_map] at this
  have e : (fun p : PyData => match p with
    | .str x => some x
    | _ => none) ∘ PyData.str = (some : Str → Option Str) := rfl
  rw [e, List.filterMap_some, List.filterMap_some] at this
  exact this
theorem sortS_filter (l : List Str) (c : Str → Bool) : sortS (l.filter c) = (sortS l).filter c := by
  refine map_inj str_inj ?_
  rw [← sortS_map]
  let c' : PyData → Bool := fun p => match p with
    | .str x => c x
    | _ => false
  have e : (l.filter c).map PyData.str = (l.map .str).filter c' := by rw [List.filter_map]; rfl
  have e2 : ((sortS l).filter c).map PyData.str = ((sortS l).map .str).filter c' := by rw [List.filter_map]; rfl
  rw [e, e2, sort_filter (anti_strs l), sortS_map]
theorem sortS_uniq {l m : List Str} (p : l.Perm m) : sortS l = sortS m := by
  refine map_inj str_inj ?_
  rw [← sortS_map, ← sortS_map]
  exact sort_uniq (p.map _) (anti_strs l)
end Y

namespace Y
open PySem Z
local macro_rules | `(tactic| simp_arith [$ls,*]) => `(tactic| simp only [List.getD_cons_succ, List.getD_cons_zero, b_sum, b_any, b_all, in_cons, in_nil, bl_cons, bl_nil, uw_cons, uw_nil, wp_cons, wp_nil, fz_cons, fz_nil, ev_vLc, k1_vLc, lc0_ok, lc1_some, lc2, lc3, ev_vCon, ev_oCon, ev_dCon, ev_sNil, ev_sBrk, ev_sCnt, ev_sRetN, ev_dsNil, ev_osNil, ev_kvNil, ev_pNo, ev_vDct0, ev_bYes, ev_frz_some, ev_oVar, pk_some, ev_vFrz, pf_some, ev_vMove, pm_some, k1_dOf, ev_dOf, k1_oOf, ev_oOf, k1_vB, ev_vB, k2_vBin, k1_vBin, ev_vBin, k2_bCmp, k1_bCmp, ev_bCmp, k2_vIdx, k1_vIdx, ev_vIdx, k1_vRev, ev_vRev, k1_bNot, ev_bNot, k1_bTru, ev_bTru, k1_vIsi, ev_vIsi, k1_vBi, ev_vBi, k2_dsCons, k1_dsCons, ev_dsCons, k2_osCons, k1_osCons, ev_osCons, k3_kvCons, k2_kvCons, k1_kvCons, ev_kvCons, k1_vTup, ev_vTup, k1_vLst, ev_vLst, k1_vDct, ev_vDct, k3_vSlc, k2_vSlc, k1_vSlc, ev_vSlc, k1_pI, pIv_int, ev_pI, k1_vNeg, ngv_int, ev_vNeg, k1_bOf, bov_bool, ev_bOf, k1_bAnd, ev_bAnd, k1_bOr, ev_bOr, k1_vIf, ev_vIf, k1_sIf, ev_sIf, chv_t, chv_f, k2_bChn, k1_bChn, ev_bChn, sq_nx, sq_brk, sq_ct, sq_ret, ev_sSeq, k1_sSet, ev_sSet, k1_sEx, ev_sEx, k1_sRet, ev_sRet, bdv_some, k1_sBnd, ev_sBnd, ev_gSet, ev_gTupT, ev_gTupL, ev_gAll0, ev_gAll1, parv_2, k1_sPar, ev_sPar, wh_t, wh_f, wh_nx, wh_brk, wh_ret, fo_nx, fo_ct, fo_brk, fo_ret, fov_some, for_nil, k1_sFor, ev_sFor, iov_0, iov_1, iov_2, iov_3, k1_iOf, ev_iOf, r1_int, ev_iR1, r2_int, ev_iR2, en_l, ev_iEn, zp_l, zp_t, ev_iZp, ev_iVals, iva_d, ev_iItems, iit_d, k1_vIsiT, ev_vIsiT, k2_vMe, k1_vMe, ev_vMe, any_s, List.any_cons, List.any_nil, cl_ret, cl_exc, cl_some, k1_call, ev_mCall, k1_callP, ev_mCallP, clq_some, clp_b, clp_i, clp_s, clp_n, tk_nil, tk_lent, tkl_some, tk_frz, tkf_some, tk_dat, bk_lent, bk_f, bk_d, bk_nil, mk_nil, mk_cons, out_nx, out_ret, out_exc, ev_run, ev_io, put3_some, put2_some, k2_put, put1_some, k1_put, ev_sPut, app2_l, k1_app, app1_l, ev_vApp, vc1_l, ev_vClr, ve1_l, ve2_l, kx_l, ev_vExt, i3Add_int, i2Add, i1Add_int, ev_sAdd, i3Sub_int, i2Sub, i1Sub_int, ev_sSub, lk_inl, lk_inr, lks_nil, lks_cons, bind_ok, bind_exc, bind_bad, of_some, of_none, peek_nil, peek_zero, peek_zero', peek_succ, fz_f, fz_l, fz_d, bin_add, bin_sub, bin_mul, bin_fdiv, bin_mod, bin_pow, bin_adds, bin_addt, bin_addl, cmp_eq, cmp_ne, cmp_in, cmp_nin, cmp_lt, cmp_le, cmp_gt, cmp_ge, cmp_is, cmp_isn, isD_int, isD_bool, isD_str, isD_list, isD_tuple, isD_dict, tru_int, tru_bool, tru_none, tru_list, tru_tuple, item_l, item_t, put_l, eqD_int, eqD_bool, eqD_str, bind_some, map_some, bLen, bTup, bMax2, bMin2, bAbs, bInt, List.getElem?_cons_zero, List.getElem?_cons_succ, List.set_cons_zero, List.set_cons_succ, List.length_cons, List.length_nil, List.length_set, List.replicate_succ, List.replicate_zero, List.map_cons, List.map_nil, List.cons_append, List.nil_append, Option.map_some, Option.map_none, Option.bind_some, Option.bind_none, if_true, if_false, Bool.not_true, Bool.not_false, Bool.false_eq_true, Bool.true_eq_false, reduceIte, Nat.reduceAdd, Nat.reduceSub, Nat.reduceLT, Nat.reduceLeDiff, Nat.reduceEqDiff, decide_true, decide_false, Int.reduceNeg, ne_eq, not_true_eq_false, not_false_eq_true, Nat.zero_lt_succ, Nat.lt_add_one, and_self, and_true, true_and, Bool.true_and, Bool.false_and, Bool.and_true, Bool.or_true, Bool.or_false, Bool.true_or, Bool.false_or, sizeOk_small, Int.cast_ofNat_Int, Int.reduceBEq, Int.reduceLT, Int.reduceLE, Int.reduceEq, lt_line, Option.getD_some, BEq.rfl, List.all_cons, List.all_nil, List.any_cons, List.any_nil, id_eq, Y.tyn_l, Y.tyn_s, Y.tyn_d, Y.in_ll, Y.in_tl, Y.jk_peek, dc_nil, dc_cons, dc1_some, dc2, dc2b, dc3, dc0_ok, k1_vDc, ev_vDc, ev_vSd, sd1_d, k1_sd, sd2_d, sd3_s, sd3_n, ev_vDp, dp1_d, k1_vDp, dp2_d, dp3_s, k1_vLr, ev_vLr, lrv_i, k1_vItL, ev_vItL, itv_d, lc_cons, lc_nil, $ls,*])
open Ek (enc)
/-! ### comprehensions of dicts -/
theorem tb_app {α β : Type} [DecidableEq α] [Ek α] (g : β → PyData) (l m : List (α × β)) : tb g (l ++ m) = tb g l ++ tb g m := List.map_append ..
/-- those items that pass, as keys -/
theorem dc_fil {α : Type} [DecidableEq α] [Ek α] {own : List Nat} {g : Bd} {tt : M Bool} {mk mv : M PyData} {e : Z.Env} (c : α → Bool) (hd : Ek.dep α ≤ 7) {l : List α} (nd : l.Nodup) (hl : l.length ≤ 1000000)
    (h : ∀ x ∈ l, ∃ e1 e2, g (enc x) (wipeE e own) = some e1 ∧ tt e1 = .ok (c x) e2 ∧ (if c x = true then ∃ e3 e4, mk e2 = .ok (enc x) e3 ∧ mv e3 = .ok (.bool true) e4 ∧ wipeE e4 own = wipeE e own else wipeE e2 own = wipeE e own)) :
    ∀ {m : List α}, (m ++ l).Nodup → m.length + l.length ≤ 1000000 → ∀ e0, wipeE e0 own = wipeE e own → ∃ e', dcG own g tt mk mv (l.map enc) (tb .bool (m.map fun x => (x, true))) e0 = .ok (tb .bool ((m ++ l.filter c).map fun x => (x, true))) e' ∧ wipeE e' own = wipeE e own := by
  induction l with
  | nil => intro m _ _ e0 h0; exact ⟨e0, by rw [List.map_nil, dc_nil]; simp, h0⟩
  | cons x l ih =>
    intro m hm hml e0 h0
    rw [List.length_cons] at hl hml
    have nd' := (List.nodup_cons.mp nd).2
    have ih' := fun {m : List α} => ih nd' (by omega) (fun y hy => h y (List.mem_cons_of_mem _ hy)) (m := m)
    obtain ⟨e1, e2, q1, q2, q3⟩ := h x (List.mem_cons_self ..)
    rw [List.map_cons, dc_cons, h0, q1, dc1_some, q2, bind_ok]
    cases hc : c x with
    | true =>
      rw [hc, if_pos rfl] at q3
      obtain ⟨e3, e4, q4, q5, q6⟩ := q3
      have hx : x ∉ m := fun z => by
        have := (List.nodup_append.mp hm).2.2 x z x (List.mem_cons_self ..)
        exact this rfl
      have hk : (keyOk (enc x) && decide ((tb PyData.bool (m.map fun x => (x, true))).length < sizeLine)) = true := by
        rw [keyOk_enc hd, tb_len, List.length_map, decide_eq_true (lt_line (by omega))]
        rfl
      have hp : dput (tb PyData.bool (m.map fun x => (x, true))) (enc x) (.bool true) = tb .bool ((m ++ [x]).map fun x => (x, true)) := by
        rw [dput_tb .bool _ x true, aput_new, List.map_append]
        · rfl
        · rw [List.map_map]
          simpa using hx
      rw [dc2, if_pos rfl, q4, bind_ok, dc2b, q5, bind_ok, dc3, if_pos hk, hp]
      obtain ⟨e', r1, r2⟩ := ih' (m := m ++ [x]) (by simpa using hm) (by simp; omega) e4 q6
      refine ⟨e', ?_, r2⟩
      rw [r1, List.filter_cons_of_pos hc]
      simp
    | false =>
      rw [hc, if_neg (by simp)] at q3
      rw [dc2, if_neg (by simp)]
      obtain ⟨e', r1, r2⟩ := ih' (m := m) (hm.sublist ((List.Sublist.refl m).append (List.sublist_cons_self ..))) (by omega) e2 q3
      refine ⟨e', ?_, r2⟩
      rw [r1, List.filter_cons_of_neg (by simp [hc])]
/-! ### sorted pairs -/
theorem perm_map {α β : Type} {f : α → β} (dec : β → Option α) (hd : ∀ a, dec (f a) = some a) {m : List β} {l : List α} (h : m.Perm (l.map f)) : ∃ l2 : List α, l2.Perm l ∧ m = l2.map f := by
  refine ⟨m.filterMap dec, ?_, ?_⟩
  · have := h.filterMap dec
    rw [List.filterMap_map, show dec ∘ f = some from funext hd, List.filterMap_some] at this
    exact this
  · have hm : ∀ x ∈ m, ∃ a, x = f a := fun x hx => by
      obtain ⟨a, _, rfl⟩ := List.mem_map.mp (h.mem_iff.mp hx)
      exact ⟨a, rfl⟩
    clear h
    induction m with
    | nil => rfl
    | cons x m ih =>
      obtain ⟨a, rfl⟩ := hm x (by simp)
      rw [List.filterMap_cons, hd]
      simp only [List.map_cons]
      rw [← ih fun y hy => hm y (by simp [hy])]
def unP : PyData → Option (Int × Str)
  | .tuple [.int i, .str x] => some (i, x)
  | _ => none
theorem unP_enc (a : Int × Str) : unP (enc a) = some a := rfl
theorem sort_pairs (l : List (Int × Str)) : ∃ m : List (Int × Str), m.Perm l ∧ sortD (l.map enc) = m.map enc := perm_map unP unP_enc (sort_perm _)
theorem sorted_pairs {l : List (Int × Str)} (hl : l.length ≤ 1000000) : ∃ m : List (Int × Str), m.Perm l ∧ sorted? (l.map enc) = some (.lst (m.map enc)) := by
  obtain ⟨m, hm, e⟩ := sort_pairs l
  refine ⟨m, hm, ?_⟩
  unfold sorted?
  rw [e, if_pos]
  have h1 : allAlike (l.map enc) = true := by
    refine List.all_eq_true.mpr fun x hx => List.all_eq_true.mpr fun y hy => ?_
    obtain ⟨a, _, rfl⟩ := List.mem_map.mp hx
    obtain ⟨b, _, rfl⟩ := List.mem_map.mp hy
    show W.alike (.tuple [.int a.1, .str a.2]) (.tuple [.int b.1, .str b.2]) = true
    simp [W.alike, W.alikeAll]
  have h2 : sortable (l.map enc) = true := by
    unfold sortable
    rw [Bool.or_eq_true]
    left
    refine List.all_eq_true.mpr fun x hx => ?_
    obtain ⟨a, _, rfl⟩ := List.mem_map.mp hx
    rfl
  have h3 : depthOk (l.map enc) = true := by
    refine List.all_eq_true.mpr fun x hx => ?_
    obtain ⟨a, _, rfl⟩ := List.mem_map.mp hx
    have := Ek.dp a
    exact decide_eq_true (Nat.le_trans this (by decide))
  rw [h1, h2, h3, List.length_map, sizeOk_small hl]
  rfl
theorem sorted_strs {l : List Str} (hl : l.length ≤ 1000000) : sorted? (l.map .str) = some (.lst ((sortS l).map .str)) := by
  unfold sorted?
  rw [sortS_map, if_pos]
  have h1 : allAlike (l.map .str) = true := by
    refine List.all_eq_true.mpr fun x hx => List.all_eq_true.mpr fun y hy => ?_
    obtain ⟨a, _, rfl⟩ := List.mem_map.mp hx
    obtain ⟨b, _, rfl⟩ := List.mem_map.mp hy
    rfl
  have h2 : sortable (l.map .str) = true := by
    unfold sortable
    rw [Bool.or_eq_true]
    right
    refine List.all_eq_true.mpr fun x hx => ?_
    obtain ⟨a, _, rfl⟩ := List.mem_map.mp hx
    rfl
  have h3 : depthOk (l.map .str) = true := by
    refine List.all_eq_true.mpr fun x hx => ?_
    obtain ⟨a, _, rfl⟩ := List.mem_map.mp hx
    rfl
  rw [h1, h2, h3, List.length_map, sizeOk_small hl]
  rfl
theorem keys_tb {α β : Type} [DecidableEq α] [Ek α] (g : β → PyData) (l : List (α × β)) : (tb g l).map (·.1) = (l.map (·.1)).map enc := by
  unfold tb
  rw [List.map_map, List.map_map]
  rfl
theorem bS_dict {l : List (PyData × PyData)} (h : l.length ≤ 1000000) : bSorted [.dict l] = sorted? (l.map (·.1)) := by
  show (if sizeOk l.length then some (l.map (·.1)) else none).bind sorted? = _
  rw [if_pos (sizeOk_small h)]
  rfl
theorem bS_list (l : List PyData) : bSorted [.list l] = sorted? l := (rfl)
theorem bS_pairs {β : Type} (g : β → PyData) {l : List ((Int × Str) × β)} (hl : l.length ≤ 1000000) : ∃ m : List (Int × Str), m.Perm (l.map (·.1)) ∧ bSorted [.dict (tb g l)] = some (.lst (m.map enc)) := by
  obtain ⟨m, h1, h2⟩ := sorted_pairs (l := l.map (·.1)) (by simpa using hl)
  exact ⟨m, h1, by rw [bS_dict (by rw [tb_len]; exact hl), keys_tb]; exact h2⟩
theorem bS_strs {l : List Str} (hl : l.length ≤ 1000000) : bSorted [.list (l.map .str)] = some (.lst ((sortS l).map .str)) := by rw [bS_list, sorted_strs hl]
theorem bS_names {β : Type} (g : β → PyData) {l : List (Str × β)} (hl : l.length ≤ 1000000) : bSorted [.dict (tb g l)] = some (.lst ((sortS (l.map (·.1))).map .str)) := by
  rw [bS_dict (by rw [tb_len]; exact hl), keys_tb]
  exact sorted_strs (by simpa using hl)
end Y

namespace Y
open PySem Z
local macro_rules | `(tactic| simp_arith [$ls,*]) => `(tactic| simp only [List.getD_cons_succ, List.getD_cons_zero, b_sum, b_any, b_all, in_cons, in_nil, bl_cons, bl_nil, uw_cons, uw_nil, wp_cons, wp_nil, fz_cons, fz_nil, ev_vLc, k1_vLc, lc0_ok, lc1_some, lc2, lc3, ev_vCon, ev_oCon, ev_dCon, ev_sNil, ev_sBrk, ev_sCnt, ev_sRetN, ev_dsNil, ev_osNil, ev_kvNil, ev_pNo, ev_vDct0, ev_bYes, ev_frz_some, ev_oVar, pk_some, ev_vFrz, pf_some, ev_vMove, pm_some, k1_dOf, ev_dOf, k1_oOf, ev_oOf, k1_vB, ev_vB, k2_vBin, k1_vBin, ev_vBin, k2_bCmp, k1_bCmp, ev_bCmp, k2_vIdx, k1_vIdx, ev_vIdx, k1_vRev, ev_vRev, k1_bNot, ev_bNot, k1_bTru, ev_bTru, k1_vIsi, ev_vIsi, k1_vBi, ev_vBi, k2_dsCons, k1_dsCons, ev_dsCons, k2_osCons, k1_osCons, ev_osCons, k3_kvCons, k2_kvCons, k1_kvCons, ev_kvCons, k1_vTup, ev_vTup, k1_vLst, ev_vLst, k1_vDct, ev_vDct, k3_vSlc, k2_vSlc, k1_vSlc, ev_vSlc, k1_pI, pIv_int, ev_pI, k1_vNeg, ngv_int, ev_vNeg, k1_bOf, bov_bool, ev_bOf, k1_bAnd, ev_bAnd, k1_bOr, ev_bOr, k1_vIf, ev_vIf, k1_sIf, ev_sIf, chv_t, chv_f, k2_bChn, k1_bChn, ev_bChn, sq_nx, sq_brk, sq_ct, sq_ret, ev_sSeq, k1_sSet, ev_sSet, k1_sEx, ev_sEx, k1_sRet, ev_sRet, bdv_some, k1_sBnd, ev_sBnd, ev_gSet, ev_gTupT, ev_gTupL, ev_gAll0, ev_gAll1, parv_2, k1_sPar, ev_sPar, wh_t, wh_f, wh_nx, wh_brk, wh_ret, fo_nx, fo_ct, fo_brk, fo_ret, fov_some, for_nil, k1_sFor, ev_sFor, iov_0, iov_1, iov_2, iov_3, k1_iOf, ev_iOf, r1_int, ev_iR1, r2_int, ev_iR2, en_l, ev_iEn, zp_l, zp_t, ev_iZp, ev_iVals, iva_d, ev_iItems, iit_d, k1_vIsiT, ev_vIsiT, k2_vMe, k1_vMe, ev_vMe, any_s, List.any_cons, List.any_nil, cl_ret, cl_exc, cl_some, k1_call, ev_mCall, k1_callP, ev_mCallP, clq_some, clp_b, clp_i, clp_s, clp_n, tk_nil, tk_lent, tkl_some, tk_frz, tkf_some, tk_dat, bk_lent, bk_f, bk_d, bk_nil, mk_nil, mk_cons, out_nx, out_ret, out_exc, ev_run, ev_io, put3_some, put2_some, k2_put, put1_some, k1_put, ev_sPut, app2_l, k1_app, app1_l, ev_vApp, vc1_l, ev_vClr, ve1_l, ve2_l, kx_l, ev_vExt, i3Add_int, i2Add, i1Add_int, ev_sAdd, i3Sub_int, i2Sub, i1Sub_int, ev_sSub, lk_inl, lk_inr, lks_nil, lks_cons, bind_ok, bind_exc, bind_bad, of_some, of_none, peek_nil, peek_zero, peek_zero', peek_succ, fz_f, fz_l, fz_d, bin_add, bin_sub, bin_mul, bin_fdiv, bin_mod, bin_pow, bin_adds, bin_addt, bin_addl, cmp_eq, cmp_ne, cmp_in, cmp_nin, cmp_lt, cmp_le, cmp_gt, cmp_ge, cmp_is, cmp_isn, isD_int, isD_bool, isD_str, isD_list, isD_tuple, isD_dict, tru_int, tru_bool, tru_none, tru_list, tru_tuple, item_l, item_t, put_l, eqD_int, eqD_bool, eqD_str, bind_some, map_some, bLen, bTup, bMax2, bMin2, bAbs, bInt, List.getElem?_cons_zero, List.getElem?_cons_succ, List.set_cons_zero, List.set_cons_succ, List.length_cons, List.length_nil, List.length_set, List.replicate_succ, List.replicate_zero, List.map_cons, List.map_nil, List.cons_append, List.nil_append, Option.map_some, Option.map_none, Option.bind_some, Option.bind_none, if_true, if_false, Bool.not_true, Bool.not_false, Bool.false_eq_true, Bool.true_eq_false, reduceIte, Nat.reduceAdd, Nat.reduceSub, Nat.reduceLT, Nat.reduceLeDiff, Nat.reduceEqDiff, decide_true, decide_false, Int.reduceNeg, ne_eq, not_true_eq_false, not_false_eq_true, Nat.zero_lt_succ, Nat.lt_add_one, and_self, and_true, true_and, Bool.true_and, Bool.false_and, Bool.and_true, Bool.or_true, Bool.or_false, Bool.true_or, Bool.false_or, sizeOk_small, Int.cast_ofNat_Int, Int.reduceBEq, Int.reduceLT, Int.reduceLE, Int.reduceEq, lt_line, Option.getD_some, BEq.rfl, List.all_cons, List.all_nil, List.any_cons, List.any_nil, id_eq, Y.tyn_l, Y.tyn_s, Y.tyn_d, Y.in_ll, Y.in_tl, Y.jk_peek, dc_nil, dc_cons, dc1_some, dc2, dc2b, dc3, dc0_ok, k1_vDc, ev_vDc, ev_vSd, sd1_d, k1_sd, sd2_d, sd3_s, sd3_n, ev_vDp, dp1_d, k1_vDp, dp2_d, dp3_s, k1_vLr, ev_vLr, lrv_i, k1_vItL, ev_vItL, itv_d, lc_cons, lc_nil, $ls,*])
open Ek (enc)
/-- a row of pairs: digits to the base, names that are there -/
structure Rw (b : Int) (ns : List Str) (r : List (Int × Str)) : Prop where
  len : r.length ≤ 12
  nd : r.Nodup
  ok : ∀ p ∈ r, 0 ≤ p.1 ∧ p.1 < b ∧ p.2 ∈ ns
/-- a book's rows -/
structure Bk (b : Int) (ns : List Str) (rows : List (Str × List (Int × Str))) : Prop where
  keys : rows.map (·.1) = ns
  row : ∀ p ∈ rows, Rw b ns p.2
theorem name_at {ns : List Str} {v : Int} (h0 : 0 ≤ v) (h1 : v < (ns.length : Int)) : ∃ x ∈ ns, item (.list (ns.map .str)) (.int v) = some (.str x) := by
  obtain ⟨n, rfl⟩ := Int.eq_ofNat_of_zero_le h0
  have hn : n < ns.length := by omega
  refine ⟨ns[n], List.getElem_mem hn, ?_⟩
  have : ix (ns.map PyData.str).length (n : Int) = some n := by
    unfold ix
    rw [if_pos (by omega), if_pos (by simpa using hn)]
    simp
  show (ix (ns.map PyData.str).length (n : Int)).bind (fun k => (ns.map PyData.str)[k]?) = _
  rw [this]
  simp [hn]
theorem len_names (ns : List Str) : bLen [.list (ns.map .str)] = some (.f (.int (ns.length : Int))) := by
  show some (W.f (.int ((ns.map PyData.str).length : Int))) = _
  rw [List.length_map]
theorem put_true {l : List ((Int × Str) × Bool)} (hl : l.length < 100000) (d : Int) (x : Str) : putAt (.dct (tb .bool l)) (.tuple [.int d, .str x]) (.bool true) = some (.dct (tb .bool (aput l (d, x) true))) :=
  putAt_tb (α := Int × Str) (by decide) .bool l (lt_line (by omega)) (d, x) true
theorem aput_len {α β : Type} [DecidableEq α] (l : List (α × β)) (k : α) (v : β) : (aput l k v).length ≤ l.length + 1 := by
  unfold aput
  split <;> simp
theorem aput_mem {α β : Type} [DecidableEq α] {l : List (α × β)} {k x : α} {v : β} (h : x ∈ (aput l k v).map (·.1)) : x = k ∨ x ∈ l.map (·.1) := by
  rw [aput_keys] at h
  split at h
  · exact .inr h
  · rcases List.mem_append.mp h with z | z
    · exact .inr z
    · exact .inl (List.mem_singleton.mp z)
theorem r_law_row {n : Nat} {w : W} (hw : Pen n w) (hn : n < 700000) {b : Int} (hb : 1 < b) (hb2 : b ≤ 10) {ns : List Str} (h0 : ns ≠ []) (hns : ns.length ≤ 100) {most : Int} (hm0 : 0 ≤ most) (hm : most ≤ 12) :
    ∃ r w', f_law_row.run [w, .f (.int b), .f (.list (ns.map .str)), .f (.int most)] = .ret (.f (enc r)) [some w', none, none, none] ∧ Rw b ns r ∧ Pen (n + 30) w' := by
  obtain ⟨v, w1, e1, v0, v1, p1⟩ := r_take hw (by omega) (m := most + 1) (by omega) (Int.lt_of_le_of_lt (b := 101) (by omega) (by decide))
  obtain ⟨m, hm1⟩ := Int.eq_ofNat_of_zero_le v0
  have hm1 : v = (m : Int) := hm1
  have hlen := len_names ns
  have npos : 0 < ns.length := List.length_pos_iff.mpr h0
  obtain ⟨N, hN⟩ : ∃ N : Int, (ns.length : Int) = N := ⟨_, rfl⟩
  rw [hN] at hlen
  obtain ⟨e', q, l, w2, x5, rfl, a1, a2, a3, a4⟩ := forG_all (g := gSet 5) (b := b_law_row_1)
    (fun i e => ∃ (l : List ((Int × Str) × Bool)) (w2 : W) (x5 : Option W), e = [some w2, some (.f (.int b)), some (.f (.list (ns.map .str))), some (.f (.int most)), some (.dct (tb .bool l)), x5] ∧ l.length ≤ i ∧ (l.map (·.1)).Nodup ∧ (∀ p ∈ l.map (·.1), 0 ≤ p.1 ∧ p.1 < b ∧ p.2 ∈ ns) ∧ Pen (n + 1 + 2 * i) w2)
    (l := rangeD 0 m) (n := 0) (e := [some w1, some (.f (.int b)), some (.f (.list (ns.map .str))), some (.f (.int most)), some (.dct []), none])
    ⟨[], w1, none, rfl, Nat.le_refl _, by simp, by simp, p1⟩ (fun i x hx e he => by
      obtain ⟨l, w2, x5, rfl, a1, a2, a3, a4⟩ := he
      obtain ⟨hi, rfl⟩ := rangeD_at hx
      rw [Nat.zero_add] at a1 a4
      obtain ⟨d, w3, e3, d0, d1, p3⟩ := r_take a4 (by omega) (m := b) (by omega) (Int.lt_of_le_of_lt (b := 101) (by omega) (by decide))
      obtain ⟨u, w4, e4, u0, u1, p4⟩ := r_take p3 (by omega) (m := N) (by omega) (Int.lt_of_le_of_lt (b := 101) (by omega) (by decide))
      obtain ⟨y, hy, ey⟩ := name_at (ns := ns) u0 (by omega)
      have hp := put_true (l := l) (by omega) d y
      obtain ⟨f1, q1⟩ := pen_fz a4
      obtain ⟨f2, q2⟩ := pen_fz p3
      refine ⟨[some w2, some (.f (.int b)), some (.f (.list (ns.map .str))), some (.f (.int most)), some (.dct (tb .bool l)), some (.f (.int (0 + (i : Int))))], .nx, _, rfl, ?_, .inl rfl, aput l (d, y) true, w4, some (.f (.int (0 + (i : Int)))), rfl, ?_, aput_nodup a2 _ _, fun p hp => ?_, pen_le p4 (by omega)⟩
      · unfold b_law_row_1
        simp_arith [io_pen_take, e3, e4, q1, q2, hlen, ey, hp, -bLen]
      · have := aput_len l (d, y) true
        omega
      · rcases aput_mem hp with rfl | z
        · exact ⟨d0, d1, hy⟩
        · exact a3 p z)
  rw [Nat.zero_add, rangeD_len] at a1 a4
  obtain ⟨r, r1, r2⟩ := bS_pairs .bool (l := l) (by omega)
  obtain ⟨f1, q1⟩ := pen_fz hw
  refine ⟨r, w2, ?_, ⟨by rw [r1.length_eq, List.length_map]; omega, r1.nodup_iff.mpr a2, fun p hp => a3 p (r1.mem_iff.mp hp)⟩, pen_le a4 (by omega)⟩
  have s1 : small62 v = true := by rw [hm1]; exact small_nat (by omega)
  have t1 : v.toNat = m := by omega
  have et : bTup [.list (r.map enc)] = some (.f (enc r)) := (rfl)
  unfold f_law_row b_law_row
  simp_arith [ev_run, io_pen_take, e1, q1, s1, t1, q, r2, et, -bSorted, -bTup]
end Y

namespace Y
open PySem Z
local macro_rules | `(tactic| simp_arith [$ls,*]) => `(tactic| simp only [List.getD_cons_succ, List.getD_cons_zero, b_sum, b_any, b_all, in_cons, in_nil, bl_cons, bl_nil, uw_cons, uw_nil, wp_cons, wp_nil, fz_cons, fz_nil, ev_vLc, k1_vLc, lc0_ok, lc1_some, lc2, lc3, ev_vCon, ev_oCon, ev_dCon, ev_sNil, ev_sBrk, ev_sCnt, ev_sRetN, ev_dsNil, ev_osNil, ev_kvNil, ev_pNo, ev_vDct0, ev_bYes, ev_frz_some, ev_oVar, pk_some, ev_vFrz, pf_some, ev_vMove, pm_some, k1_dOf, ev_dOf, k1_oOf, ev_oOf, k1_vB, ev_vB, k2_vBin, k1_vBin, ev_vBin, k2_bCmp, k1_bCmp, ev_bCmp, k2_vIdx, k1_vIdx, ev_vIdx, k1_vRev, ev_vRev, k1_bNot, ev_bNot, k1_bTru, ev_bTru, k1_vIsi, ev_vIsi, k1_vBi, ev_vBi, k2_dsCons, k1_dsCons, ev_dsCons, k2_osCons, k1_osCons, ev_osCons, k3_kvCons, k2_kvCons, k1_kvCons, ev_kvCons, k1_vTup, ev_vTup, k1_vLst, ev_vLst, k1_vDct, ev_vDct, k3_vSlc, k2_vSlc, k1_vSlc, ev_vSlc, k1_pI, pIv_int, ev_pI, k1_vNeg, ngv_int, ev_vNeg, k1_bOf, bov_bool, ev_bOf, k1_bAnd, ev_bAnd, k1_bOr, ev_bOr, k1_vIf, ev_vIf, k1_sIf, ev_sIf, chv_t, chv_f, k2_bChn, k1_bChn, ev_bChn, sq_nx, sq_brk, sq_ct, sq_ret, ev_sSeq, k1_sSet, ev_sSet, k1_sEx, ev_sEx, k1_sRet, ev_sRet, bdv_some, k1_sBnd, ev_sBnd, ev_gSet, ev_gTupT, ev_gTupL, ev_gAll0, ev_gAll1, parv_2, k1_sPar, ev_sPar, wh_t, wh_f, wh_nx, wh_brk, wh_ret, fo_nx, fo_ct, fo_brk, fo_ret, fov_some, for_nil, k1_sFor, ev_sFor, iov_0, iov_1, iov_2, iov_3, k1_iOf, ev_iOf, r1_int, ev_iR1, r2_int, ev_iR2, en_l, ev_iEn, zp_l, zp_t, ev_iZp, ev_iVals, iva_d, ev_iItems, iit_d, k1_vIsiT, ev_vIsiT, k2_vMe, k1_vMe, ev_vMe, any_s, List.any_cons, List.any_nil, cl_ret, cl_exc, cl_some, k1_call, ev_mCall, k1_callP, ev_mCallP, clq_some, clp_b, clp_i, clp_s, clp_n, tk_nil, tk_lent, tkl_some, tk_frz, tkf_some, tk_dat, bk_lent, bk_f, bk_d, bk_nil, mk_nil, mk_cons, out_nx, out_ret, out_exc, ev_run, ev_io, put3_some, put2_some, k2_put, put1_some, k1_put, ev_sPut, app2_l, k1_app, app1_l, ev_vApp, vc1_l, ev_vClr, ve1_l, ve2_l, kx_l, ev_vExt, i3Add_int, i2Add, i1Add_int, ev_sAdd, i3Sub_int, i2Sub, i1Sub_int, ev_sSub, lk_inl, lk_inr, lks_nil, lks_cons, bind_ok, bind_exc, bind_bad, of_some, of_none, peek_nil, peek_zero, peek_zero', peek_succ, fz_f, fz_l, fz_d, bin_add, bin_sub, bin_mul, bin_fdiv, bin_mod, bin_pow, bin_adds, bin_addt, bin_addl, cmp_eq, cmp_ne, cmp_in, cmp_nin, cmp_lt, cmp_le, cmp_gt, cmp_ge, cmp_is, cmp_isn, isD_int, isD_bool, isD_str, isD_list, isD_tuple, isD_dict, tru_int, tru_bool, tru_none, tru_list, tru_tuple, item_l, item_t, put_l, eqD_int, eqD_bool, eqD_str, bind_some, map_some, bLen, bTup, bMax2, bMin2, bAbs, bInt, List.getElem?_cons_zero, List.getElem?_cons_succ, List.set_cons_zero, List.set_cons_succ, List.length_cons, List.length_nil, List.length_set, List.replicate_succ, List.replicate_zero, List.map_cons, List.map_nil, List.cons_append, List.nil_append, Option.map_some, Option.map_none, Option.bind_some, Option.bind_none, if_true, if_false, Bool.not_true, Bool.not_false, Bool.false_eq_true, Bool.true_eq_false, reduceIte, Nat.reduceAdd, Nat.reduceSub, Nat.reduceLT, Nat.reduceLeDiff, Nat.reduceEqDiff, decide_true, decide_false, Int.reduceNeg, ne_eq, not_true_eq_false, not_false_eq_true, Nat.zero_lt_succ, Nat.lt_add_one, and_self, and_true, true_and, Bool.true_and, Bool.false_and, Bool.and_true, Bool.or_true, Bool.or_false, Bool.true_or, Bool.false_or, sizeOk_small, Int.cast_ofNat_Int, Int.reduceBEq, Int.reduceLT, Int.reduceLE, Int.reduceEq, lt_line, Option.getD_some, BEq.rfl, List.all_cons, List.all_nil, List.any_cons, List.any_nil, id_eq, Y.tyn_l, Y.tyn_s, Y.tyn_d, Y.in_ll, Y.in_tl, Y.jk_peek, dc_nil, dc_cons, dc1_some, dc2, dc2b, dc3, dc0_ok, k1_vDc, ev_vDc, ev_vSd, sd1_d, k1_sd, sd2_d, sd3_s, sd3_n, ev_vDp, dp1_d, k1_vDp, dp2_d, dp3_s, k1_vLr, ev_vLr, lrv_i, k1_vItL, ev_vItL, itv_d, lc_cons, lc_nil, $ls,*])
open Ek (enc)
def aputs {α : Type} [DecidableEq α] (l : List (α × Bool)) : List α → List (α × Bool)
  | [] => l
  | x :: r => aputs (aput l x true) r
theorem aputs_tb {α : Type} [DecidableEq α] [Ek α] : ∀ (qs : List α) (l : List (α × Bool)), dputs (tb .bool l) (qs.map fun q => (enc q, .bool true)) = tb .bool (aputs l qs)
  | [], l => rfl
  | q :: qs, l => by
    rw [List.map_cons, dputs, dput_tb .bool l q true, aputs_tb qs, aputs]
theorem aputs_nodup {α : Type} [DecidableEq α] : ∀ (qs : List α) (l : List (α × Bool)), (l.map (·.1)).Nodup → ((aputs l qs).map (·.1)).Nodup
  | [], _, h => h
  | q :: qs, l, h => aputs_nodup qs _ (aput_nodup h q true)
theorem aputs_mem {α : Type} [DecidableEq α] : ∀ (qs : List α) (l : List (α × Bool)) {x : α}, x ∈ (aputs l qs).map (·.1) → x ∈ qs ∨ x ∈ l.map (·.1)
  | [], _, _, h => .inr h
  | q :: qs, l, x, h => by
    rcases aputs_mem qs _ h with z | z
    · exact .inl (by simp [z])
    · rcases aput_mem z with rfl | z
      · exact .inl (by simp)
      · exact .inr z
theorem aputs_len {α : Type} [DecidableEq α] : ∀ (qs : List α) (l : List (α × Bool)), (aputs l qs).length ≤ l.length + qs.length
  | [], _ => by simp [aputs]
  | q :: qs, l => by
    have h1 := aputs_len qs (aput l q true)
    have h2 := aput_len l q true
    simp only [aputs, List.length_cons]
    omega
theorem pairs_true {α : Type} [DecidableEq α] [Ek α] : ∀ qs : List α, pairs? (qs.map fun q => .tuple [enc q, .bool true]) = some (qs.map fun q => (enc q, .bool true))
  | [] => rfl
  | q :: qs => by rw [List.map_cons, pairs?, pairs_true qs]; rfl
theorem bDict_true {α : Type} [DecidableEq α] [Ek α] (hd : Ek.dep α ≤ 7) {qs : List α} (h : qs.length ≤ 1000000) : bDict [.list (qs.map fun q => .tuple [enc q, .bool true])] = some (.dct (tb .bool (aputs [] qs))) := by
  show ((pairs? _).bind fun ps => if hasKeys ps && sizeOk ps.length then some (W.dct (dputs [] ps)) else none) = _
  rw [pairs_true, Option.bind_some, if_pos]
  · exact congrArg (fun z => some (W.dct z)) (aputs_tb qs [])
  · rw [List.length_map, sizeOk_small h, Bool.and_true]
    refine List.all_eq_true.mpr fun p hp => ?_
    obtain ⟨q, _, rfl⟩ := List.mem_map.mp hp
    exact keyOk_enc hd q
theorem some_at {b : Int} (hb : 1 < b) (hb2 : b ≤ 10) {ns : List Str} {x y : Str} (hx : x ∈ ns) (hy : y ∈ ns) {d e v : Int} (d0 : 0 ≤ d) (d1 : d < b) (e0 : 0 ≤ e) (e1 : e < b) (h0 : 5 < v) (h1 : v < 12) :
    ∃ qs : List (Int × Str), item (.list [.list [.tuple [.int d, .str x], .tuple [.int e, .str x]], .list ((List.range b.toNat).map fun k : Nat => .tuple [.int (k : Int), .str x]), .list [.tuple [.int 0, .str y], .tuple [.int (b - 1), .str x]],
        .list [.tuple [.int d, .str x]], .list [.tuple [.int d, .str x], .tuple [.int e, .str y]], .list [.tuple [.int d, .str y], .tuple [.int d, .str x]]]) (.int (v - 6)) = some (.list (qs.map enc)) ∧ qs.length ≤ 12 ∧ ∀ p ∈ qs, 0 ≤ p.1 ∧ p.1 < b ∧ p.2 ∈ ns := by
  have hv : v = 6 ∨ v = 7 ∨ v = 8 ∨ v = 9 ∨ v = 10 ∨ v = 11 := by omega
  rcases hv with rfl | rfl | rfl | rfl | rfl | rfl
  · exact ⟨[(d, x), (e, x)], rfl, by simp, by simp [*]⟩
  · refine ⟨(List.range b.toNat).map fun k : Nat => ((k : Int), x), ?_, by simp; omega, fun p hp => ?_⟩
    · rw [List.map_map]
      rfl
    · obtain ⟨k, hk, rfl⟩ := List.mem_map.mp hp
      have := List.mem_range.mp hk
      exact ⟨by simp, by simp; omega, hx⟩
  · exact ⟨[(0, y), (b - 1, x)], rfl, by simp, by simp [*]; omega⟩
  · exact ⟨[(d, x)], rfl, by simp, by simp [*]⟩
  · exact ⟨[(d, x), (e, y)], rfl, by simp, by simp [*]⟩
  · exact ⟨[(d, y), (d, x)], rfl, by simp, by simp [*]⟩
/-- the pairs of all digits and a name -/
theorem all_digits {b : Int} (hb : 1 < b) (hb2 : b ≤ 10) (x : Str) (x0 x2 x3 x4 x6 x7 x8 x9 x10 x11 x12 x13 : Option W) : ∃ e', lcG [12] (gSet 12) bYes (dOf (vTup (dsCons (dOf (vFrz 12)) (dsCons (dOf (vFrz 5)) dsNil)))) (rangeD 0 b.toNat) [] [x0, some (.f (.int b)), x2, x3, x4, some (.f (.str x)), x6, x7, x8, x9, x10, x11, x12, x13] =
    .ok ((List.range b.toNat).map fun k : Nat => .tuple [.int (k : Int), .str x]) e' ∧ wipeE e' [12] = [x0, some (.f (.int b)), x2, x3, x4, some (.f (.str x)), x6, x7, x8, x9, x10, x11, none, x13] := by
  rw [rangeD_nat]
  exact lc_map (own := [12]) (g := gSet 12) (e := [x0, some (.f (.int b)), x2, x3, x4, some (.f (.str x)), x6, x7, x8, x9, x10, x11, x12, x13]) (fun k : Nat => .int (k : Int)) (fun k : Nat => .tuple [.int (k : Int), .str x]) (l := List.range b.toNat) (by simp; omega) fun k hk => by
    obtain ⟨K, hK⟩ : ∃ K : Int, (k : Int) = K := ⟨_, rfl⟩
    rw [hK]
    refine ⟨_, [x0, some (.f (.int b)), x2, x3, x4, some (.f (.str x)), x6, x7, x8, x9, x10, x11, some (.f (.int K)), x13], rfl, ?_, rfl⟩
    simp_arith [bind_ok]
theorem to_true (qs : List (Int × Str)) (hq : qs.length ≤ 1000) (x0 x1 x2 x3 x4 x5 x6 x7 x8 x9 x10 x11 x12 x13 : Option W) : ∃ e', lcG [13] (gSet 13) bYes (dOf (vTup (dsCons (dOf (vFrz 13)) (dsCons (dCon (.bool true)) dsNil)))) (qs.map enc) [] [x0, x1, x2, x3, x4, x5, x6, x7, x8, x9, x10, x11, x12, x13] =
    .ok (qs.map fun q => .tuple [enc q, .bool true]) e' ∧ wipeE e' [13] = [x0, x1, x2, x3, x4, x5, x6, x7, x8, x9, x10, x11, x12, none] := by
  exact lc_map (own := [13]) (g := gSet 13) (e := [x0, x1, x2, x3, x4, x5, x6, x7, x8, x9, x10, x11, x12, x13]) enc (fun q : Int × Str => .tuple [enc q, .bool true]) (l := qs) (by omega) fun q hq => by
    refine ⟨_, [x0, x1, x2, x3, x4, x5, x6, x7, x8, x9, x10, x11, x12, some (.f (enc q))], rfl, ?_, rfl⟩
    generalize enc q = z
    simp_arith [bind_ok]
theorem put_row {rows : List (Str × List (Int × Str))} (h : rows.length ≤ 100000) (x : Str) (r : List (Int × Str)) : putAt (.dct (tb enc rows)) (.str x) (enc r) = some (.dct (tb enc (aput rows x r))) :=
  putAt_tb (α := Str) (by decide) enc rows (lt_line (by omega)) x r
theorem r_book_1 {n : Nat} {w : W} (hw : Pen n w) (hn : n < 600000) {b : Int} (hb : 1 < b) (hb2 : b ≤ 10) {ns : List Str} (hns : ns.length ≤ 100) {most : Int} (hm0 : 0 ≤ most) (hm : most ≤ 12) {x : Str} (hx : x ∈ ns) {rows : List (Str × List (Int × Str))} (hr : rows.length ≤ 1000) (x6 x7 x8 x9 x10 x11 x12 x13 : Option W) :
    ∃ r w' y6 y7 y8 y9 y10 y11 y12 y13, b_law_book_1 [some w, some (.f (.int b)), some (.f (.list (ns.map .str))), some (.f (.int most)), some (.dct (tb enc rows)), some (.f (.str x)), x6, x7, x8, x9, x10, x11, x12, x13] =
      .ok .nx [some w', some (.f (.int b)), some (.f (.list (ns.map .str))), some (.f (.int most)), some (.dct (tb enc (aput rows x r))), some (.f (.str x)), y6, y7, y8, y9, y10, y11, y12, y13] ∧ Rw b ns r ∧ Pen (n + 40) w' := by
  have npos : 0 < ns.length := List.length_pos_iff.mpr fun z => by rw [z] at hx; cases hx
  have hlen := len_names ns
  obtain ⟨N, hN⟩ : ∃ N : Int, (ns.length : Int) = N := ⟨_, rfl⟩
  rw [hN] at hlen
  obtain ⟨u, w1, e1, u0, u1, p1⟩ := r_take hw (by omega) (m := N) (by omega) (Int.lt_of_le_of_lt (b := 101) (by omega) (by decide))
  obtain ⟨y, hy, ey⟩ := name_at (ns := ns) u0 (by omega)
  obtain ⟨d, w2, e2, d0, d1, p2⟩ := r_take p1 (by omega) (m := b) (by omega) (Int.lt_of_le_of_lt (b := 101) (by omega) (by decide))
  obtain ⟨e, w3, e3, c0, c1, p3⟩ := r_take p2 (by omega) (m := b) (by omega) (Int.lt_of_le_of_lt (b := 101) (by omega) (by decide))
  obtain ⟨v, w4, e4, v0, v1, p4⟩ := r_take p3 (by omega) (m := 12) (by decide) (by decide)
  obtain ⟨r, w5, e5, rw1, p5⟩ := r_law_row p4 (by omega) hb hb2 (ns := ns) (fun z => by rw [z] at hx; cases hx) hns hm0 hm
  obtain ⟨f1, q1⟩ := pen_fz hw
  obtain ⟨f2, q2⟩ := pen_fz p1
  obtain ⟨f3, q3⟩ := pen_fz p2
  obtain ⟨f4, q4⟩ := pen_fz p3
  obtain ⟨f5, q5⟩ := pen_fz p4
  have io1 : f_law_row.io = [true, false, false, false] := rfl
  by_cases hv : 5 < v
  · obtain ⟨qs, s1, s2, s3⟩ := some_at hb hb2 hx hy d0 d1 c0 c1 hv v1
    have hdict := bDict_true (α := Int × Str) (by decide) (qs := qs) (by omega)
    obtain ⟨m, m1, m2⟩ := bS_pairs .bool (l := aputs [] qs) (by have := aputs_len qs []; simp at this; omega)
    have hrow : Rw b ns m := ⟨by rw [m1.length_eq, List.length_map]; have := aputs_len qs []; simp at this; omega, m1.nodup_iff.mpr (aputs_nodup qs [] (by simp)), fun p hp => by
      rcases aputs_mem qs [] (m1.mem_iff.mp hp) with z | z
      · exact s3 p z
      · simp at z⟩
    have et : bTup [.list (m.map enc)] = some (.f (enc m)) := (rfl)
    have hput := put_row (rows := rows) (by omega) x m
    have r1 : small62 b = true := by
      obtain ⟨B, hB⟩ := Int.eq_ofNat_of_zero_le (a := b) (by omega)
      have hB : b = (B : Int) := hB
      rw [hB]; exact small_nat (by omega)
    have dv : decide (5 < v) = true := decide_eq_true hv
    obtain ⟨ea, a1, a2⟩ := all_digits hb hb2 x (some w5) (some (.f (.list (ns.map .str)))) (some (.f (.int most))) (some (.dct (tb enc rows))) (some (.f (.str y))) (some (.f (.int d))) (some (.f (.int e))) (some (.f (.int v))) (some (.f (enc r))) x11 (jk x12) x13
    refine ⟨m, w5, some (.f (.str y)), some (.f (.int d)), some (.f (.int e)), some (.f (.int v)), some (.f (enc m)), some (.lst [.list [.tuple [.int d, .str x], .tuple [.int e, .str x]], .list ((List.range b.toNat).map fun k : Nat => .tuple [.int (k : Int), .str x]), .list [.tuple [.int 0, .str y], .tuple [.int (b - 1), .str x]],
        .list [.tuple [.int d, .str x]], .list [.tuple [.int d, .str x], .tuple [.int e, .str y]], .list [.tuple [.int d, .str y], .tuple [.int d, .str x]]]), jk x12, jk x13, ?_, hrow, pen_le p5 (by omega)⟩
    obtain ⟨eb, b1, b2⟩ := to_true qs (by omega) (some w5) (some (.f (.int b))) (some (.f (.list (ns.map .str)))) (some (.f (.int most))) (some (.dct (tb enc rows))) (some (.f (.str x))) (some (.f (.str y))) (some (.f (.int d))) (some (.f (.int e))) (some (.f (.int v))) (some (.f (enc r))) (some (.lst [.list [.tuple [.int d, .str x], .tuple [.int e, .str x]], .list ((List.range b.toNat).map fun k : Nat => .tuple [.int (k : Int), .str x]), .list [.tuple [.int 0, .str y], .tuple [.int (b - 1), .str x]],
        .list [.tuple [.int d, .str x]], .list [.tuple [.int d, .str x], .tuple [.int e, .str y]], .list [.tuple [.int d, .str y], .tuple [.int d, .str x]]])) (jk x12) (jk x13)
    generalize enc r = er at *
    generalize enc m = em at *
    unfold b_law_book_1
    simp_arith [io_pen_take, io1, e1, e2, e3, e4, e5, q1, q2, q3, q4, q5, hlen, ey, -bLen, dv, r1, a1, a2, s1, b1, b2, hdict, m2, et, hput, -bSorted, -bTup, -bDict]
  · have dv : decide (5 < v) = false := decide_eq_false hv
    have hput := put_row (rows := rows) (by omega) x r
    refine ⟨r, w5, some (.f (.str y)), some (.f (.int d)), some (.f (.int e)), some (.f (.int v)), some (.f (enc r)), x11, x12, x13, ?_, rw1, pen_le p5 (by omega)⟩
    generalize enc r = er at *
    unfold b_law_book_1
    simp_arith [io_pen_take, io1, e1, e2, e3, e4, e5, q1, q2, q3, q4, q5, hlen, ey, -bLen, dv, hput]
end Y

namespace Y
open PySem Z
local macro_rules | `(tactic| simp_arith [$ls,*]) => `(tactic| simp only [List.getD_cons_succ, List.getD_cons_zero, b_sum, b_any, b_all, in_cons, in_nil, bl_cons, bl_nil, uw_cons, uw_nil, wp_cons, wp_nil, fz_cons, fz_nil, ev_vLc, k1_vLc, lc0_ok, lc1_some, lc2, lc3, ev_vCon, ev_oCon, ev_dCon, ev_sNil, ev_sBrk, ev_sCnt, ev_sRetN, ev_dsNil, ev_osNil, ev_kvNil, ev_pNo, ev_vDct0, ev_bYes, ev_frz_some, ev_oVar, pk_some, ev_vFrz, pf_some, ev_vMove, pm_some, k1_dOf, ev_dOf, k1_oOf, ev_oOf, k1_vB, ev_vB, k2_vBin, k1_vBin, ev_vBin, k2_bCmp, k1_bCmp, ev_bCmp, k2_vIdx, k1_vIdx, ev_vIdx, k1_vRev, ev_vRev, k1_bNot, ev_bNot, k1_bTru, ev_bTru, k1_vIsi, ev_vIsi, k1_vBi, ev_vBi, k2_dsCons, k1_dsCons, ev_dsCons, k2_osCons, k1_osCons, ev_osCons, k3_kvCons, k2_kvCons, k1_kvCons, ev_kvCons, k1_vTup, ev_vTup, k1_vLst, ev_vLst, k1_vDct, ev_vDct, k3_vSlc, k2_vSlc, k1_vSlc, ev_vSlc, k1_pI, pIv_int, ev_pI, k1_vNeg, ngv_int, ev_vNeg, k1_bOf, bov_bool, ev_bOf, k1_bAnd, ev_bAnd, k1_bOr, ev_bOr, k1_vIf, ev_vIf, k1_sIf, ev_sIf, chv_t, chv_f, k2_bChn, k1_bChn, ev_bChn, sq_nx, sq_brk, sq_ct, sq_ret, ev_sSeq, k1_sSet, ev_sSet, k1_sEx, ev_sEx, k1_sRet, ev_sRet, bdv_some, k1_sBnd, ev_sBnd, ev_gSet, ev_gTupT, ev_gTupL, ev_gAll0, ev_gAll1, parv_2, k1_sPar, ev_sPar, wh_t, wh_f, wh_nx, wh_brk, wh_ret, fo_nx, fo_ct, fo_brk, fo_ret, fov_some, for_nil, k1_sFor, ev_sFor, iov_0, iov_1, iov_2, iov_3, k1_iOf, ev_iOf, r1_int, ev_iR1, r2_int, ev_iR2, en_l, ev_iEn, zp_l, zp_t, ev_iZp, ev_iVals, iva_d, ev_iItems, iit_d, k1_vIsiT, ev_vIsiT, k2_vMe, k1_vMe, ev_vMe, any_s, List.any_cons, List.any_nil, cl_ret, cl_exc, cl_some, k1_call, ev_mCall, k1_callP, ev_mCallP, clq_some, clp_b, clp_i, clp_s, clp_n, tk_nil, tk_lent, tkl_some, tk_frz, tkf_some, tk_dat, bk_lent, bk_f, bk_d, bk_nil, mk_nil, mk_cons, out_nx, out_ret, out_exc, ev_run, ev_io, put3_some, put2_some, k2_put, put1_some, k1_put, ev_sPut, app2_l, k1_app, app1_l, ev_vApp, vc1_l, ev_vClr, ve1_l, ve2_l, kx_l, ev_vExt, i3Add_int, i2Add, i1Add_int, ev_sAdd, i3Sub_int, i2Sub, i1Sub_int, ev_sSub, lk_inl, lk_inr, lks_nil, lks_cons, bind_ok, bind_exc, bind_bad, of_some, of_none, peek_nil, peek_zero, peek_zero', peek_succ, fz_f, fz_l, fz_d, bin_add, bin_sub, bin_mul, bin_fdiv, bin_mod, bin_pow, bin_adds, bin_addt, bin_addl, cmp_eq, cmp_ne, cmp_in, cmp_nin, cmp_lt, cmp_le, cmp_gt, cmp_ge, cmp_is, cmp_isn, isD_int, isD_bool, isD_str, isD_list, isD_tuple, isD_dict, tru_int, tru_bool, tru_none, tru_list, tru_tuple, item_l, item_t, put_l, eqD_int, eqD_bool, eqD_str, bind_some, map_some, bLen, bTup, bMax2, bMin2, bAbs, bInt, List.getElem?_cons_zero, List.getElem?_cons_succ, List.set_cons_zero, List.set_cons_succ, List.length_cons, List.length_nil, List.length_set, List.replicate_succ, List.replicate_zero, List.map_cons, List.map_nil, List.cons_append, List.nil_append, Option.map_some, Option.map_none, Option.bind_some, Option.bind_none, if_true, if_false, Bool.not_true, Bool.not_false, Bool.false_eq_true, Bool.true_eq_false, reduceIte, Nat.reduceAdd, Nat.reduceSub, Nat.reduceLT, Nat.reduceLeDiff, Nat.reduceEqDiff, decide_true, decide_false, Int.reduceNeg, ne_eq, not_true_eq_false, not_false_eq_true, Nat.zero_lt_succ, Nat.lt_add_one, and_self, and_true, true_and, Bool.true_and, Bool.false_and, Bool.and_true, Bool.or_true, Bool.or_false, Bool.true_or, Bool.false_or, sizeOk_small, Int.cast_ofNat_Int, Int.reduceBEq, Int.reduceLT, Int.reduceLE, Int.reduceEq, lt_line, Option.getD_some, BEq.rfl, List.all_cons, List.all_nil, List.any_cons, List.any_nil, id_eq, Y.tyn_l, Y.tyn_s, Y.tyn_d, Y.in_ll, Y.in_tl, Y.jk_peek, dc_nil, dc_cons, dc1_some, dc2, dc2b, dc3, dc0_ok, k1_vDc, ev_vDc, ev_vSd, sd1_d, k1_sd, sd2_d, sd3_s, sd3_n, ev_vDp, dp1_d, k1_vDp, dp2_d, dp3_s, k1_vLr, ev_vLr, lrv_i, k1_vItL, ev_vItL, itv_d, lc_cons, lc_nil, $ls,*])
open Ek (enc)
theorem take_snoc {α : Type} {l : List α} {i : Nat} {x : α} (h : l[i]? = some x) : l.take (i + 1) = l.take i ++ [x] := by
  rw [List.take_add_one, h]
  rfl
theorem nd_take {α : Type} {l : List α} (nd : l.Nodup) {i : Nat} {x : α} (h : l[i]? = some x) : x ∉ l.take i := fun z => by
  have hi := (List.getElem?_eq_some_iff.mp h).1
  obtain ⟨j, hj, e⟩ := List.mem_take_iff_getElem.mp z
  have e2 := (List.getElem?_eq_some_iff.mp h).2
  rw [← e2] at e
  have := (List.getElem_inj nd).mp e
  omega
theorem r_law_book {n : Nat} {w : W} (hw : Pen n w) (hn : n < 500000) {b : Int} (hb : 1 < b) (hb2 : b ≤ 10) {ns : List Str} (nd : ns.Nodup) (hns : ns.length ≤ 20) {most : Int} (hm0 : 0 ≤ most) (hm : most ≤ 12) :
    ∃ rows w', f_law_book.run [w, .f (.int b), .f (.list (ns.map .str)), .f (.int most)] = .ret (.f (.tuple [.int b, .dict (tb enc rows)])) [some w', none, none, none] ∧ Bk b ns rows ∧ Pen (n + 800) w' := by
  obtain ⟨e', q, rows, w1, x5, x6, x7, x8, x9, x10, x11, x12, x13, rfl, a1, a2, a3⟩ := forG_all (g := gSet 5) (b := b_law_book_1)
    (fun i e => ∃ (rows : List (Str × List (Int × Str))) (w1 : W) (x5 x6 x7 x8 x9 x10 x11 x12 x13 : Option W), e = [some w1, some (.f (.int b)), some (.f (.list (ns.map .str))), some (.f (.int most)), some (.dct (tb enc rows)), x5, x6, x7, x8, x9, x10, x11, x12, x13] ∧ rows.map (·.1) = ns.take i ∧ (∀ p ∈ rows, Rw b ns p.2) ∧ Pen (n + 40 * i) w1)
    (l := ns.map .str) (n := 0) (e := [some w, some (.f (.int b)), some (.f (.list (ns.map .str))), some (.f (.int most)), some (.dct []), none, none, none, none, none, none, none, none, none])
    ⟨[], w, none, none, none, none, none, none, none, none, none, rfl, by simp, by simp, hw⟩ (fun i x hx e he => by
      obtain ⟨rows, w1, x5, x6, x7, x8, x9, x10, x11, x12, x13, rfl, a1, a2, a3⟩ := he
      rw [List.getElem?_map] at hx
      obtain ⟨y, hy, rfl⟩ := Option.map_eq_some_iff.mp hx
      have hi := (List.getElem?_eq_some_iff.mp hy).1
      rw [Nat.zero_add] at a1 a3
      have hlen : rows.length ≤ 20 := by
        have := congrArg List.length a1
        rw [List.length_map, List.length_take] at this
        omega
      obtain ⟨r, w2, y6, y7, y8, y9, y10, y11, y12, y13, b1, b2, b3⟩ := r_book_1 a3 (by omega) hb hb2 (by omega) hm0 hm (List.mem_of_getElem? hy) (rows := rows) (by omega) x6 x7 x8 x9 x10 x11 x12 x13
      have new : aput rows y r = rows ++ [(y, r)] := aput_new r (by rw [a1]; exact nd_take nd hy)
      rw [new] at b1
      refine ⟨_, .nx, _, rfl, b1, .inl rfl, rows ++ [(y, r)], w2, some (.f (.str y)), y6, y7, y8, y9, y10, y11, y12, y13, rfl, ?_, fun p hp => ?_, pen_le b3 (by omega)⟩
      · rw [Nat.zero_add, take_snoc hy, List.map_append, a1]
        rfl
      · rcases List.mem_append.mp hp with z | z
        · exact a2 p z
        · rw [List.mem_singleton.mp z]
          exact b2)
  rw [Nat.zero_add, List.length_map] at a1 a3
  rw [List.take_length] at a1
  refine ⟨rows, w1, ?_, ⟨a1, a2⟩, pen_le a3 (by omega)⟩
  unfold f_law_book b_law_book
  simp_arith [ev_run, q]
/-! ### names with endless ways -/
def ways (rows : List (Str × List (Int × Str))) (x : Str) : List (Int × Str) := (aget rows x).getD []
def keep (rows : List (Str × List (Int × Str))) (S : List Str) (x : Str) : Bool := (ways rows x).any fun p => decide (p.2 ∈ S)
/-- thinned till nothing goes -/
def thin (rows : List (Str × List (Int × Str))) : Nat → List Str → List Str
  | 0, S => S
  | n + 1, S => if (S.filter (keep rows S)).length = S.length then S else thin rows n (S.filter (keep rows S))
theorem ways_get {b : Int} {ns : List Str} {rows : List (Str × List (Int × Str))} (h : Bk b ns rows) {x : Str} (hx : x ∈ ns) : aget rows x = some (ways rows x) := by
  unfold ways
  cases e : aget rows x with
  | none =>
    rw [aget_none, h.keys] at e
    exact absurd hx e
  | some r => rfl
theorem ways_ok {b : Int} {ns : List Str} {rows : List (Str × List (Int × Str))} (h : Bk b ns rows) (x : Str) : ∀ p ∈ ways rows x, 0 ≤ p.1 ∧ p.1 < b ∧ p.2 ∈ ns := by
  unfold ways
  cases e : aget rows x with
  | none => simp
  | some r => exact (h.row _ (aget_some e)).ok
theorem ways_len {b : Int} {ns : List Str} {rows : List (Str × List (Int × Str))} (h : Bk b ns rows) (x : Str) : (ways rows x).length ≤ 12 := by
  unfold ways
  cases e : aget rows x with
  | none => simp
  | some r => exact (h.row _ (aget_some e)).len
theorem mem_digits {b d : Int} (h0 : 0 ≤ d) (h1 : d < b) : inD (.int d) (.list (rangeD 0 b.toNat)) = some true := by
  rw [in_ll]
  have e : rangeD 0 b.toNat = ((List.range b.toNat).map fun k : Nat => (k : Int)).map enc := by
    rw [rangeD_nat, List.map_map]
    rfl
  rw [e]
  have := memD_enc (α := Int) (by decide) d ((List.range b.toNat).map fun k : Nat => (k : Int))
  refine this.trans ?_
  rw [decide_eq_true]
  obtain ⟨k, rfl⟩ := Int.eq_ofNat_of_zero_le h0
  exact List.mem_map.mpr ⟨k, List.mem_range.mpr (by omega), rfl⟩
def nmD (S : List Str) : List (PyData × PyData) := tb .bool (S.map fun x => (x, true))
theorem nmD_len (S : List Str) : (nmD S).length = S.length := by rw [nmD, tb_len, List.length_map]
theorem in_nmD (x : Str) (S : List Str) : inD (.str x) (.dict (nmD S)) = some (decide (x ∈ S)) := by
  refine (inD_tb (α := Str) (by decide) .bool _ x).trans ?_
  congr 1
  rw [Bool.eq_iff_iff, ahas_iff, decide_eq_true_iff, List.map_map]
  simp
theorem bools_map {α : Type} (c : α → Bool) : ∀ l : List α, bools? (l.map fun x => .bool (c x)) = some (l.map c)
  | [] => rfl
  | x :: l => by rw [List.map_cons, bools?, bools_map c l]; rfl
theorem bAny_map {α : Type} (c : α → Bool) (l : List α) : bAny [.list (l.map fun x => .bool (c x))] = some (.f (.bool (l.any c))) := by
  show (bools? _).map _ = _
  rw [bools_map, Option.map_some, List.any_map]
  rfl
end Y

namespace Y
open PySem Z
local macro_rules | `(tactic| simp_arith [$ls,*]) => `(tactic| simp only [List.getD_cons_succ, List.getD_cons_zero, b_sum, b_any, b_all, in_cons, in_nil, bl_cons, bl_nil, uw_cons, uw_nil, wp_cons, wp_nil, fz_cons, fz_nil, ev_vLc, k1_vLc, lc0_ok, lc1_some, lc2, lc3, ev_vCon, ev_oCon, ev_dCon, ev_sNil, ev_sBrk, ev_sCnt, ev_sRetN, ev_dsNil, ev_osNil, ev_kvNil, ev_pNo, ev_vDct0, ev_bYes, ev_frz_some, ev_oVar, pk_some, ev_vFrz, pf_some, ev_vMove, pm_some, k1_dOf, ev_dOf, k1_oOf, ev_oOf, k1_vB, ev_vB, k2_vBin, k1_vBin, ev_vBin, k2_bCmp, k1_bCmp, ev_bCmp, k2_vIdx, k1_vIdx, ev_vIdx, k1_vRev, ev_vRev, k1_bNot, ev_bNot, k1_bTru, ev_bTru, k1_vIsi, ev_vIsi, k1_vBi, ev_vBi, k2_dsCons, k1_dsCons, ev_dsCons, k2_osCons, k1_osCons, ev_osCons, k3_kvCons, k2_kvCons, k1_kvCons, ev_kvCons, k1_vTup, ev_vTup, k1_vLst, ev_vLst, k1_vDct, ev_vDct, k3_vSlc, k2_vSlc, k1_vSlc, ev_vSlc, k1_pI, pIv_int, ev_pI, k1_vNeg, ngv_int, ev_vNeg, k1_bOf, bov_bool, ev_bOf, k1_bAnd, ev_bAnd, k1_bOr, ev_bOr, k1_vIf, ev_vIf, k1_sIf, ev_sIf, chv_t, chv_f, k2_bChn, k1_bChn, ev_bChn, sq_nx, sq_brk, sq_ct, sq_ret, ev_sSeq, k1_sSet, ev_sSet, k1_sEx, ev_sEx, k1_sRet, ev_sRet, bdv_some, k1_sBnd, ev_sBnd, ev_gSet, ev_gTupT, ev_gTupL, ev_gAll0, ev_gAll1, parv_2, k1_sPar, ev_sPar, wh_t, wh_f, wh_nx, wh_brk, wh_ret, fo_nx, fo_ct, fo_brk, fo_ret, fov_some, for_nil, k1_sFor, ev_sFor, iov_0, iov_1, iov_2, iov_3, k1_iOf, ev_iOf, r1_int, ev_iR1, r2_int, ev_iR2, en_l, ev_iEn, zp_l, zp_t, ev_iZp, ev_iVals, iva_d, ev_iItems, iit_d, k1_vIsiT, ev_vIsiT, k2_vMe, k1_vMe, ev_vMe, any_s, List.any_cons, List.any_nil, cl_ret, cl_exc, cl_some, k1_call, ev_mCall, k1_callP, ev_mCallP, clq_some, clp_b, clp_i, clp_s, clp_n, tk_nil, tk_lent, tkl_some, tk_frz, tkf_some, tk_dat, bk_lent, bk_f, bk_d, bk_nil, mk_nil, mk_cons, out_nx, out_ret, out_exc, ev_run, ev_io, put3_some, put2_some, k2_put, put1_some, k1_put, ev_sPut, app2_l, k1_app, app1_l, ev_vApp, vc1_l, ev_vClr, ve1_l, ve2_l, kx_l, ev_vExt, i3Add_int, i2Add, i1Add_int, ev_sAdd, i3Sub_int, i2Sub, i1Sub_int, ev_sSub, lk_inl, lk_inr, lks_nil, lks_cons, bind_ok, bind_exc, bind_bad, of_some, of_none, peek_nil, peek_zero, peek_zero', peek_succ, fz_f, fz_l, fz_d, bin_add, bin_sub, bin_mul, bin_fdiv, bin_mod, bin_pow, bin_adds, bin_addt, bin_addl, cmp_eq, cmp_ne, cmp_in, cmp_nin, cmp_lt, cmp_le, cmp_gt, cmp_ge, cmp_is, cmp_isn, isD_int, isD_bool, isD_str, isD_list, isD_tuple, isD_dict, tru_int, tru_bool, tru_none, tru_list, tru_tuple, item_l, item_t, put_l, eqD_int, eqD_bool, eqD_str, bind_some, map_some, bLen, bTup, bMax2, bMin2, bAbs, bInt, List.getElem?_cons_zero, List.getElem?_cons_succ, List.set_cons_zero, List.set_cons_succ, List.length_cons, List.length_nil, List.length_set, List.replicate_succ, List.replicate_zero, List.map_cons, List.map_nil, List.cons_append, List.nil_append, Option.map_some, Option.map_none, Option.bind_some, Option.bind_none, if_true, if_false, Bool.not_true, Bool.not_false, Bool.false_eq_true, Bool.true_eq_false, reduceIte, Nat.reduceAdd, Nat.reduceSub, Nat.reduceLT, Nat.reduceLeDiff, Nat.reduceEqDiff, decide_true, decide_false, Int.reduceNeg, ne_eq, not_true_eq_false, not_false_eq_true, Nat.zero_lt_succ, Nat.lt_add_one, and_self, and_true, true_and, Bool.true_and, Bool.false_and, Bool.and_true, Bool.or_true, Bool.or_false, Bool.true_or, Bool.false_or, sizeOk_small, Int.cast_ofNat_Int, Int.reduceBEq, Int.reduceLT, Int.reduceLE, Int.reduceEq, lt_line, Option.getD_some, BEq.rfl, List.all_cons, List.all_nil, List.any_cons, List.any_nil, id_eq, Y.tyn_l, Y.tyn_s, Y.tyn_d, Y.in_ll, Y.in_tl, Y.jk_peek, dc_nil, dc_cons, dc1_some, dc2, dc2b, dc3, dc0_ok, k1_vDc, ev_vDc, ev_vSd, sd1_d, k1_sd, sd2_d, sd3_s, sd3_n, ev_vDp, dp1_d, k1_vDp, dp2_d, dp3_s, k1_vLr, ev_vLr, lrv_i, k1_vItL, ev_vItL, itv_d, lc_cons, lc_nil, $ls,*])
open Ek (enc)
theorem keep_lc {b : Int} {ns : List Str} {rows : List (Str × List (Int × Str))} (h : Bk b ns rows) (S : List Str) (x : Str) (x0 x3 x4 x5 x6 : Option W) :
    ∃ e', lcG [5, 6] (gTupB [gSet 5, gSet 6]) bYes (dOf (vB (bAnd (bCmp .In (oVar 5) (oVar 1)) (bCmp .In (oVar 6) (oVar 2))))) ((ways rows x).map enc) [] [x0, some (.f (.list (rangeD 0 b.toNat))), some (.f (.dict (nmD S))), x3, x4, x5, x6] =
      .ok ((ways rows x).map fun p => .bool (decide (p.2 ∈ S))) e' ∧ wipeE e' [5, 6] = [x0, some (.f (.list (rangeD 0 b.toNat))), some (.f (.dict (nmD S))), x3, x4, none, none] :=
  lc_map (own := [5, 6]) (g := gTupB [gSet 5, gSet 6]) (e := [x0, some (.f (.list (rangeD 0 b.toNat))), some (.f (.dict (nmD S))), x3, x4, x5, x6]) enc (fun p : Int × Str => .bool (decide (p.2 ∈ S))) (l := ways rows x) (by have := ways_len h x; omega) fun p hp => by
    obtain ⟨d0, d1, _⟩ := ways_ok h x p hp
    obtain ⟨d, y⟩ := p
    have m1 : memD (.int d) (rangeD 0 b.toNat) = some true := mem_digits (b := b) d0 d1
    have m2 := in_nmD y S
    refine ⟨[x0, some (.f (.list (rangeD 0 b.toNat))), some (.f (.dict (nmD S))), x3, x4, some (.f (.int d)), some (.f (.str y))], [x0, some (.f (.list (rangeD 0 b.toNat))), some (.f (.dict (nmD S))), x3, x4, some (.f (.int d)), some (.f (.str y))], rfl, ?_, rfl⟩
    simp_arith [m1, m2]
theorem item_row {b : Int} {ns : List Str} {rows : List (Str × List (Int × Str))} (h : Bk b ns rows) {x : Str} (hx : x ∈ ns) : item (.dict (tb enc rows)) (.str x) = some (.tuple ((ways rows x).map enc)) := by
  refine (item_tb (α := Str) (by decide) enc rows x).trans ?_
  rw [ways_get h hx]
  rfl
theorem keys_bk {b : Int} {ns : List Str} {rows : List (Str × List (Int × Str))} (h : Bk b ns rows) : (tb enc rows).map (·.1) = ns.map .str := by
  rw [keys_tb, h.keys]
  rfl
theorem keys_nmD (S : List Str) : (nmD S).map (·.1) = S.map .str := by
  unfold nmD
  rw [keys_tb, List.map_map, List.map_map]
  rfl
theorem io_dict {l : List (PyData × PyData)} : itemsOf (.dict l) = some (l.map (·.1)) := (rfl)
theorem len_nmD (S : List Str) (h : S.length ≤ 1000000) : bLen [.dict (nmD S)] = some (.f (.int (S.length : Int))) := by
  show (if sizeOk (nmD S).length then some (W.f (.int ((nmD S).length : Int))) else none) = _
  rw [nmD_len, if_pos (sizeOk_small h)]
structure Las (rows : List (Str × List (Int × Str))) (ns S : List Str) : Prop where
  sub : S.Sublist ns
  big : ∀ P : Str → Prop, (∀ x, P x → x ∈ ns ∧ ∃ p ∈ ways rows x, P p.2) → ∀ x, P x → x ∈ S
theorem Las.next {rows : List (Str × List (Int × Str))} {ns S : List Str} (h : Las rows ns S) : Las rows ns (S.filter (keep rows S)) := ⟨List.filter_sublist.trans h.sub, fun P hP x hx => by
  obtain ⟨h1, p, h2, h3⟩ := hP x hx
  exact List.mem_filter.mpr ⟨h.big P hP x hx, List.any_eq_true.mpr ⟨p, h2, decide_eq_true (h.big P hP _ h3)⟩⟩⟩
theorem dc_start {b : Int} {ns : List Str} {rows : List (Str × List (Int × Str))} (_h : Bk b ns rows) (nd : ns.Nodup) (hns : ns.length ≤ 20) (x0 x1 x2 x3 x4 x5 x6 : Option W) :
    ∃ e', dcG [4] (gSet 4) bYes (dOf (vFrz 4)) (dCon (.bool true)) (ns.map .str) [] [x0, x1, x2, x3, x4, x5, x6] = .ok (nmD ns) e' ∧ wipeE e' [4] = [x0, x1, x2, x3, none, x5, x6] := by
  obtain ⟨e', q1, q2⟩ := dc_fil (own := [4]) (g := gSet 4) (tt := bYes) (mk := dOf (vFrz 4)) (mv := dCon (.bool true)) (e := [x0, x1, x2, x3, x4, x5, x6]) (fun _ => true) (by decide) nd (by omega) (fun x _ => by
    refine ⟨[x0, x1, x2, x3, some (.f (.str x)), x5, x6], [x0, x1, x2, x3, some (.f (.str x)), x5, x6], rfl, rfl, ?_⟩
    rw [if_pos rfl]
    exact ⟨_, [x0, x1, x2, x3, some (.f (.str x)), x5, x6], rfl, rfl, rfl⟩) (m := []) nd (by simp; omega) [x0, x1, x2, x3, x4, x5, x6] rfl
  rw [List.nil_append, List.filter_eq_self.mpr fun _ _ => rfl] at q1
  exact ⟨e', q1, q2⟩
theorem dc_thin {b : Int} {ns : List Str} {rows : List (Str × List (Int × Str))} (h : Bk b ns rows) (nd : ns.Nodup) (hns : ns.length ≤ 20) {S : List Str} (hS : S.Sublist ns) (x3 : Option W) :
    ∃ e', dcG [4] (gSet 4) (bTru (oOf (vBi bAny (osCons (oOf (vLc [5, 6] (gTupB [(gSet 5), (gSet 6)]) (iOf (dOf (vIdx (oVar 0) (oVar 4)))) bYes (dOf (vB (bAnd (bCmp .In (oVar 5) (oVar 1)) (bCmp .In (oVar 6) (oVar 2))))))) osNil)))) (dOf (vFrz 4)) (dCon (.bool true)) (S.map .str) []
      [some (.f (.dict (tb enc rows))), some (.f (.list (rangeD 0 b.toNat))), some (.f (.dict (nmD S))), x3, none, none, none] = .ok (nmD (S.filter (keep rows S))) e' ∧ wipeE e' [4] = [some (.f (.dict (tb enc rows))), some (.f (.list (rangeD 0 b.toNat))), some (.f (.dict (nmD S))), x3, none, none, none] := by
  obtain ⟨e', q1, q2⟩ := dc_fil (own := [4]) (g := gSet 4) (tt := bTru (oOf (vBi bAny (osCons (oOf (vLc [5, 6] (gTupB [(gSet 5), (gSet 6)]) (iOf (dOf (vIdx (oVar 0) (oVar 4)))) bYes (dOf (vB (bAnd (bCmp .In (oVar 5) (oVar 1)) (bCmp .In (oVar 6) (oVar 2))))))) osNil)))) (mk := dOf (vFrz 4)) (mv := dCon (.bool true))
    (e := [some (.f (.dict (tb enc rows))), some (.f (.list (rangeD 0 b.toNat))), some (.f (.dict (nmD S))), x3, none, none, none]) (keep rows S) (by decide) (nd.sublist hS) (by have := hS.length_le; omega) (fun x hx => by
    obtain ⟨e2, r1, r2⟩ := keep_lc h S x (some (.f (.dict (tb enc rows)))) x3 (some (.f (.str x))) none none
    have r3 := item_row h (hS.subset hx)
    have r4 := bAny_map (fun p : Int × Str => decide (p.2 ∈ S)) (ways rows x)
    refine ⟨[some (.f (.dict (tb enc rows))), some (.f (.list (rangeD 0 b.toNat))), some (.f (.dict (nmD S))), x3, some (.f (.str x)), none, none], [some (.f (.dict (tb enc rows))), some (.f (.list (rangeD 0 b.toNat))), some (.f (.dict (nmD S))), x3, some (.f (.str x)), none, none], rfl, ?_, ?_⟩
    · have e3 : (ways rows x).any (fun p => decide (p.2 ∈ S)) = keep rows S x := (rfl)
      rw [e3] at r4
      generalize keep rows S x = kk at *
      generalize (ways rows x).map enc = ww at *
      simp_arith [r3, r1, r2, r4, -bAny]
    · split
      · exact ⟨_, [some (.f (.dict (tb enc rows))), some (.f (.list (rangeD 0 b.toNat))), some (.f (.dict (nmD S))), x3, some (.f (.str x)), none, none], rfl, rfl, rfl⟩
      · rfl) (m := []) (nd.sublist hS) (by have := hS.length_le; simp; omega) _ rfl
  exact ⟨e', q1, q2⟩
theorem r_lasting {b : Int} {ns : List Str} {rows : List (Str × List (Int × Str))} (h : Bk b ns rows) (nd : ns.Nodup) (hns : ns.length ≤ 20) :
    ∃ S, f_lasting.run [.f (.dict (tb enc rows)), .f (.list (rangeD 0 b.toNat))] = .ret (.dct (nmD S)) [none, none] ∧ Las rows ns S ∧ ∀ x ∈ S, keep rows S x = true := by
  have key : ∃ S z, sWhl (bCmp .NotEq (oVar 3) (oOf (vBi bLen (osCons (oVar 2) osNil)))) b_lasting_1 [some (.f (.dict (tb enc rows))), some (.f (.list (rangeD 0 b.toNat))), some (.dct (nmD ns)), some (.f (.int (-1))), none, none, none] =
      .ok .nx [some (.f (.dict (tb enc rows))), some (.f (.list (rangeD 0 b.toNat))), some (.dct (nmD S)), z, none, none, none] ∧ Las rows ns S ∧ ∀ x ∈ S, keep rows S x = true := by
    refine whl_ind (I := fun n e => ∃ (S : List Str) (z : Int), e = [some (.f (.dict (tb enc rows))), some (.f (.list (rangeD 0 b.toNat))), some (.dct (nmD S)), some (.f (.int z)), none, none, none] ∧ Las rows ns S ∧ (z = -1 ∨ ∃ T : List Str, z = (T.length : Int) ∧ S = T.filter (keep rows T)) ∧ n = S.length + if z = S.length then 0 else 1)
      (Q := fun r => ∃ S z, r = .ok .nx [some (.f (.dict (tb enc rows))), some (.f (.list (rangeD 0 b.toNat))), some (.dct (nmD S)), z, none, none, none] ∧ Las rows ns S ∧ ∀ x ∈ S, keep rows S x = true) (fun n e he => ?_) _ _ ⟨ns, -1, rfl, ⟨List.Sublist.refl _, fun P hP x hx => (hP x hx).1⟩, .inl rfl, rfl⟩
    obtain ⟨S, z, rfl, las, hz, rfl⟩ := he
    have hl := len_nmD S (by have := las.sub.length_le; omega)
    by_cases ez : z = S.length
    · left
      refine ⟨[some (.f (.dict (tb enc rows))), some (.f (.list (rangeD 0 b.toNat))), some (.dct (nmD S)), some (.f (.int z)), none, none, none], ?_, S, some (.f (.int z)), rfl, las, ?_⟩
      · rw [← ez] at hl
        simp_arith [hl, -bLen, beq_self_eq_true]
      · rcases hz with rfl | ⟨T, hT, e⟩
        · omega
        · have hl : S.length = T.length := by omega
          have : T.filter (keep rows T) = T := List.filter_sublist.eq_of_length (by rw [← e, hl])
          rw [e, this]
          exact List.filter_eq_self.mp this
    · right
      obtain ⟨e', q1, q2⟩ := dc_thin h nd hns las.sub (some (.f (.int (S.length : Int))))
      have hk := keys_nmD S
      refine ⟨[some (.f (.dict (tb enc rows))), some (.f (.list (rangeD 0 b.toNat))), some (.dct (nmD S)), some (.f (.int z)), none, none, none], ?_, .inr (.inr ⟨.nx, _, _, ?_, .inl rfl, ?_, S.filter (keep rows S), (S.length : Int), rfl, las.next, .inr ⟨S, rfl, rfl⟩, rfl⟩)⟩
      · obtain ⟨L, hL⟩ : ∃ L : Int, (S.length : Int) = L := ⟨_, rfl⟩
        rw [hL] at hl ez
        have : (z == L) = false := by simpa using ez
        simp_arith [hl, -bLen, this]
      · unfold b_lasting_1
        obtain ⟨L, hL⟩ : ∃ L : Int, (S.length : Int) = L := ⟨_, rfl⟩
        rw [hL] at hl q1 q2 ⊢
        have hs : sizeOk (nmD S).length = true := sizeOk_small (by rw [nmD_len]; have := las.sub.length_le; omega)
        generalize S.filter (keep rows S) = S2 at *
        simp_arith [hl, -bLen, hk, q1, q2, hs]
      · have := List.length_filter_le (keep rows S) S
        rw [if_neg ez]
        split <;> omega
  obtain ⟨S, z, q, las, fx⟩ := key
  refine ⟨S, ?_, las, fx⟩
  obtain ⟨e0, s1, s2⟩ := dc_start h nd hns (some (.f (.dict (tb enc rows)))) (some (.f (.list (rangeD 0 b.toNat)))) none none none none none
  have hk := keys_bk h
  have hs : sizeOk (tb enc rows).length = true := sizeOk_small (by rw [tb_len]; have := congrArg List.length h.keys; rw [List.length_map] at this; omega)
  unfold f_lasting b_lasting
  simp_arith [ev_run, hk, s1, s2, q, hs]
end Y

namespace Y
open PySem Z
local macro_rules | `(tactic| simp_arith [$ls,*]) => `(tactic| simp only [List.getD_cons_succ, List.getD_cons_zero, b_sum, b_any, b_all, in_cons, in_nil, bl_cons, bl_nil, uw_cons, uw_nil, wp_cons, wp_nil, fz_cons, fz_nil, ev_vLc, k1_vLc, lc0_ok, lc1_some, lc2, lc3, ev_vCon, ev_oCon, ev_dCon, ev_sNil, ev_sBrk, ev_sCnt, ev_sRetN, ev_dsNil, ev_osNil, ev_kvNil, ev_pNo, ev_vDct0, ev_bYes, ev_frz_some, ev_oVar, pk_some, ev_vFrz, pf_some, ev_vMove, pm_some, k1_dOf, ev_dOf, k1_oOf, ev_oOf, k1_vB, ev_vB, k2_vBin, k1_vBin, ev_vBin, k2_bCmp, k1_bCmp, ev_bCmp, k2_vIdx, k1_vIdx, ev_vIdx, k1_vRev, ev_vRev, k1_bNot, ev_bNot, k1_bTru, ev_bTru, k1_vIsi, ev_vIsi, k1_vBi, ev_vBi, k2_dsCons, k1_dsCons, ev_dsCons, k2_osCons, k1_osCons, ev_osCons, k3_kvCons, k2_kvCons, k1_kvCons, ev_kvCons, k1_vTup, ev_vTup, k1_vLst, ev_vLst, k1_vDct, ev_vDct, k3_vSlc, k2_vSlc, k1_vSlc, ev_vSlc, k1_pI, pIv_int, ev_pI, k1_vNeg, ngv_int, ev_vNeg, k1_bOf, bov_bool, ev_bOf, k1_bAnd, ev_bAnd, k1_bOr, ev_bOr, k1_vIf, ev_vIf, k1_sIf, ev_sIf, chv_t, chv_f, k2_bChn, k1_bChn, ev_bChn, sq_nx, sq_brk, sq_ct, sq_ret, ev_sSeq, k1_sSet, ev_sSet, k1_sEx, ev_sEx, k1_sRet, ev_sRet, bdv_some, k1_sBnd, ev_sBnd, ev_gSet, ev_gTupT, ev_gTupL, ev_gAll0, ev_gAll1, parv_2, k1_sPar, ev_sPar, wh_t, wh_f, wh_nx, wh_brk, wh_ret, fo_nx, fo_ct, fo_brk, fo_ret, fov_some, for_nil, k1_sFor, ev_sFor, iov_0, iov_1, iov_2, iov_3, k1_iOf, ev_iOf, r1_int, ev_iR1, r2_int, ev_iR2, en_l, ev_iEn, zp_l, zp_t, ev_iZp, ev_iVals, iva_d, ev_iItems, iit_d, k1_vIsiT, ev_vIsiT, k2_vMe, k1_vMe, ev_vMe, any_s, List.any_cons, List.any_nil, cl_ret, cl_exc, cl_some, k1_call, ev_mCall, k1_callP, ev_mCallP, clq_some, clp_b, clp_i, clp_s, clp_n, tk_nil, tk_lent, tkl_some, tk_frz, tkf_some, tk_dat, bk_lent, bk_f, bk_d, bk_nil, mk_nil, mk_cons, out_nx, out_ret, out_exc, ev_run, ev_io, put3_some, put2_some, k2_put, put1_some, k1_put, ev_sPut, app2_l, k1_app, app1_l, ev_vApp, vc1_l, ev_vClr, ve1_l, ve2_l, kx_l, ev_vExt, i3Add_int, i2Add, i1Add_int, ev_sAdd, i3Sub_int, i2Sub, i1Sub_int, ev_sSub, lk_inl, lk_inr, lks_nil, lks_cons, bind_ok, bind_exc, bind_bad, of_some, of_none, peek_nil, peek_zero, peek_zero', peek_succ, fz_f, fz_l, fz_d, bin_add, bin_sub, bin_mul, bin_fdiv, bin_mod, bin_pow, bin_adds, bin_addt, bin_addl, cmp_eq, cmp_ne, cmp_in, cmp_nin, cmp_lt, cmp_le, cmp_gt, cmp_ge, cmp_is, cmp_isn, isD_int, isD_bool, isD_str, isD_list, isD_tuple, isD_dict, tru_int, tru_bool, tru_none, tru_list, tru_tuple, item_l, item_t, put_l, eqD_int, eqD_bool, eqD_str, bind_some, map_some, bLen, bTup, bMax2, bMin2, bAbs, bInt, List.getElem?_cons_zero, List.getElem?_cons_succ, List.set_cons_zero, List.set_cons_succ, List.length_cons, List.length_nil, List.length_set, List.replicate_succ, List.replicate_zero, List.map_cons, List.map_nil, List.cons_append, List.nil_append, Option.map_some, Option.map_none, Option.bind_some, Option.bind_none, if_true, if_false, Bool.not_true, Bool.not_false, Bool.false_eq_true, Bool.true_eq_false, reduceIte, Nat.reduceAdd, Nat.reduceSub, Nat.reduceLT, Nat.reduceLeDiff, Nat.reduceEqDiff, decide_true, decide_false, Int.reduceNeg, ne_eq, not_true_eq_false, not_false_eq_true, Nat.zero_lt_succ, Nat.lt_add_one, and_self, and_true, true_and, Bool.true_and, Bool.false_and, Bool.and_true, Bool.or_true, Bool.or_false, Bool.true_or, Bool.false_or, sizeOk_small, Int.cast_ofNat_Int, Int.reduceBEq, Int.reduceLT, Int.reduceLE, Int.reduceEq, lt_line, Option.getD_some, BEq.rfl, List.all_cons, List.all_nil, List.any_cons, List.any_nil, id_eq, Y.tyn_l, Y.tyn_s, Y.tyn_d, Y.in_ll, Y.in_tl, Y.jk_peek, dc_nil, dc_cons, dc1_some, dc2, dc2b, dc3, dc0_ok, k1_vDc, ev_vDc, ev_vSd, sd1_d, k1_sd, sd2_d, sd3_s, sd3_n, ev_vDp, dp1_d, k1_vDp, dp2_d, dp3_s, k1_vLr, ev_vLr, lrv_i, k1_vItL, ev_vItL, itv_d, lc_cons, lc_nil, $ls,*])
open Ek (enc)
theorem bS_nmD {S : List Str} (h : S.length ≤ 1000000) : bSorted [.dict (nmD S)] = some (.lst ((sortS S).map .str)) := by
  have := bS_names .bool (l := S.map fun x => (x, true)) (by simpa using h)
  rw [List.map_map] at this
  have e : ((fun x : Str × Bool => x.1) ∘ fun x : Str => (x, true)) = id := rfl
  rw [e, List.map_id] at this
  exact this
theorem r_live {b : Int} (hb : 1 < b) (hb2 : b ≤ 10) {ns : List Str} {rows : List (Str × List (Int × Str))} (h : Bk b ns rows) (nd : ns.Nodup) (hns : ns.length ≤ 20) :
    ∃ S, f_live.run [.f (.tuple [.int b, .dict (tb enc rows)])] = .ret (.lst ((sortS S).map .str)) [none] ∧ Las rows ns S ∧ ∀ x ∈ S, keep rows S x = true := by
  obtain ⟨S, e1, h1, h2⟩ := r_lasting h nd hns
  refine ⟨S, ?_, h1, h2⟩
  have h3 := bS_nmD (S := S) (by have := h1.sub.length_le; omega)
  have d0 : decide (0 ≤ b) = true := decide_eq_true (by omega)
  have d1 : decide (b ≤ 1000000) = true := decide_eq_true (by omega)
  have io1 : f_lasting.io = [false, false] := rfl
  unfold f_live b_live
  simp_arith [ev_run, io1, e1, h3, -bSorted, d0, d1, Bool.and_self, if_pos]
/-! ### what lasts goes on without end -/
def Suc (rows : List (Str × List (Int × Str))) (x y : Str) : Prop := ∃ p ∈ ways rows x, p.2 = y
/-- some steps, one at least -/
abbrev Beh (rows : List (Str × List (Int × Str))) : Str → Str → Prop := Relation.TransGen (Suc rows)
def End (rows : List (Str × List (Int × Str))) (x : Str) : Prop := ∃ y, (y = x ∨ Beh rows x y) ∧ Beh rows y y
theorem nd_len {α : Type} : ∀ {m l : List α}, m.Nodup → (∀ x ∈ m, x ∈ l) → m.length ≤ l.length
  | [], _, _, _ => Nat.zero_le _
  | x :: m, l, nd, h => by
    obtain ⟨a, c, rfl⟩ := List.append_of_mem (h x (by simp))
    have nd := List.nodup_cons.mp nd
    have := nd_len (m := m) (l := a ++ c) nd.2 fun y hy => by
      have := h y (by simp [hy])
      rw [List.mem_append, List.mem_cons] at this
      rcases this with z | rfl | z
      · exact List.mem_append.mpr (.inl z)
      · exact absurd hy nd.1
      · exact List.mem_append.mpr (.inr z)
    simp only [List.length_append, List.length_cons] at this ⊢
    omega
theorem pig_list {α : Type} {l : List α} {f : Nat → α} (h : ∀ n, f n ∈ l) : ∃ i j, i < j ∧ f i = f j := by
  by_cases c : ∃ i j, i < j ∧ f i = f j
  · exact c
  · exfalso
    have nd : ((List.range (l.length + 1)).map f).Nodup := by
      rw [List.nodup_iff_pairwise_ne, List.pairwise_map]
      refine List.pairwise_iff_getElem.mpr fun i j hi hj hij e => ?_
      simp only [List.length_range, List.getElem_range] at hi hj e
      exact c ⟨i, j, hij, e⟩
    have sub : ∀ x ∈ (List.range (l.length + 1)).map f, x ∈ l := fun x hx => by
      obtain ⟨n, _, rfl⟩ := List.mem_map.mp hx
      exact h n
    have := nd_len nd sub
    rw [List.length_map, List.length_range] at this
    omega
theorem beh_head {rows : List (Str × List (Int × Str))} {x y : Str} (h : Beh rows x y) : ∃ z, Suc rows x z ∧ (y = z ∨ Beh rows z y) := by
  induction h with
  | single s => exact ⟨_, s, .inl rfl⟩
  | tail _ s ih =>
    obtain ⟨z, h1, h2⟩ := ih
    refine ⟨z, h1, .inr ?_⟩
    rcases h2 with rfl | h2
    · exact .single s
    · exact .tail h2 s
theorem las_iff {b : Int} {ns : List Str} {rows : List (Str × List (Int × Str))} (h : Bk b ns rows) {S : List Str} (l : Las rows ns S) (k : ∀ x ∈ S, keep rows S x = true) {x : Str} (hx : x ∈ ns) : x ∈ S ↔ End rows x := by
  constructor
  · intro hS
    have step : ∀ z : {z // z ∈ S}, ∃ u : {u // u ∈ S}, Suc rows z.1 u.1 := fun ⟨z, hz⟩ => by
      obtain ⟨p, h1, h2⟩ := List.any_eq_true.mp (k z hz)
      exact ⟨⟨p.2, of_decide_eq_true h2⟩, p, h1, rfl⟩
    let f : Nat → {z // z ∈ S} := fun n => Nat.rec ⟨x, hS⟩ (fun _ z => (step z).choose) n
    have fs : ∀ n, Suc rows (f n).1 (f (n + 1)).1 := fun n => (step (f n)).choose_spec
    have far : ∀ i d, Beh rows (f i).1 (f (i + d + 1)).1 := fun i d => by
      induction d with
      | zero => exact .single (fs i)
      | succ d ih => exact .tail ih (fs (i + d + 1))
    obtain ⟨i, j, hij, e⟩ := pig_list (l := S) (f := fun n => (f n).1) fun n => (f n).2
    refine ⟨(f i).1, ?_, ?_⟩
    · cases i with
      | zero => exact .inl rfl
      | succ i =>
        right
        have := far 0 i
        rwa [Nat.zero_add] at this
    · have := far i (j - i - 1)
      have e2 : i + (j - i - 1) + 1 = j := by omega
      rw [e2] at this
      have e : (f i).1 = (f j).1 := e
      rw [← e] at this
      exact this
  · intro hE
    refine l.big (fun z => z ∈ ns ∧ End rows z) (fun z ⟨hz, y, h1, h2⟩ => ⟨hz, ?_⟩) x ⟨hx, hE⟩
    have go : ∀ u, Suc rows z u → (y = u ∨ Beh rows u y) → ∃ p ∈ ways rows z, p.2 ∈ ns ∧ End rows p.2 := fun u ⟨p, hp, e⟩ hu => by
      subst e
      exact ⟨p, hp, (ways_ok h z p hp).2.2, y, hu, h2⟩
    rcases h1 with rfl | h1
    · obtain ⟨u, q1, q2⟩ := beh_head h2
      exact go u q1 q2
    · obtain ⟨u, q1, q2⟩ := beh_head h1
      exact go u q1 q2
theorem las_perm {b : Int} {ns : List Str} (nd : ns.Nodup) {rows : List (Str × List (Int × Str))} (h : Bk b ns rows) {S : List Str} (l : Las rows ns S) (k : ∀ x ∈ S, keep rows S x = true) {c : Str → Bool} (hc : ∀ x ∈ ns, c x = true ↔ End rows x) : sortS S = (sortS ns).filter c := by
  rw [← sortS_filter]
  refine sortS_uniq ((List.perm_ext_iff_of_nodup (nd.sublist l.sub) (nd.sublist List.filter_sublist)).mpr fun x => ?_)
  rw [List.mem_filter]
  constructor
  · intro hx
    have hn := l.sub.subset hx
    exact ⟨hn, (hc x hn).mpr ((las_iff h l k hn).mp hx)⟩
  · rintro ⟨hn, hx⟩
    exact (las_iff h l k hn).mpr ((hc x hn).mp hx)
end Y

namespace K04
open PySem Z Y
local macro_rules | `(tactic| simp_arith [$ls,*]) => `(tactic| simp only [List.getD_cons_succ, List.getD_cons_zero, b_sum, b_any, b_all, in_cons, in_nil, bl_cons, bl_nil, uw_cons, uw_nil, wp_cons, wp_nil, fz_cons, fz_nil, ev_vLc, k1_vLc, lc0_ok, lc1_some, lc2, lc3, ev_vCon, ev_oCon, ev_dCon, ev_sNil, ev_sBrk, ev_sCnt, ev_sRetN, ev_dsNil, ev_osNil, ev_kvNil, ev_pNo, ev_vDct0, ev_bYes, ev_frz_some, ev_oVar, pk_some, ev_vFrz, pf_some, ev_vMove, pm_some, k1_dOf, ev_dOf, k1_oOf, ev_oOf, k1_vB, ev_vB, k2_vBin, k1_vBin, ev_vBin, k2_bCmp, k1_bCmp, ev_bCmp, k2_vIdx, k1_vIdx, ev_vIdx, k1_vRev, ev_vRev, k1_bNot, ev_bNot, k1_bTru, ev_bTru, k1_vIsi, ev_vIsi, k1_vBi, ev_vBi, k2_dsCons, k1_dsCons, ev_dsCons, k2_osCons, k1_osCons, ev_osCons, k3_kvCons, k2_kvCons, k1_kvCons, ev_kvCons, k1_vTup, ev_vTup, k1_vLst, ev_vLst, k1_vDct, ev_vDct, k3_vSlc, k2_vSlc, k1_vSlc, ev_vSlc, k1_pI, pIv_int, ev_pI, k1_vNeg, ngv_int, ev_vNeg, k1_bOf, bov_bool, ev_bOf, k1_bAnd, ev_bAnd, k1_bOr, ev_bOr, k1_vIf, ev_vIf, k1_sIf, ev_sIf, chv_t, chv_f, k2_bChn, k1_bChn, ev_bChn, sq_nx, sq_brk, sq_ct, sq_ret, ev_sSeq, k1_sSet, ev_sSet, k1_sEx, ev_sEx, k1_sRet, ev_sRet, bdv_some, k1_sBnd, ev_sBnd, ev_gSet, ev_gTupT, ev_gTupL, ev_gAll0, ev_gAll1, parv_2, k1_sPar, ev_sPar, wh_t, wh_f, wh_nx, wh_brk, wh_ret, fo_nx, fo_ct, fo_brk, fo_ret, fov_some, for_nil, k1_sFor, ev_sFor, iov_0, iov_1, iov_2, iov_3, k1_iOf, ev_iOf, r1_int, ev_iR1, r2_int, ev_iR2, en_l, ev_iEn, zp_l, zp_t, ev_iZp, ev_iVals, iva_d, ev_iItems, iit_d, k1_vIsiT, ev_vIsiT, k2_vMe, k1_vMe, ev_vMe, any_s, List.any_cons, List.any_nil, cl_ret, cl_exc, cl_some, k1_call, ev_mCall, k1_callP, ev_mCallP, clq_some, clp_b, clp_i, clp_s, clp_n, tk_nil, tk_lent, tkl_some, tk_frz, tkf_some, tk_dat, bk_lent, bk_f, bk_d, bk_nil, mk_nil, mk_cons, out_nx, out_ret, out_exc, ev_run, ev_io, put3_some, put2_some, k2_put, put1_some, k1_put, ev_sPut, app2_l, k1_app, app1_l, ev_vApp, vc1_l, ev_vClr, ve1_l, ve2_l, kx_l, ev_vExt, i3Add_int, i2Add, i1Add_int, ev_sAdd, i3Sub_int, i2Sub, i1Sub_int, ev_sSub, lk_inl, lk_inr, lks_nil, lks_cons, bind_ok, bind_exc, bind_bad, of_some, of_none, peek_nil, peek_zero, peek_zero', peek_succ, fz_f, fz_l, fz_d, bin_add, bin_sub, bin_mul, bin_fdiv, bin_mod, bin_pow, bin_adds, bin_addt, bin_addl, cmp_eq, cmp_ne, cmp_in, cmp_nin, cmp_lt, cmp_le, cmp_gt, cmp_ge, cmp_is, cmp_isn, isD_int, isD_bool, isD_str, isD_list, isD_tuple, isD_dict, tru_int, tru_bool, tru_none, tru_list, tru_tuple, item_l, item_t, put_l, eqD_int, eqD_bool, eqD_str, bind_some, map_some, bLen, bTup, bMax2, bMin2, bAbs, bInt, List.getElem?_cons_zero, List.getElem?_cons_succ, List.set_cons_zero, List.set_cons_succ, List.length_cons, List.length_nil, List.length_set, List.replicate_succ, List.replicate_zero, List.map_cons, List.map_nil, List.cons_append, List.nil_append, Option.map_some, Option.map_none, Option.bind_some, Option.bind_none, if_true, if_false, Bool.not_true, Bool.not_false, Bool.false_eq_true, Bool.true_eq_false, reduceIte, Nat.reduceAdd, Nat.reduceSub, Nat.reduceLT, Nat.reduceLeDiff, Nat.reduceEqDiff, decide_true, decide_false, Int.reduceNeg, ne_eq, not_true_eq_false, not_false_eq_true, Nat.zero_lt_succ, Nat.lt_add_one, and_self, and_true, true_and, Bool.true_and, Bool.false_and, Bool.and_true, Bool.or_true, Bool.or_false, Bool.true_or, Bool.false_or, sizeOk_small, Int.cast_ofNat_Int, Int.reduceBEq, Int.reduceLT, Int.reduceLE, Int.reduceEq, lt_line, Option.getD_some, BEq.rfl, List.all_cons, List.all_nil, List.any_cons, List.any_nil, id_eq, Y.tyn_l, Y.tyn_s, Y.tyn_d, Y.in_ll, Y.in_tl, Y.jk_peek, dc_nil, dc_cons, dc1_some, dc2, dc2b, dc3, dc0_ok, k1_vDc, ev_vDc, ev_vSd, sd1_d, k1_sd, sd2_d, sd3_s, sd3_n, ev_vDp, dp1_d, k1_vDp, dp2_d, dp3_s, k1_vLr, ev_vLr, lrv_i, k1_vItL, ev_vItL, itv_d, lc_cons, lc_nil, $ls,*])
open Ek (enc)
theorem pop_last (x0 x1 x2 x4 x5 : Option W) (t : List PyData) (p : PyData) : vPop 3 [x0, x1, x2, some (.lst (t ++ [p])), x4, x5] = .ok (.f p) [x0, x1, x2, some (.lst t), x4, x5] := by
  simp [vPop]
theorem mem_strs (x : Str) (l : List Str) : memD (.str x) (l.map .str) = some (decide (x ∈ l)) := memD_enc (α := Str) (by decide) x l
theorem strs_nil (l : List Str) : eqD (.list (l.map .str)) (.list []) = some (decide (l = [])) := by
  unfold eqD
  have h1 : plainD (.list (l.map .str)) = true := by
    have h := plainAll_enc l
    have h2 := depAll_enc l
    have h2 : PyData.depthAll (l.map .str) ≤ 0 := h2
    have h : PyData.plainAll (l.map .str) = true := h
    have h3 : (PyData.list (l.map .str)).depth ≤ 64 := by
      simp only [PyData.depth]
      omega
    have h4 : (PyData.list (l.map .str)).plain = true := by
      simp only [PyData.plain]
      exact h
    unfold plainD
    rw [h4, decide_eq_true h3]
    rfl
  rw [h1, if_pos (by rfl)]
  congr 1
  cases l <;> simp [PyData.eqv, PyData.eqvAll]
def abs1 (f t : List Str) : List (Int × Str) → List Str × List Str
  | [] => (f, t)
  | p :: r => if p.2 ∈ f then abs1 f t r else abs1 (f ++ [p.2]) (t ++ [p.2]) r
theorem r_inner (x0 x1 : Option W) : ∀ (r : List (Int × Str)) (f t : List Str) (x4 x5 : Option W), f.length + r.length ≤ 100000 → t.length + r.length ≤ 100000 →
    ∃ y4 y5, sForG (gTupB [gSet 4, gSet 5]) b_law_behind_1 (r.map enc) [x0, x1, some (.lst (f.map .str)), some (.lst (t.map .str)), x4, x5] = .ok .nx [x0, x1, some (.lst ((abs1 f t r).1.map .str)), some (.lst ((abs1 f t r).2.map .str)), y4, y5]
  | [], f, t, x4, x5, _, _ => ⟨x4, x5, rfl⟩
  | (d, y) :: r, f, t, x4, x5, h, h2 => by
    have hl : (f.map PyData.str).length < sizeLine := lt_line (by simp at h ⊢; omega)
    have hl2 : (t.map PyData.str).length < sizeLine := lt_line (by simp at h2 ⊢; omega)
    have m := mem_strs y f
    have g1 : gTupB [gSet 4, gSet 5] (enc (d, y)) [x0, x1, some (.lst (f.map .str)), some (.lst (t.map .str)), x4, x5] = some [x0, x1, some (.lst (f.map .str)), some (.lst (t.map .str)), some (.f (.int d)), some (.f (.str y))] := rfl
    rw [List.map_cons, for_cons, g1, fov_some]
    by_cases hy : y ∈ f
    · obtain ⟨y4, y5, q⟩ := r_inner x0 x1 r f t (some (.f (.int d))) (some (.f (.str y))) (by simp at h; omega) (by simp at h2; omega)
      refine ⟨y4, y5, ?_⟩
      have e : abs1 f t ((d, y) :: r) = abs1 f t r := if_pos hy
      rw [e, ← q]
      rw [decide_eq_true hy] at m
      have : b_law_behind_1 [x0, x1, some (.lst (f.map .str)), some (.lst (t.map .str)), some (.f (.int d)), some (.f (.str y))] = .ok .nx [x0, x1, some (.lst (f.map .str)), some (.lst (t.map .str)), some (.f (.int d)), some (.f (.str y))] := by
        unfold b_law_behind_1
        simp_arith [m]
      rw [this, bind_ok]
      rfl
    · obtain ⟨y4, y5, q⟩ := r_inner x0 x1 r (f ++ [y]) (t ++ [y]) (some (.f (.int d))) (some (.f (.str y))) (by simp at h ⊢; omega) (by simp at h2 ⊢; omega)
      refine ⟨y4, y5, ?_⟩
      have e : abs1 f t ((d, y) :: r) = abs1 (f ++ [y]) (t ++ [y]) r := if_neg hy
      rw [e, ← q]
      rw [decide_eq_false hy] at m
      have : b_law_behind_1 [x0, x1, some (.lst (f.map .str)), some (.lst (t.map .str)), some (.f (.int d)), some (.f (.str y))] = .ok .nx [x0, x1, some (.lst ((f ++ [y]).map .str)), some (.lst ((t ++ [y]).map .str)), some (.f (.int d)), some (.f (.str y))] := by
        unfold b_law_behind_1
        rw [List.map_append, List.map_append]
        simp_arith [m, hl, hl2]
      rw [this, bind_ok]
      rfl
theorem abs1_ok : ∀ (r : List (Int × Str)) (f t : List Str), f.Nodup → let q := abs1 f t r
    q.1.Nodup ∧ (∀ y ∈ f, y ∈ q.1) ∧ (∀ y ∈ t, y ∈ q.2) ∧ (∀ p ∈ r, p.2 ∈ q.1) ∧ (∀ y ∈ q.1, y ∈ f ∨ y ∈ q.2) ∧ (∀ y ∈ q.1, y ∈ f ∨ ∃ p ∈ r, p.2 = y) ∧ (∀ y ∈ q.2, y ∈ t ∨ y ∈ q.1) ∧ q.1.length + t.length = q.2.length + f.length
  | [], f, t, nd => ⟨nd, fun _ h => h, fun _ h => h, fun _ h => (by cases h), fun _ h => .inl h, fun _ h => .inl h, fun _ h => .inl h, Nat.add_comm ..⟩
  | p :: r, f, t, nd => by
    by_cases hy : p.2 ∈ f
    · have e : abs1 f t (p :: r) = abs1 f t r := if_pos hy
      obtain ⟨h1, h2, h3, h4, h5, h6, h7, h8⟩ := abs1_ok r f t nd
      rw [e]
      refine ⟨h1, h2, h3, fun q hq => ?_, h5, fun y hy => ?_, h7, h8⟩
      · rcases List.mem_cons.mp hq with rfl | z
        · exact h2 _ hy
        · exact h4 q z
      · rcases h6 y hy with z | ⟨q, hq, z⟩
        · exact .inl z
        · exact .inr ⟨q, List.mem_cons_of_mem _ hq, z⟩
    · have e : abs1 f t (p :: r) = abs1 (f ++ [p.2]) (t ++ [p.2]) r := if_neg hy
      obtain ⟨h1, h2, h3, h4, h5, h6, h7, h8⟩ := abs1_ok r (f ++ [p.2]) (t ++ [p.2]) (List.nodup_append.mpr ⟨nd, by simp, fun a ha b hb e => hy (by rw [← List.mem_singleton.mp hb, ← e]; exact ha)⟩)
      rw [e]
      refine ⟨h1, fun y hy => h2 y (by simp [hy]), fun y hy => h3 y (by simp [hy]), fun q hq => ?_, fun y hy => ?_, fun y hy => ?_, fun y hy => ?_, by simp at h8; omega⟩
      · rcases List.mem_cons.mp hq with rfl | z
        · exact h2 _ (by simp)
        · exact h4 q z
      · rcases h5 y hy with z | z
        · rcases List.mem_append.mp z with z | z
          · exact .inl z
          · exact .inr (h3 y (by simp [List.mem_singleton.mp z]))
        · exact .inr z
      · rcases h6 y hy with z | ⟨q, hq, z⟩
        · rcases List.mem_append.mp z with z | z
          · exact .inl z
          · exact .inr ⟨p, by simp, (List.mem_singleton.mp z).symm⟩
        · exact .inr ⟨q, List.mem_cons_of_mem _ hq, z⟩
      · rcases h7 y hy with z | z
        · rcases List.mem_append.mp z with z | z
          · exact .inl z
          · exact .inr (h2 y (by simp [List.mem_singleton.mp z]))
        · exact .inr z
structure Sea (rows : List (Str × List (Int × Str))) (ns : List Str) (x : Str) (f t : List Str) : Prop where
  nd : f.Nodup
  fs : ∀ y ∈ f, y ∈ ns ∧ Beh rows x y
  ts : ∀ z ∈ t, z = x ∨ z ∈ f
  dn : ∀ z, (z = x ∨ z ∈ f) → z ∉ t → ∀ y, Suc rows z y → y ∈ f
theorem Sea.step {b : Int} {ns : List Str} {rows : List (Str × List (Int × Str))} (h : Bk b ns rows) {x z : Str} {f t : List Str} (s : Sea rows ns x f (t ++ [z])) : Sea rows ns x (abs1 f t (ways rows z)).1 (abs1 f t (ways rows z)).2 := by
  obtain ⟨h1, h2, h3, h4, h5, h6, h7, h8⟩ := abs1_ok (ways rows z) f t s.nd
  refine ⟨h1, fun y hy => ?_, fun y hy => ?_, fun u hu hn y hy => ?_⟩
  · rcases h6 y hy with q | ⟨p, hp, rfl⟩
    · exact s.fs y q
    · refine ⟨(ways_ok h z p hp).2.2, ?_⟩
      rcases s.ts z (by simp) with rfl | hz
      · exact .single ⟨p, hp, rfl⟩
      · exact .tail (s.fs z hz).2 ⟨p, hp, rfl⟩
  · rcases h7 y hy with q | q
    · rcases s.ts y (by simp [q]) with rfl | q
      · exact .inl rfl
      · exact .inr (h2 y q)
    · exact .inr q
  · have hu2 : u = x ∨ u ∈ f := by
      rcases hu with q | q
      · exact .inl q
      · rcases h5 u q with q | q
        · exact .inr q
        · exact absurd q hn
    by_cases e : u = z
    · subst e
      obtain ⟨p, hp, rfl⟩ := hy
      exact h4 p hp
    · refine h2 y (s.dn u hu2 (fun q => ?_) y hy)
      rcases List.mem_append.mp q with q | q
      · exact hn (h3 u q)
      · exact e (List.mem_singleton.mp q)
theorem r_behind {b : Int} {ns : List Str} (hns : ns.length ≤ 20) {rows : List (Str × List (Int × Str))} (h : Bk b ns rows) {x : Str} (hx : x ∈ ns) :
    ∃ f : List Str, f_law_behind.run [.f (.dict (tb enc rows)), .f (.str x)] = .ret (.lst (f.map .str)) [none, none] ∧ (∀ y, y ∈ f ↔ Beh rows x y) ∧ f.length ≤ 20 := by
  have len : ∀ {f t}, Sea rows ns x f t → f.length ≤ ns.length := fun s => nd_len s.nd fun y hy => (s.fs y hy).1
  have key : ∃ (f : List Str) (y4 y5 : Option W), sWhl (bCmp .NotEq (oVar 3) (oOf (vLst dsNil))) b_law_behind_2 [some (.f (.dict (tb enc rows))), some (.f (.str x)), some (.lst []), some (.lst [.str x]), none, none] = .ok .nx [some (.f (.dict (tb enc rows))), some (.f (.str x)), some (.lst (f.map .str)), some (.lst []), y4, y5] ∧ Sea rows ns x f [] := by
    refine whl_ind (I := fun n e => ∃ (f t : List Str) (y4 y5 : Option W), e = [some (.f (.dict (tb enc rows))), some (.f (.str x)), some (.lst (f.map .str)), some (.lst (t.map .str)), y4, y5] ∧ Sea rows ns x f t ∧ t.length ≤ 21 + f.length ∧ n = 2 * (20 - f.length) + t.length)
      (Q := fun r => ∃ (f : List Str) (y4 y5 : Option W), r = .ok .nx [some (.f (.dict (tb enc rows))), some (.f (.str x)), some (.lst (f.map .str)), some (.lst []), y4, y5] ∧ Sea rows ns x f []) (fun n e he => ?_) _ _ ⟨[], [x], none, none, rfl, ⟨by simp, by simp, by simp, fun z hz hn => by simp at hz hn; exact absurd hz hn⟩, by simp, rfl⟩
    obtain ⟨f, t, y4, y5, rfl, s, lt, rfl⟩ := he
    have hnil := strs_nil t
    rcases List.eq_nil_or_concat t with rfl | ⟨t, z, rfl⟩
    · left
      refine ⟨_, ?_, f, y4, y5, rfl, s⟩
      rw [decide_eq_true rfl] at hnil
      simp only [List.map_nil] at hnil ⊢
      simp_arith [hnil]
    · right
      rw [List.concat_eq_append] at hnil s lt ⊢
      rw [decide_eq_false (by simp)] at hnil
      have hf := len s
      have s2 := s.step h
      have hf2 := len s2
      obtain ⟨h1, h2, h3, h4, h5, h6, h7, h8⟩ := abs1_ok (ways rows z) f t s.nd
      have hw := ways_len h z
      simp only [List.length_append, List.length_singleton] at lt
      obtain ⟨z4, z5, q⟩ := r_inner (some (.f (.dict (tb enc rows)))) (some (.f (.str x))) (ways rows z) f t y4 y5 (by omega) (by omega)
      have hz : z ∈ ns := by
        rcases s.ts z (by simp) with rfl | q
        · exact hx
        · exact (s.fs z q).1
      have hi := item_row h hz
      rw [List.map_append] at hnil ⊢
      refine ⟨[some (.f (.dict (tb enc rows))), some (.f (.str x)), some (.lst (f.map .str)), some (.lst (t.map .str ++ [.str z])), y4, y5], ?_, .inr (.inr ⟨.nx, _, _, ?_, .inl rfl, ?_, (abs1 f t (ways rows z)).1, (abs1 f t (ways rows z)).2, z4, z5, rfl, s2, ?_, rfl⟩)⟩
      · simp only [List.map_cons, List.map_nil] at hnil ⊢
        simp_arith [hnil]
      · unfold b_law_behind_2
        generalize abs1 f t (ways rows z) = A at *
        generalize (ways rows z).map enc = R at *
        simp_arith [pop_last, hi, q]
      · simp only [List.length_append, List.length_singleton]
        have : f.length ≤ (abs1 f t (ways rows z)).1.length := nd_len s.nd h2
        omega
      · omega
  obtain ⟨f, y4, y5, q, s⟩ := key
  refine ⟨f, ?_, fun y => ⟨fun hy => (s.fs y hy).2, fun hy => ?_⟩, Nat.le_trans (len s) hns⟩
  · unfold f_law_behind b_law_behind
    simp_arith [ev_run, q]
  · induction hy with
    | single e => exact s.dn x (.inl rfl) (by simp) _ e
    | tail _ e ih => exact s.dn _ (.inr ih) (by simp) _ e
end K04

namespace K04
open PySem Z Y
local macro_rules | `(tactic| simp_arith [$ls,*]) => `(tactic| simp only [List.getD_cons_succ, List.getD_cons_zero, b_sum, b_any, b_all, in_cons, in_nil, bl_cons, bl_nil, uw_cons, uw_nil, wp_cons, wp_nil, fz_cons, fz_nil, ev_vLc, k1_vLc, lc0_ok, lc1_some, lc2, lc3, ev_vCon, ev_oCon, ev_dCon, ev_sNil, ev_sBrk, ev_sCnt, ev_sRetN, ev_dsNil, ev_osNil, ev_kvNil, ev_pNo, ev_vDct0, ev_bYes, ev_frz_some, ev_oVar, pk_some, ev_vFrz, pf_some, ev_vMove, pm_some, k1_dOf, ev_dOf, k1_oOf, ev_oOf, k1_vB, ev_vB, k2_vBin, k1_vBin, ev_vBin, k2_bCmp, k1_bCmp, ev_bCmp, k2_vIdx, k1_vIdx, ev_vIdx, k1_vRev, ev_vRev, k1_bNot, ev_bNot, k1_bTru, ev_bTru, k1_vIsi, ev_vIsi, k1_vBi, ev_vBi, k2_dsCons, k1_dsCons, ev_dsCons, k2_osCons, k1_osCons, ev_osCons, k3_kvCons, k2_kvCons, k1_kvCons, ev_kvCons, k1_vTup, ev_vTup, k1_vLst, ev_vLst, k1_vDct, ev_vDct, k3_vSlc, k2_vSlc, k1_vSlc, ev_vSlc, k1_pI, pIv_int, ev_pI, k1_vNeg, ngv_int, ev_vNeg, k1_bOf, bov_bool, ev_bOf, k1_bAnd, ev_bAnd, k1_bOr, ev_bOr, k1_vIf, ev_vIf, k1_sIf, ev_sIf, chv_t, chv_f, k2_bChn, k1_bChn, ev_bChn, sq_nx, sq_brk, sq_ct, sq_ret, ev_sSeq, k1_sSet, ev_sSet, k1_sEx, ev_sEx, k1_sRet, ev_sRet, bdv_some, k1_sBnd, ev_sBnd, ev_gSet, ev_gTupT, ev_gTupL, ev_gAll0, ev_gAll1, parv_2, k1_sPar, ev_sPar, wh_t, wh_f, wh_nx, wh_brk, wh_ret, fo_nx, fo_ct, fo_brk, fo_ret, fov_some, for_nil, k1_sFor, ev_sFor, iov_0, iov_1, iov_2, iov_3, k1_iOf, ev_iOf, r1_int, ev_iR1, r2_int, ev_iR2, en_l, ev_iEn, zp_l, zp_t, ev_iZp, ev_iVals, iva_d, ev_iItems, iit_d, k1_vIsiT, ev_vIsiT, k2_vMe, k1_vMe, ev_vMe, any_s, List.any_cons, List.any_nil, cl_ret, cl_exc, cl_some, k1_call, ev_mCall, k1_callP, ev_mCallP, clq_some, clp_b, clp_i, clp_s, clp_n, tk_nil, tk_lent, tkl_some, tk_frz, tkf_some, tk_dat, bk_lent, bk_f, bk_d, bk_nil, mk_nil, mk_cons, out_nx, out_ret, out_exc, ev_run, ev_io, put3_some, put2_some, k2_put, put1_some, k1_put, ev_sPut, app2_l, k1_app, app1_l, ev_vApp, vc1_l, ev_vClr, ve1_l, ve2_l, kx_l, ev_vExt, i3Add_int, i2Add, i1Add_int, ev_sAdd, i3Sub_int, i2Sub, i1Sub_int, ev_sSub, lk_inl, lk_inr, lks_nil, lks_cons, bind_ok, bind_exc, bind_bad, of_some, of_none, peek_nil, peek_zero, peek_zero', peek_succ, fz_f, fz_l, fz_d, bin_add, bin_sub, bin_mul, bin_fdiv, bin_mod, bin_pow, bin_adds, bin_addt, bin_addl, cmp_eq, cmp_ne, cmp_in, cmp_nin, cmp_lt, cmp_le, cmp_gt, cmp_ge, cmp_is, cmp_isn, isD_int, isD_bool, isD_str, isD_list, isD_tuple, isD_dict, tru_int, tru_bool, tru_none, tru_list, tru_tuple, item_l, item_t, put_l, eqD_int, eqD_bool, eqD_str, bind_some, map_some, bLen, bTup, bMax2, bMin2, bAbs, bInt, List.getElem?_cons_zero, List.getElem?_cons_succ, List.set_cons_zero, List.set_cons_succ, List.length_cons, List.length_nil, List.length_set, List.replicate_succ, List.replicate_zero, List.map_cons, List.map_nil, List.cons_append, List.nil_append, Option.map_some, Option.map_none, Option.bind_some, Option.bind_none, if_true, if_false, Bool.not_true, Bool.not_false, Bool.false_eq_true, Bool.true_eq_false, reduceIte, Nat.reduceAdd, Nat.reduceSub, Nat.reduceLT, Nat.reduceLeDiff, Nat.reduceEqDiff, decide_true, decide_false, Int.reduceNeg, ne_eq, not_true_eq_false, not_false_eq_true, Nat.zero_lt_succ, Nat.lt_add_one, and_self, and_true, true_and, Bool.true_and, Bool.false_and, Bool.and_true, Bool.or_true, Bool.or_false, Bool.true_or, Bool.false_or, sizeOk_small, Int.cast_ofNat_Int, Int.reduceBEq, Int.reduceLT, Int.reduceLE, Int.reduceEq, lt_line, Option.getD_some, BEq.rfl, List.all_cons, List.all_nil, List.any_cons, List.any_nil, id_eq, Y.tyn_l, Y.tyn_s, Y.tyn_d, Y.in_ll, Y.in_tl, Y.jk_peek, dc_nil, dc_cons, dc1_some, dc2, dc2b, dc3, dc0_ok, k1_vDc, ev_vDc, ev_vSd, sd1_d, k1_sd, sd2_d, sd3_s, sd3_n, ev_vDp, dp1_d, k1_vDp, dp2_d, dp3_s, k1_vLr, ev_vLr, lrv_i, k1_vItL, ev_vItL, itv_d, lc_cons, lc_nil, $ls,*])
open Ek (enc)
theorem onward (ns : List Str) (i : Nat) : cut (ns.map PyData.str) (some ((i : Int) + 1)) (some ((i : Int) + 2)) = ((ns.drop (i + 1)).take 1).map .str := by
  have e1 : (i : Int) + 1 = ((i + 1 : Nat) : Int) := by omega
  have e2 : (i : Int) + 2 = ((i + 2 : Nat) : Int) := by omega
  rw [e1, e2]
  unfold cut
  rw [HT.sIx_nat, HT.sIx_nat, List.length_map, List.map_take, List.map_drop]
  by_cases h : i + 1 < ns.length
  · rw [show min (i + 1) ns.length = i + 1 by omega, show min (i + 2) ns.length = i + 2 by omega, show i + 2 - (i + 1) = 1 by omega]
  · rw [show min (i + 1) ns.length = ns.length by omega, show min (i + 2) ns.length = ns.length by omega]
    rw [List.drop_of_length_le (by simp), List.drop_of_length_le (by simp; omega)]
    simp
theorem rw_nil (b : Int) (ns : List Str) : Rw b ns [] := ⟨by simp, by simp, by simp⟩
theorem rw_one {b d : Int} {ns : List Str} {y : Str} (h0 : 0 ≤ d) (h1 : d < b) (hy : y ∈ ns) : Rw b ns [(d, y)] := ⟨by simp, by simp, by simp [*]⟩
theorem r_chain_1 {n : Nat} {w : W} (hw : Pen n w) (hn : n < 600000) {b : Int} (hb : 1 < b) (hb2 : b ≤ 10) {ns : List Str} (hns : ns.length ≤ 20) {i : Nat} {x : Str} (hx : ns[i]? = some x) {rows : List (Str × List (Int × Str))} (hr : rows.length ≤ 1000) (x6 x7 : Option W) :
    ∃ r w' y6 y7, b_law_chain_1 [some w, some (.f (.int b)), some (.f (.list (ns.map .str))), some (.dct (tb enc rows)), some (.f (.int (i : Int))), some (.f (.str x)), x6, x7] =
      .ok .nx [some w', some (.f (.int b)), some (.f (.list (ns.map .str))), some (.dct (tb enc (aput rows x r))), some (.f (.int (i : Int))), some (.f (.str x)), y6, y7] ∧ Rw b ns r ∧ Pen (n + 4) w' := by
  have hm := List.mem_of_getElem? hx
  have npos : 0 < ns.length := List.length_pos_iff.mpr fun z => by rw [z] at hm; cases hm
  have hlen := len_names ns
  obtain ⟨N, hN⟩ : ∃ N : Int, (ns.length : Int) = N := ⟨_, rfl⟩
  rw [hN] at hlen
  have hs : slice (.list (ns.map .str)) (oi (some ((i : Int) + 1))) (oi (some ((i : Int) + 2))) = some (.lst (((ns.drop (i + 1)).take 1).map .str)) := by rw [sl_l, onward]
  have hsub : ∀ y ∈ (ns.drop (i + 1)).take 1, y ∈ ns := fun y hy => List.mem_of_mem_drop (List.mem_of_mem_take hy)
  have hle : ((ns.drop (i + 1)).take 1).length ≤ 1 := by rw [List.length_take]; omega
  generalize (ns.drop (i + 1)).take 1 = o at hs hsub hle
  have li : (i : Int) < 20 := by have := (List.getElem?_eq_some_iff.mp hx).1; omega
  have li0 : 0 ≤ (i : Int) := by omega
  obtain ⟨I, hI⟩ : ∃ I : Int, (i : Int) = I := ⟨_, rfl⟩
  rw [hI] at hs li li0 ⊢
  obtain ⟨f1, q1⟩ := pen_fz hw
  have hnil := strs_nil o
  -- the row is told
  have fin1 : ∀ (w1 : W) (n1 : Nat) (y : Str), Pen n1 w1 → n1 < 700000 → y ∈ ns → ∃ d w2, 0 ≤ d ∧ d < b ∧ Pen (n1 + 1) w2 ∧ ∀ (x6 x7 : Option W), lcG [7] (gSet 7) bYes (dOf (vTup (dsCons (dOf (mCall f_pen_take (osCons (oVar 0) (osCons (oVar 1) osNil)))) (dsCons (dOf (vFrz 7)) dsNil)))) [.str y] [] [some w1, some (.f (.int b)), some (.f (.list (ns.map .str))), some (.dct (tb enc rows)), some (.f (.int I)), some (.f (.str x)), x6, x7] =
      .ok [.tuple [.int d, .str y]] [some w2, some (.f (.int b)), some (.f (.list (ns.map .str))), some (.dct (tb enc rows)), some (.f (.int I)), some (.f (.str x)), x6, some (.f (.str y))] := by
    intro w1 n1 y p1 h1 hy
    obtain ⟨d, w2, e2, d0, d1, p2⟩ := r_take p1 (by omega) (m := b) (by omega) (Int.lt_of_le_of_lt (b := 101) (by omega) (by decide))
    obtain ⟨f2, q2⟩ := pen_fz p1
    refine ⟨d, w2, d0, d1, p2, fun x6 x7 => ?_⟩
    simp_arith [io_pen_take, e2, q2]
  have hp0 := put_row (rows := rows) (by omega) x []
  have en0 : enc ([] : List (Int × Str)) = .tuple [] := rfl
  have en1 : ∀ d y, enc ([(d, y)] : List (Int × Str)) = .tuple [.tuple [.int d, .str y]] := fun d y => rfl
  match o, hle with
  | [y], _ =>
    obtain ⟨d, w2, d0, d1, p2, q2⟩ := fin1 w n y hw (by omega) (hsub y (by simp))
    have hp := put_row (rows := rows) (by omega) x [(d, y)]
    rw [en1] at hp
    rw [decide_eq_false (by simp)] at hnil
    simp only [List.map_cons, List.map_nil] at hnil hs
    refine ⟨[(d, y)], w2, some (.f (.list [.str y])), jk x7, ?_, rw_one d0 d1 (hsub y (by simp)), pen_le p2 (by omega)⟩
    generalize tb enc (aput rows x [(d, y)]) = D at *
    unfold b_law_chain_1
    simp_arith [hs, hnil, q2, hp, io_pen_take, -lc_cons, -lc_nil]
  | [], _ =>
    rw [decide_eq_true rfl] at hnil
    simp only [List.map_nil] at hnil hs
    obtain ⟨v, w1, e1, v0, v1, p1⟩ := r_take hw (by omega) (m := 2) (by decide) (by decide)
    by_cases hv : v = 0
    · subst hv
      obtain ⟨u, w3, e3, u0, u1, p3⟩ := r_take p1 (by omega) (m := N) (by omega) (Int.lt_of_le_of_lt (b := 101) (by omega) (by decide))
      obtain ⟨y, hy, ey⟩ := name_at (ns := ns) u0 (by omega)
      obtain ⟨d, w2, d0, d1, p2, q2⟩ := fin1 w3 _ y p3 (by omega) hy
      obtain ⟨f3, q3⟩ := pen_fz p1
      have hp := put_row (rows := rows) (by omega) x [(d, y)]
      rw [en1] at hp
      refine ⟨[(d, y)], w2, some (.f (.list [.str y])), jk x7, ?_, rw_one d0 d1 hy, pen_le p2 (by omega)⟩
      have z0 : ((0 : Int) == 0) = true := rfl
      generalize tb enc (aput rows x [(d, y)]) = D at *
      unfold b_law_chain_1
      simp_arith [hs, hnil, e1, q1, z0, e3, q3, hlen, ey, q2, hp, io_pen_take, -lc_cons, -lc_nil, -bLen]
    · have z0 : (v == 0) = false := by simpa using hv
      rw [en0] at hp0
      refine ⟨[], w1, some (.f (.list [])), jk x7, ?_, rw_nil b ns, pen_le p1 (by omega)⟩
      generalize tb enc (aput rows x []) = D at *
      unfold b_law_chain_1
      simp_arith [hs, hnil, e1, q1, z0, hp0, io_pen_take]
theorem r_chain {n : Nat} {w : W} (hw : Pen n w) (hn : n < 500000) {b : Int} (hb : 1 < b) (hb2 : b ≤ 10) {ns : List Str} (nd : ns.Nodup) (hns : ns.length ≤ 20) :
    ∃ rows w', f_law_chain.run [w, .f (.int b), .f (.list (ns.map .str))] = .ret (.f (.tuple [.int b, .dict (tb enc rows)])) [some w', none, none] ∧ Bk b ns rows ∧ Pen (n + 80) w' := by
  obtain ⟨e', q, rows, w1, x4, x5, x6, x7, rfl, a1, a2, a3⟩ := forG_all (g := gTupB [gSet 4, gSet 5]) (b := b_law_chain_1)
    (fun i e => ∃ (rows : List (Str × List (Int × Str))) (w1 : W) (x4 x5 x6 x7 : Option W), e = [some w1, some (.f (.int b)), some (.f (.list (ns.map .str))), some (.dct (tb enc rows)), x4, x5, x6, x7] ∧ rows.map (·.1) = ns.take i ∧ (∀ p ∈ rows, Rw b ns p.2) ∧ Pen (n + 4 * i) w1)
    (l := enumD 0 (ns.map .str)) (n := 0) (e := [some w, some (.f (.int b)), some (.f (.list (ns.map .str))), some (.dct []), none, none, none, none])
    ⟨[], w, none, none, none, none, rfl, by simp, by simp, hw⟩ (fun i x hx e he => by
      obtain ⟨rows, w1, x4, x5, x6, x7, rfl, a1, a2, a3⟩ := he
      obtain ⟨p, hp, rfl⟩ := enumD_at hx
      rw [List.getElem?_map] at hp
      obtain ⟨y, hy, rfl⟩ := Option.map_eq_some_iff.mp hp
      have hi := (List.getElem?_eq_some_iff.mp hy).1
      rw [Nat.zero_add] at a1 a3
      have hlen : rows.length ≤ 20 := by
        have := congrArg List.length a1
        rw [List.length_map, List.length_take] at this
        omega
      obtain ⟨r, w2, y6, y7, b1, b2, b3⟩ := r_chain_1 a3 (by omega) hb hb2 hns hy (rows := rows) (by omega) x6 x7
      have new : aput rows y r = rows ++ [(y, r)] := aput_new r (by rw [a1]; exact nd_take nd hy)
      rw [new] at b1
      refine ⟨_, .nx, _, rfl, b1, .inl rfl, rows ++ [(y, r)], w2, some (.f (.int (i : Int))), some (.f (.str y)), y6, y7, rfl, ?_, fun p hp => ?_, pen_le b3 (by omega)⟩
      · rw [Nat.zero_add, take_snoc hy, List.map_append, a1]
        rfl
      · rcases List.mem_append.mp hp with z | z
        · exact a2 p z
        · rw [List.mem_singleton.mp z]
          exact b2)
  rw [Nat.zero_add, enumD_len, List.length_map] at a1 a3
  rw [List.take_length] at a1
  refine ⟨rows, w1, ?_, ⟨a1, a2⟩, pen_le a3 (by omega)⟩
  unfold f_law_chain b_law_chain
  simp_arith [ev_run, q]
end K04

namespace Y
open PySem Z
local macro_rules | `(tactic| simp_arith [$ls,*]) => `(tactic| simp only [List.getD_cons_succ, List.getD_cons_zero, b_sum, b_any, b_all, in_cons, in_nil, bl_cons, bl_nil, uw_cons, uw_nil, wp_cons, wp_nil, fz_cons, fz_nil, ev_vLc, k1_vLc, lc0_ok, lc1_some, lc2, lc3, ev_vCon, ev_oCon, ev_dCon, ev_sNil, ev_sBrk, ev_sCnt, ev_sRetN, ev_dsNil, ev_osNil, ev_kvNil, ev_pNo, ev_vDct0, ev_bYes, ev_frz_some, ev_oVar, pk_some, ev_vFrz, pf_some, ev_vMove, pm_some, k1_dOf, ev_dOf, k1_oOf, ev_oOf, k1_vB, ev_vB, k2_vBin, k1_vBin, ev_vBin, k2_bCmp, k1_bCmp, ev_bCmp, k2_vIdx, k1_vIdx, ev_vIdx, k1_vRev, ev_vRev, k1_bNot, ev_bNot, k1_bTru, ev_bTru, k1_vIsi, ev_vIsi, k1_vBi, ev_vBi, k2_dsCons, k1_dsCons, ev_dsCons, k2_osCons, k1_osCons, ev_osCons, k3_kvCons, k2_kvCons, k1_kvCons, ev_kvCons, k1_vTup, ev_vTup, k1_vLst, ev_vLst, k1_vDct, ev_vDct, k3_vSlc, k2_vSlc, k1_vSlc, ev_vSlc, k1_pI, pIv_int, ev_pI, k1_vNeg, ngv_int, ev_vNeg, k1_bOf, bov_bool, ev_bOf, k1_bAnd, ev_bAnd, k1_bOr, ev_bOr, k1_vIf, ev_vIf, k1_sIf, ev_sIf, chv_t, chv_f, k2_bChn, k1_bChn, ev_bChn, sq_nx, sq_brk, sq_ct, sq_ret, ev_sSeq, k1_sSet, ev_sSet, k1_sEx, ev_sEx, k1_sRet, ev_sRet, bdv_some, k1_sBnd, ev_sBnd, ev_gSet, ev_gTupT, ev_gTupL, ev_gAll0, ev_gAll1, parv_2, k1_sPar, ev_sPar, wh_t, wh_f, wh_nx, wh_brk, wh_ret, fo_nx, fo_ct, fo_brk, fo_ret, fov_some, for_nil, k1_sFor, ev_sFor, iov_0, iov_1, iov_2, iov_3, k1_iOf, ev_iOf, r1_int, ev_iR1, r2_int, ev_iR2, en_l, ev_iEn, zp_l, zp_t, ev_iZp, ev_iVals, iva_d, ev_iItems, iit_d, k1_vIsiT, ev_vIsiT, k2_vMe, k1_vMe, ev_vMe, any_s, List.any_cons, List.any_nil, cl_ret, cl_exc, cl_some, k1_call, ev_mCall, k1_callP, ev_mCallP, clq_some, clp_b, clp_i, clp_s, clp_n, tk_nil, tk_lent, tkl_some, tk_frz, tkf_some, tk_dat, bk_lent, bk_f, bk_d, bk_nil, mk_nil, mk_cons, out_nx, out_ret, out_exc, ev_run, ev_io, put3_some, put2_some, k2_put, put1_some, k1_put, ev_sPut, app2_l, k1_app, app1_l, ev_vApp, vc1_l, ev_vClr, ve1_l, ve2_l, kx_l, ev_vExt, i3Add_int, i2Add, i1Add_int, ev_sAdd, i3Sub_int, i2Sub, i1Sub_int, ev_sSub, lk_inl, lk_inr, lks_nil, lks_cons, bind_ok, bind_exc, bind_bad, of_some, of_none, peek_nil, peek_zero, peek_zero', peek_succ, fz_f, fz_l, fz_d, bin_add, bin_sub, bin_mul, bin_fdiv, bin_mod, bin_pow, bin_adds, bin_addt, bin_addl, cmp_eq, cmp_ne, cmp_in, cmp_nin, cmp_lt, cmp_le, cmp_gt, cmp_ge, cmp_is, cmp_isn, isD_int, isD_bool, isD_str, isD_list, isD_tuple, isD_dict, tru_int, tru_bool, tru_none, tru_list, tru_tuple, item_l, item_t, put_l, eqD_int, eqD_bool, eqD_str, bind_some, map_some, bLen, bTup, bMax2, bMin2, bAbs, bInt, List.getElem?_cons_zero, List.getElem?_cons_succ, List.set_cons_zero, List.set_cons_succ, List.length_cons, List.length_nil, List.length_set, List.replicate_succ, List.replicate_zero, List.map_cons, List.map_nil, List.cons_append, List.nil_append, Option.map_some, Option.map_none, Option.bind_some, Option.bind_none, if_true, if_false, Bool.not_true, Bool.not_false, Bool.false_eq_true, Bool.true_eq_false, reduceIte, Nat.reduceAdd, Nat.reduceSub, Nat.reduceLT, Nat.reduceLeDiff, Nat.reduceEqDiff, decide_true, decide_false, Int.reduceNeg, ne_eq, not_true_eq_false, not_false_eq_true, Nat.zero_lt_succ, Nat.lt_add_one, and_self, and_true, true_and, Bool.true_and, Bool.false_and, Bool.and_true, Bool.or_true, Bool.or_false, Bool.true_or, Bool.false_or, sizeOk_small, Int.cast_ofNat_Int, Int.reduceBEq, Int.reduceLT, Int.reduceLE, Int.reduceEq, lt_line, Option.getD_some, BEq.rfl, List.all_cons, List.all_nil, List.any_cons, List.any_nil, id_eq, Y.tyn_l, Y.tyn_s, Y.tyn_d, Y.in_ll, Y.in_tl, Y.jk_peek, dc_nil, dc_cons, dc1_some, dc2, dc2b, dc3, dc0_ok, k1_vDc, ev_vDc, ev_vSd, sd1_d, k1_sd, sd2_d, sd3_s, sd3_n, ev_vDp, dp1_d, k1_vDp, dp2_d, dp3_s, k1_vLr, ev_vLr, lrv_i, k1_vItL, ev_vItL, itv_d, lc_cons, lc_nil, $ls,*])
open Ek (enc)
/-! ### a book's text -/
theorem shw_nm {x : Str} (h : Nm x) : shw (.str x) = true := by
  obtain ⟨l, rfl, _, _, h3⟩ := h
  show (st l).cps.toList.all (fun c => decide (c < 4294967296)) = true
  refine List.all_eq_true.mpr fun c hc => decide_eq_true ?_
  have := h3 c (by simpa [st] using hc)
  omega
theorem wt_nm {x : Str} (h : Nm x) : wt (.str x) ≤ 82 := by
  obtain ⟨l, rfl, _, h2, _⟩ := h
  show 10 * (st l).length + 2 ≤ 82
  rw [st_len]
  omega
theorem shw_digit {d : Int} (h0 : 0 ≤ d) (h1 : d < 100) : shw (.int d) = true := by
  show decide (d.natAbs.log2 < 1920) = true
  refine decide_eq_true (Nat.lt_of_le_of_lt (Nat.log2_le_self _) ?_)
  omega
theorem shwAll_map {α : Type} (f : α → PyData) : ∀ l : List α, (∀ x ∈ l, shw (f x) = true) → shwAll (l.map f) = true
  | [], _ => by unfold shwAll; rfl
  | x :: l, h => by
    rw [List.map_cons, shwAll, h x (by simp), shwAll_map f l fun y hy => h y (by simp [hy])]
    rfl
theorem wtAll_map {α : Type} (f : α → PyData) (k : Nat) : ∀ l : List α, (∀ x ∈ l, wt (f x) ≤ k) → wtAll (l.map f) ≤ (k + 2) * l.length
  | [], _ => by simp [wtAll]
  | x :: l, h => by
    have h1 := wtAll_map f k l fun y hy => h y (by simp [hy])
    have h2 := h x (by simp)
    rw [List.map_cons, wtAll, List.length_cons, Nat.mul_succ]
    omega
theorem noLsts_map {α : Type} (f : α → PyData) : ∀ l : List α, (∀ x ∈ l, noLst (f x) = true) → noLsts (l.map f) = true
  | [], _ => by unfold noLsts; rfl
  | x :: l, h => by
    rw [List.map_cons, noLsts, h x (by simp), noLsts_map f l fun y hy => h y (by simp [hy])]
    rfl
theorem noLst_hk : ∀ p : PyData, hk p = true → noLst p = true
  | .none, _ | .bool _, _ | .int _, _ | .str _, _ => by unfold noLst; rfl
  | .tuple l, h => by
    rw [noLst]
    exact all l (by simpa [hk] using h)
  | .list _, h => by simp [hk] at h
  | .dict _, h => by simp [hk] at h
where all : ∀ l : List PyData, hkAll l = true → noLsts l = true
  | [], _ => by unfold noLsts; rfl
  | x :: l, h => by
    simp only [hkAll, Bool.and_eq_true] at h
    rw [noLsts, noLst_hk x h.1, all l h.2]
    rfl
theorem kv_tb {α β : Type} [DecidableEq α] [Ek α] (g : β → PyData) (k : Nat) (m : Nat) : ∀ l : List (α × β), (∀ p ∈ l, (shw (enc p.1) = true ∧ wt (enc p.1) ≤ k) ∧ shw (g p.2) = true ∧ wt (g p.2) ≤ m ∧ noLst (g p.2) = true) →
    shwKv (tb g l) = true ∧ wtKv (tb g l) ≤ (k + m + 4) * l.length ∧ noLstKv (tb g l) = true
  | [], _ => ⟨by show shwKv [] = true; unfold shwKv; rfl, by show wtKv [] ≤ _; simp [wtKv], by show noLstKv [] = true; unfold noLstKv; rfl⟩
  | p :: l, h => by
    obtain ⟨h1, h2, h3⟩ := kv_tb g k m l fun q hq => h q (by simp [hq])
    obtain ⟨⟨a1, a2⟩, a3, a4, a5⟩ := h p (by simp)
    have e : tb g (p :: l) = (enc p.1, g p.2) :: tb g l := rfl
    rw [e]
    refine ⟨?_, ?_, ?_⟩
    · rw [shwKv, a1, a3, h1]
      rfl
    · rw [wtKv, List.length_cons, Nat.mul_succ]
      omega
    · rw [noLstKv, noLst_hk _ (Ek.hkk p.1), a5, h3]
      rfl
theorem row_ok {b : Int} (hb2 : b ≤ 10) {ns : List Str} (hn : ∀ x ∈ ns, Nm x) {r : List (Int × Str)} (h : Rw b ns r) : shw (enc r) = true ∧ wt (enc r) ≤ 30000 ∧ noLst (enc r) = true := by
  refine ⟨?_, ?_, noLst_hk _ (Ek.hkk r)⟩
  · show shw (.tuple (r.map enc)) = true
    rw [shw]
    refine shwAll_map _ _ fun p hp => ?_
    obtain ⟨h0, h1, h2⟩ := h.ok p hp
    show shw (.tuple [.int p.1, .str p.2]) = true
    rw [shw, shwAll, shwAll, shwAll, shw_digit h0 (by omega), shw_nm (hn _ h2)]
    rfl
  · show wt (.tuple (r.map enc)) ≤ 30000
    have := wtAll_map enc 2020 r fun p hp => by
      obtain ⟨h0, h1, h2⟩ := h.ok p hp
      show wt (.tuple [.int p.1, .str p.2]) ≤ 2020
      have := wt_nm (hn _ h2)
      simp only [wt, wtAll] at this ⊢
      omega
    have hl := h.len
    rw [wt]
    have : (2020 + 2) * r.length ≤ 2022 * 12 := Nat.mul_le_mul_left _ hl
    omega
theorem depKv_tb {α β : Type} [DecidableEq α] [Ek α] [DecidableEq β] [Ek β] : ∀ l : List (α × β), PyData.depthKv (tb enc l) ≤ max (Ek.dep α) (Ek.dep β)
  | [] => Nat.zero_le _
  | p :: l => by
    have h1 := Ek.dp p.1
    have h2 := Ek.dp p.2
    have h3 := depKv_tb l
    have e : tb enc (p :: l) = (enc p.1, enc p.2) :: tb enc l := rfl
    rw [e]
    simp only [PyData.depthKv]
    omega
theorem repr_book {b : Int} (hb : 1 < b) (hb2 : b ≤ 10) {ns : List Str} (hns : ns.length ≤ 20) (hn : ∀ x ∈ ns, Nm x) {rows : List (Str × List (Int × Str))} (h : Bk b ns rows) : ∃ x : Str, bRepr [.tuple [.int b, .dict (tb enc rows)]] = some (.f (.str x)) := by
  have hl : rows.length = ns.length := by rw [← h.keys, List.length_map]
  obtain ⟨h1, h2, h3⟩ := kv_tb (α := Str) enc 82 30000 rows fun p hp => by
    have : p.1 ∈ ns := by rw [← h.keys]; exact List.mem_map.mpr ⟨p, hp, rfl⟩
    exact ⟨⟨shw_nm (hn _ this), wt_nm (hn _ this)⟩, row_ok hb2 hn (h.row p hp)⟩
  have hd := depKv_tb rows
  have hd2 : PyData.depthKv (tb enc rows) ≤ 10 := Nat.le_trans hd (by decide)
  refine ⟨_, if_pos ?_⟩
  have a1 : shw (.tuple [.int b, .dict (tb enc rows)]) = true := by
    rw [shw, shwAll, shwAll, shwAll, shw_digit (by omega) (by omega), shw, h1]
    rfl
  have a2 : wt (.tuple [.int b, .dict (tb enc rows)]) ≤ sizeLine := by
    refine Nat.le_of_lt (lt_line ?_)
    have : (82 + 30000 + 4) * rows.length ≤ 30086 * 20 := Nat.mul_le_mul_left _ (by omega)
    simp only [wt, wtAll]
    omega
  have a3 : (PyData.tuple [.int b, .dict (tb enc rows)]).depth ≤ 64 := by
    simp only [PyData.depth, PyData.depthAll]
    omega
  have a4 : noLst (.tuple [.int b, .dict (tb enc rows)]) = true := by
    simp only [noLst, noLsts, h3, Bool.and_true]
  unfold reprOk
  rw [a1, decide_eq_true a2, decide_eq_true a3, a4]
  rfl
end Y

namespace K04
open PySem Z Y
local macro_rules | `(tactic| simp_arith [$ls,*]) => `(tactic| simp only [List.getD_cons_succ, List.getD_cons_zero, b_sum, b_any, b_all, in_cons, in_nil, bl_cons, bl_nil, uw_cons, uw_nil, wp_cons, wp_nil, fz_cons, fz_nil, ev_vLc, k1_vLc, lc0_ok, lc1_some, lc2, lc3, ev_vCon, ev_oCon, ev_dCon, ev_sNil, ev_sBrk, ev_sCnt, ev_sRetN, ev_dsNil, ev_osNil, ev_kvNil, ev_pNo, ev_vDct0, ev_bYes, ev_frz_some, ev_oVar, pk_some, ev_vFrz, pf_some, ev_vMove, pm_some, k1_dOf, ev_dOf, k1_oOf, ev_oOf, k1_vB, ev_vB, k2_vBin, k1_vBin, ev_vBin, k2_bCmp, k1_bCmp, ev_bCmp, k2_vIdx, k1_vIdx, ev_vIdx, k1_vRev, ev_vRev, k1_bNot, ev_bNot, k1_bTru, ev_bTru, k1_vIsi, ev_vIsi, k1_vBi, ev_vBi, k2_dsCons, k1_dsCons, ev_dsCons, k2_osCons, k1_osCons, ev_osCons, k3_kvCons, k2_kvCons, k1_kvCons, ev_kvCons, k1_vTup, ev_vTup, k1_vLst, ev_vLst, k1_vDct, ev_vDct, k3_vSlc, k2_vSlc, k1_vSlc, ev_vSlc, k1_pI, pIv_int, ev_pI, k1_vNeg, ngv_int, ev_vNeg, k1_bOf, bov_bool, ev_bOf, k1_bAnd, ev_bAnd, k1_bOr, ev_bOr, k1_vIf, ev_vIf, k1_sIf, ev_sIf, chv_t, chv_f, k2_bChn, k1_bChn, ev_bChn, sq_nx, sq_brk, sq_ct, sq_ret, ev_sSeq, k1_sSet, ev_sSet, k1_sEx, ev_sEx, k1_sRet, ev_sRet, bdv_some, k1_sBnd, ev_sBnd, ev_gSet, ev_gTupT, ev_gTupL, ev_gAll0, ev_gAll1, parv_2, k1_sPar, ev_sPar, wh_t, wh_f, wh_nx, wh_brk, wh_ret, fo_nx, fo_ct, fo_brk, fo_ret, fov_some, for_nil, k1_sFor, ev_sFor, iov_0, iov_1, iov_2, iov_3, k1_iOf, ev_iOf, r1_int, ev_iR1, r2_int, ev_iR2, en_l, ev_iEn, zp_l, zp_t, ev_iZp, ev_iVals, iva_d, ev_iItems, iit_d, k1_vIsiT, ev_vIsiT, k2_vMe, k1_vMe, ev_vMe, any_s, List.any_cons, List.any_nil, cl_ret, cl_exc, cl_some, k1_call, ev_mCall, k1_callP, ev_mCallP, clq_some, clp_b, clp_i, clp_s, clp_n, tk_nil, tk_lent, tkl_some, tk_frz, tkf_some, tk_dat, bk_lent, bk_f, bk_d, bk_nil, mk_nil, mk_cons, out_nx, out_ret, out_exc, ev_run, ev_io, put3_some, put2_some, k2_put, put1_some, k1_put, ev_sPut, app2_l, k1_app, app1_l, ev_vApp, vc1_l, ev_vClr, ve1_l, ve2_l, kx_l, ev_vExt, i3Add_int, i2Add, i1Add_int, ev_sAdd, i3Sub_int, i2Sub, i1Sub_int, ev_sSub, lk_inl, lk_inr, lks_nil, lks_cons, bind_ok, bind_exc, bind_bad, of_some, of_none, peek_nil, peek_zero, peek_zero', peek_succ, fz_f, fz_l, fz_d, bin_add, bin_sub, bin_mul, bin_fdiv, bin_mod, bin_pow, bin_adds, bin_addt, bin_addl, cmp_eq, cmp_ne, cmp_in, cmp_nin, cmp_lt, cmp_le, cmp_gt, cmp_ge, cmp_is, cmp_isn, isD_int, isD_bool, isD_str, isD_list, isD_tuple, isD_dict, tru_int, tru_bool, tru_none, tru_list, tru_tuple, item_l, item_t, put_l, eqD_int, eqD_bool, eqD_str, bind_some, map_some, bLen, bTup, bMax2, bMin2, bAbs, bInt, List.getElem?_cons_zero, List.getElem?_cons_succ, List.set_cons_zero, List.set_cons_succ, List.length_cons, List.length_nil, List.length_set, List.replicate_succ, List.replicate_zero, List.map_cons, List.map_nil, List.cons_append, List.nil_append, Option.map_some, Option.map_none, Option.bind_some, Option.bind_none, if_true, if_false, Bool.not_true, Bool.not_false, Bool.false_eq_true, Bool.true_eq_false, reduceIte, Nat.reduceAdd, Nat.reduceSub, Nat.reduceLT, Nat.reduceLeDiff, Nat.reduceEqDiff, decide_true, decide_false, Int.reduceNeg, ne_eq, not_true_eq_false, not_false_eq_true, Nat.zero_lt_succ, Nat.lt_add_one, and_self, and_true, true_and, Bool.true_and, Bool.false_and, Bool.and_true, Bool.or_true, Bool.or_false, Bool.true_or, Bool.false_or, sizeOk_small, Int.cast_ofNat_Int, Int.reduceBEq, Int.reduceLT, Int.reduceLE, Int.reduceEq, lt_line, Option.getD_some, BEq.rfl, List.all_cons, List.all_nil, List.any_cons, List.any_nil, id_eq, Y.tyn_l, Y.tyn_s, Y.tyn_d, Y.in_ll, Y.in_tl, Y.jk_peek, dc_nil, dc_cons, dc1_some, dc2, dc2b, dc3, dc0_ok, k1_vDc, ev_vDc, ev_vSd, sd1_d, k1_sd, sd2_d, sd3_s, sd3_n, ev_vDp, dp1_d, k1_vDp, dp2_d, dp3_s, k1_vLr, ev_vLr, lrv_i, k1_vItL, ev_vItL, itv_d, lc_cons, lc_nil, $ls,*])
open Ek (enc)
noncomputable def rc (rows : List (Str × List (Int × Str))) (x : Str) : Bool := @decide (Beh rows x x) (Classical.propDecidable _)
theorem rc_iff (rows : List (Str × List (Int × Str))) (x : Str) : rc rows x = true ↔ Beh rows x x := by
  unfold rc
  rw [@decide_eq_true_iff _ (Classical.propDecidable _)]
noncomputable def ec (rows : List (Str × List (Int × Str))) (x : Str) : Bool := @decide (End rows x) (Classical.propDecidable _)
theorem ec_iff (rows : List (Str × List (Int × Str))) (x : Str) : ec rows x = true ↔ End rows x := by
  unfold ec
  rw [@decide_eq_true_iff _ (Classical.propDecidable _)]
theorem beh_ns {b : Int} {ns : List Str} {rows : List (Str × List (Int × Str))} (h : Bk b ns rows) {x y : Str} (r : Beh rows x y) : y ∈ ns := by
  cases r with
  | single e =>
    obtain ⟨p, hp, rfl⟩ := e
    exact (ways_ok h _ p hp).2.2
  | tail _ e =>
    obtain ⟨p, hp, rfl⟩ := e
    exact (ways_ok h _ p hp).2.2
theorem io_behind : f_law_behind.io = [false, false] := rfl
/-- names that come round -/
theorem r_round {b : Int} {ns : List Str} (hns : ns.length ≤ 20) {rows : List (Str × List (Int × Str))} (h : Bk b ns rows) (x0 x1 x2 x3 x4 x5 x7 x8 x9 x10 x11 x12 x13 x14 : Option W) :
    ∃ e', lcG [9] (gSet 9) (bCmp .In (oVar 9) (oOf (mCall f_law_behind (osCons (oVar 6) (osCons (oVar 9) osNil))))) (dOf (vFrz 9)) (ns.map .str) [] [x0, x1, x2, x3, x4, x5, some (.f (.dict (tb enc rows))), x7, x8, x9, x10, x11, x12, x13, x14] =
      .ok ((ns.filter (rc rows)).map .str) e' ∧ wipeE e' [9] = [x0, x1, x2, x3, x4, x5, some (.f (.dict (tb enc rows))), x7, x8, none, x10, x11, x12, x13, x14] :=
  lc_fil (own := [9]) (g := gSet 9) (e := [x0, x1, x2, x3, x4, x5, some (.f (.dict (tb enc rows))), x7, x8, x9, x10, x11, x12, x13, x14]) PyData.str (rc rows) PyData.str (by omega) fun x hx => by
    obtain ⟨f, e1, h1, h2⟩ := r_behind hns h hx
    have hm := mem_strs x f
    have : decide (x ∈ f) = rc rows x := by
      rw [Bool.eq_iff_iff, decide_eq_true_iff, rc_iff]
      exact h1 x
    rw [this] at hm
    refine ⟨[x0, x1, x2, x3, x4, x5, some (.f (.dict (tb enc rows))), x7, x8, some (.f (.str x)), x10, x11, x12, x13, x14], [x0, x1, x2, x3, x4, x5, some (.f (.dict (tb enc rows))), x7, x8, some (.f (.str x)), x10, x11, x12, x13, x14], rfl, ?_, ?_⟩
    · simp_arith [io_behind, e1, hm]
    · split
      · exact ⟨[x0, x1, x2, x3, x4, x5, some (.f (.dict (tb enc rows))), x7, x8, some (.f (.str x)), x10, x11, x12, x13, x14], rfl, rfl⟩
      · rfl
/-- those of some names that come round -/
theorem r_some (l m : List Str) (hl : l.length ≤ 100) (x0 x1 x2 x3 x4 x5 x6 x8 x9 x10 x11 x12 x13 x14 : Option W) :
    ∃ e', lcG [14] (gSet 14) (bCmp .In (oVar 14) (oVar 7)) (dOf (vFrz 14)) (l.map .str) [] [x0, x1, x2, x3, x4, x5, x6, some (.lst (m.map .str)), x8, x9, x10, x11, x12, x13, x14] =
      .ok ((l.filter fun y => decide (y ∈ m)).map .str) e' ∧ wipeE e' [14] = [x0, x1, x2, x3, x4, x5, x6, some (.lst (m.map .str)), x8, x9, x10, x11, x12, x13, none] :=
  lc_fil (own := [14]) (g := gSet 14) (e := [x0, x1, x2, x3, x4, x5, x6, some (.lst (m.map .str)), x8, x9, x10, x11, x12, x13, x14]) PyData.str (fun y => decide (y ∈ m)) PyData.str (by omega) fun x hx => by
    have hm := mem_strs x m
    refine ⟨[x0, x1, x2, x3, x4, x5, x6, some (.lst (m.map .str)), x8, x9, x10, x11, x12, x13, some (.f (.str x))], [x0, x1, x2, x3, x4, x5, x6, some (.lst (m.map .str)), x8, x9, x10, x11, x12, x13, some (.f (.str x))], rfl, ?_, ?_⟩
    · simp_arith [hm]
    · split
      · exact ⟨[x0, x1, x2, x3, x4, x5, x6, some (.lst (m.map .str)), x8, x9, x10, x11, x12, x13, some (.f (.str x))], rfl, rfl⟩
      · rfl
theorem r_l2 {b : Int} {ns : List Str} (hns : ns.length ≤ 20) {rows : List (Str × List (Int × Str))} (h : Bk b ns rows) {x : Str} (hx : x ∈ ns) {du : List Str} (hd : du.length ≤ 100) (x0 x1 x2 x3 x4 x5 x10 x11 x12 x13 x14 : Option W) :
    ∃ y12, b_law_2 [x0, x1, x2, x3, x4, x5, some (.f (.dict (tb enc rows))), some (.lst ((ns.filter (rc rows)).map .str)), some (.lst (du.map .str)), some (.f (.str x)), x10, x11, x12, x13, x14] =
      .ok .nx [x0, x1, x2, x3, x4, x5, some (.f (.dict (tb enc rows))), some (.lst ((ns.filter (rc rows)).map .str)), some (.lst ((du ++ if ec rows x = true then [x] else []).map .str)), some (.f (.str x)), x10, x11, y12, x13, jk x14] := by
  obtain ⟨f, e1, h1, h2⟩ := r_behind hns h hx
  have add : binop .Add (.list (f.map .str)) (.list [.str x]) = some (.lst ((f ++ [x]).map .str)) := by
    rw [bin_addl, if_pos (sizeOk_small (by simp; omega)), List.map_append]
    rfl
  obtain ⟨e2, q1, q2⟩ := r_some (f ++ [x]) (ns.filter (rc rows)) (by simp; omega) x0 x1 x2 x3 x4 x5 (some (.f (.dict (tb enc rows)))) (some (.lst (du.map .str))) (some (.f (.str x))) x10 x11 (some (.f (.list ((f ++ [x]).map .str)))) x13 (jk x14)
  have hnil := strs_nil ((f ++ [x]).filter fun y => decide (y ∈ ns.filter (rc rows)))
  have he : decide ((f ++ [x]).filter (fun y => decide (y ∈ ns.filter (rc rows))) = []) = !ec rows x := by
    have iff : (f ++ [x]).filter (fun y => decide (y ∈ ns.filter (rc rows))) = [] ↔ ¬ End rows x := by
      rw [List.filter_eq_nil_iff]
      constructor
      · rintro a ⟨y, h3, h4⟩
        refine a y ?_ (decide_eq_true (List.mem_filter.mpr ⟨beh_ns h h4, (rc_iff rows y).mpr h4⟩))
        rcases h3 with rfl | h3
        · simp
        · exact List.mem_append.mpr (.inl ((h1 y).mpr h3))
      · intro a y hy c
        have c := (List.mem_filter.mp (of_decide_eq_true c)).2
        refine a ⟨y, ?_, (rc_iff rows y).mp c⟩
        rcases List.mem_append.mp hy with z | z
        · exact .inr ((h1 y).mp z)
        · exact .inl (List.mem_singleton.mp z)
    cases hc : ec rows x with
    | true => exact decide_eq_false fun z => iff.mp z ((ec_iff rows x).mp hc)
    | false => exact decide_eq_true (iff.mpr fun z => by rw [(ec_iff rows x).mpr z] at hc; cases hc)
  rw [he] at hnil
  have hl : (du.map PyData.str).length < sizeLine := lt_line (by simp; omega)
  generalize ((f ++ [x]).filter fun y => decide (y ∈ ns.filter (rc rows))) = fl at *
  generalize (f ++ [x]).map PyData.str = bh at *
  generalize (ns.filter (rc rows)).map PyData.str = ro at *
  refine ⟨some (.f (.list bh)), ?_⟩
  unfold b_law_2
  cases hc : ec rows x with
  | true =>
    rw [hc] at hnil
    rw [if_pos rfl, List.map_append]
    simp_arith [io_behind, e1, add, q1, q2, hnil, hl]
  | false =>
    rw [hc] at hnil
    rw [if_neg (by simp), List.append_nil]
    simp_arith [io_behind, e1, add, q1, q2, hnil]
end K04

namespace K04
open PySem Z Y
local macro_rules | `(tactic| simp_arith [$ls,*]) => `(tactic| simp only [List.getD_cons_succ, List.getD_cons_zero, b_sum, b_any, b_all, in_cons, in_nil, bl_cons, bl_nil, uw_cons, uw_nil, wp_cons, wp_nil, fz_cons, fz_nil, ev_vLc, k1_vLc, lc0_ok, lc1_some, lc2, lc3, ev_vCon, ev_oCon, ev_dCon, ev_sNil, ev_sBrk, ev_sCnt, ev_sRetN, ev_dsNil, ev_osNil, ev_kvNil, ev_pNo, ev_vDct0, ev_bYes, ev_frz_some, ev_oVar, pk_some, ev_vFrz, pf_some, ev_vMove, pm_some, k1_dOf, ev_dOf, k1_oOf, ev_oOf, k1_vB, ev_vB, k2_vBin, k1_vBin, ev_vBin, k2_bCmp, k1_bCmp, ev_bCmp, k2_vIdx, k1_vIdx, ev_vIdx, k1_vRev, ev_vRev, k1_bNot, ev_bNot, k1_bTru, ev_bTru, k1_vIsi, ev_vIsi, k1_vBi, ev_vBi, k2_dsCons, k1_dsCons, ev_dsCons, k2_osCons, k1_osCons, ev_osCons, k3_kvCons, k2_kvCons, k1_kvCons, ev_kvCons, k1_vTup, ev_vTup, k1_vLst, ev_vLst, k1_vDct, ev_vDct, k3_vSlc, k2_vSlc, k1_vSlc, ev_vSlc, k1_pI, pIv_int, ev_pI, k1_vNeg, ngv_int, ev_vNeg, k1_bOf, bov_bool, ev_bOf, k1_bAnd, ev_bAnd, k1_bOr, ev_bOr, k1_vIf, ev_vIf, k1_sIf, ev_sIf, chv_t, chv_f, k2_bChn, k1_bChn, ev_bChn, sq_nx, sq_brk, sq_ct, sq_ret, ev_sSeq, k1_sSet, ev_sSet, k1_sEx, ev_sEx, k1_sRet, ev_sRet, bdv_some, k1_sBnd, ev_sBnd, ev_gSet, ev_gTupT, ev_gTupL, ev_gAll0, ev_gAll1, parv_2, k1_sPar, ev_sPar, wh_t, wh_f, wh_nx, wh_brk, wh_ret, fo_nx, fo_ct, fo_brk, fo_ret, fov_some, for_nil, k1_sFor, ev_sFor, iov_0, iov_1, iov_2, iov_3, k1_iOf, ev_iOf, r1_int, ev_iR1, r2_int, ev_iR2, en_l, ev_iEn, zp_l, zp_t, ev_iZp, ev_iVals, iva_d, ev_iItems, iit_d, k1_vIsiT, ev_vIsiT, k2_vMe, k1_vMe, ev_vMe, any_s, List.any_cons, List.any_nil, cl_ret, cl_exc, cl_some, k1_call, ev_mCall, k1_callP, ev_mCallP, clq_some, clp_b, clp_i, clp_s, clp_n, tk_nil, tk_lent, tkl_some, tk_frz, tkf_some, tk_dat, bk_lent, bk_f, bk_d, bk_nil, mk_nil, mk_cons, out_nx, out_ret, out_exc, ev_run, ev_io, put3_some, put2_some, k2_put, put1_some, k1_put, ev_sPut, app2_l, k1_app, app1_l, ev_vApp, vc1_l, ev_vClr, ve1_l, ve2_l, kx_l, ev_vExt, i3Add_int, i2Add, i1Add_int, ev_sAdd, i3Sub_int, i2Sub, i1Sub_int, ev_sSub, lk_inl, lk_inr, lks_nil, lks_cons, bind_ok, bind_exc, bind_bad, of_some, of_none, peek_nil, peek_zero, peek_zero', peek_succ, fz_f, fz_l, fz_d, bin_add, bin_sub, bin_mul, bin_fdiv, bin_mod, bin_pow, bin_adds, bin_addt, bin_addl, cmp_eq, cmp_ne, cmp_in, cmp_nin, cmp_lt, cmp_le, cmp_gt, cmp_ge, cmp_is, cmp_isn, isD_int, isD_bool, isD_str, isD_list, isD_tuple, isD_dict, tru_int, tru_bool, tru_none, tru_list, tru_tuple, item_l, item_t, put_l, eqD_int, eqD_bool, eqD_str, bind_some, map_some, bLen, bTup, bMax2, bMin2, bAbs, bInt, List.getElem?_cons_zero, List.getElem?_cons_succ, List.set_cons_zero, List.set_cons_succ, List.length_cons, List.length_nil, List.length_set, List.replicate_succ, List.replicate_zero, List.map_cons, List.map_nil, List.cons_append, List.nil_append, Option.map_some, Option.map_none, Option.bind_some, Option.bind_none, if_true, if_false, Bool.not_true, Bool.not_false, Bool.false_eq_true, Bool.true_eq_false, reduceIte, Nat.reduceAdd, Nat.reduceSub, Nat.reduceLT, Nat.reduceLeDiff, Nat.reduceEqDiff, decide_true, decide_false, Int.reduceNeg, ne_eq, not_true_eq_false, not_false_eq_true, Nat.zero_lt_succ, Nat.lt_add_one, and_self, and_true, true_and, Bool.true_and, Bool.false_and, Bool.and_true, Bool.or_true, Bool.or_false, Bool.true_or, Bool.false_or, sizeOk_small, Int.cast_ofNat_Int, Int.reduceBEq, Int.reduceLT, Int.reduceLE, Int.reduceEq, lt_line, Option.getD_some, BEq.rfl, List.all_cons, List.all_nil, List.any_cons, List.any_nil, id_eq, Y.tyn_l, Y.tyn_s, Y.tyn_d, Y.in_ll, Y.in_tl, Y.jk_peek, dc_nil, dc_cons, dc1_some, dc2, dc2b, dc3, dc0_ok, k1_vDc, ev_vDc, ev_vSd, sd1_d, k1_sd, sd2_d, sd3_s, sd3_n, ev_vDp, dp1_d, k1_vDp, dp2_d, dp3_s, k1_vLr, ev_vLr, lrv_i, k1_vItL, ev_vItL, itv_d, lc_cons, lc_nil, $ls,*])
open Ek (enc)
theorem io_live : f_live.io = [false] := rfl
theorem io_names : f_law_names.io = [true, false] := rfl
theorem io_book : f_law_book.io = [true, false, false, false] := rfl
theorem io_chain : f_law_chain.io = [true, false, false] := rfl
theorem sa_strs {l : List Str} (h : l.length ≤ 1000000) : sa 8 (.list (l.map .str)) = true := by
  simp only [sa, Bool.and_eq_true, decide_eq_true_eq, List.length_map]
  refine ⟨h, saAll_of fun x hx => ?_⟩
  obtain ⟨y, _, rfl⟩ := List.mem_map.mp hx
  rfl
theorem r_l1 {bk : PyData} {D : List Str} (hD : D.length ≤ 100) {s : Str} (hs : bRepr [bk] = some (.f (.str s))) (hl : f_live.run [.f bk] = .ret (.lst (D.map .str)) [none]) (x0 x1 x2 x3 x4 x6 x7 x9 x11 x12 x13 x14 : Option W) :
    b_law_1 [x0, x1, x2, x3, x4, some (.f bk), x6, x7, some (.lst (D.map .str)), x9, some (.f (.str s)), x11, x12, x13, x14] =
      .ok .nx [x0, x1, x2, x3, x4, some (.f bk), x6, x7, some (.lst (D.map .str)), x9, some (.f (.str s)), x11, x12, some (.lst (D.map .str ++ [.str ""])), x14] := by
  have hsame := same_self 8 _ (sa_strs (l := D) (by omega))
  have hlen : (D.map PyData.str).length < sizeLine := lt_line (by simp; omega)
  generalize D.map PyData.str = l at *
  unfold b_law_1
  simp_arith [io_live, hl, io_law_same, hsame, hs, hlen, beq_self_eq_true]
/-- the rest of a turn -/
theorem r_rest {b : Int} (hb : 1 < b) (hb2 : b ≤ 10) {ns : List Str} (hns : ns.length ≤ 20) (hn : Nms ns) {rows : List (Str × List (Int × Str))} (h : Bk b ns rows) (x0 x1 x2 x3 x6 x7 x8 x9 x10 x11 x12 x13 x14 : Option W) :
    ∃ y6 y7 y8 y9 y10 y11 y12 y13 y14, (sSeq (sSet 6 (vIdx (oVar 5) (oCon (.int 1)))) (sSeq (sSet 7 (vLc [9] (gSet 9) (iOf (dOf (vFrz 4))) (bCmp .In (oVar 9) (oOf (mCall f_law_behind (osCons (oVar 6) (osCons (oVar 9) osNil))))) (dOf (vFrz 9)))) (sSeq (sSet 8 (vLst dsNil)) (sSeq (sFor (gSet 9) (iOf (dOf (vBi bSorted (osCons (oVar 4) osNil)))) b_law_2) (sSeq (sSet 10 (vBi bRepr (osCons (oVar 5) osNil))) (sSeq (sFor (gSet 11) (iR1 (dsCons (dCon (.int 2)) dsNil)) b_law_1) sNil)))))) [x0, x1, x2, x3, some (.f (.list (ns.map .str))), some (.f (.tuple [.int b, .dict (tb enc rows)])), x6, x7, x8, x9, x10, x11, x12, x13, x14] =
      .ok .nx [x0, x1, x2, x3, some (.f (.list (ns.map .str))), some (.f (.tuple [.int b, .dict (tb enc rows)])), y6, y7, y8, y9, y10, y11, y12, y13, y14] := by
  obtain ⟨e1, a1, a2⟩ := r_round hns h x0 x1 x2 x3 (some (.f (.list (ns.map .str)))) (some (.f (.tuple [.int b, .dict (tb enc rows)]))) x7 x8 (jk x9) x10 x11 x12 x13 x14
  have hsort := bS_strs (l := ns) (by omega)
  have sp := sortS_perm ns
  have hbk : (PyData.tuple [.int b, .dict (tb enc rows)]) = .tuple [.int b, .dict (tb enc rows)] := rfl
  generalize hbook : (PyData.tuple [.int b, .dict (tb enc rows)]) = bk at *
  obtain ⟨e2, q, z12, z9, z14, rfl⟩ := forG_all (g := gSet 9) (b := b_law_2)
    (fun i e => ∃ (z12 z9 z14 : Option W), e = [x0, x1, x2, x3, some (.f (.list (ns.map .str))), some (.f bk), some (.f (.dict (tb enc rows))), some (.lst ((ns.filter (rc rows)).map .str)), some (.lst ((((sortS ns).take i).filter (ec rows)).map .str)), z9, x10, x11, z12, x13, z14])
    (l := (sortS ns).map .str) (n := 0) (e := [x0, x1, x2, x3, some (.f (.list (ns.map .str))), some (.f bk), some (.f (.dict (tb enc rows))), some (.lst ((ns.filter (rc rows)).map .str)), some (.lst []), jk x9, x10, x11, x12, x13, x14])
    ⟨_, _, _, rfl⟩ (fun i x hx e he => by
      obtain ⟨z12, z9, z14, rfl⟩ := he
      rw [List.getElem?_map] at hx
      obtain ⟨y, hy, rfl⟩ := Option.map_eq_some_iff.mp hx
      have hm : y ∈ ns := sp.mem_iff.mp (List.mem_of_getElem? hy)
      rw [Nat.zero_add]
      obtain ⟨y12, r⟩ := r_l2 hns h hm (du := ((sortS ns).take i).filter (ec rows)) (by
        have := List.length_filter_le (ec rows) ((sortS ns).take i)
        have h2 := sp.length_eq
        rw [List.length_take] at this
        omega) x0 x1 x2 x3 (some (.f (.list (ns.map .str)))) (some (.f bk)) x10 x11 z12 x13 z14
      refine ⟨_, .nx, _, rfl, r, .inl rfl, y12, some (.f (.str y)), jk z14, ?_⟩
      rw [take_snoc hy, List.filter_append]
      cases hc : ec rows y <;> simp [hc])
  rw [Nat.zero_add, List.length_map, List.take_length] at q
  obtain ⟨S, l1, l2, l3⟩ := r_live hb hb2 h hn.nd hns
  rw [las_perm hn.nd h l2 l3 (c := ec rows) (fun x _ => ec_iff rows x)] at l1
  obtain ⟨s, hs⟩ := repr_book hb hb2 hns hn.nm h
  rw [hbook] at l1 hs
  have hD : ((sortS ns).filter (ec rows)).length ≤ 100 := by
    have := List.length_filter_le (ec rows) (sortS ns)
    have h2 := sp.length_eq
    omega
  obtain ⟨e3, q3, z11, z13, rfl⟩ := forG_all (g := gSet 11) (b := b_law_1)
    (fun _ e => ∃ (z11 z13 : Option W), e = [x0, x1, x2, x3, some (.f (.list (ns.map .str))), some (.f bk), some (.f (.dict (tb enc rows))), some (.lst ((ns.filter (rc rows)).map .str)), some (.lst (((sortS ns).filter (ec rows)).map .str)), z9, some (.f (.str s)), z11, z12, z13, z14])
    (l := rangeD 0 2) (n := 0) (e := [x0, x1, x2, x3, some (.f (.list (ns.map .str))), some (.f bk), some (.f (.dict (tb enc rows))), some (.lst ((ns.filter (rc rows)).map .str)), some (.lst (((sortS ns).filter (ec rows)).map .str)), z9, some (.f (.str s)), x11, z12, x13, z14])
    ⟨_, _, rfl⟩ (fun i x hx e he => by
      obtain ⟨z11, z13, rfl⟩ := he
      exact ⟨_, .nx, _, rfl, r_l1 hD hs l1 x0 x1 x2 x3 _ _ _ z9 _ z12 z13 z14, .inl rfl, _, _, rfl⟩)
  have hi : item bk (.int 1) = some (.dict (tb enc rows)) := by rw [← hbook]; rfl
  have s2 : small62 2 = true := by decide
  have t2 : (2 : Int).toNat = 2 := rfl
  refine ⟨some (.f (.dict (tb enc rows))), some (.lst ((ns.filter (rc rows)).map .str)), some (.lst (((sortS ns).filter (ec rows)).map .str)), z9, some (.f (.str s)), z11, z12, z13, z14, ?_⟩
  generalize (ns.filter (rc rows)).map PyData.str = ro at *
  generalize ((sortS ns).filter (ec rows)).map PyData.str = du at *
  generalize (sortS ns).map PyData.str = so at *
  generalize tb enc rows = tbr at *
  simp_arith [hi, a1, a2, hsort, q, hs, s2, t2, q3, -bSorted, -bRepr]
theorem r_l3 {n : Nat} {w : W} (hw : Pen n w) (hn : n < 80000) (x0 x2 x3 x4 x5 x6 x7 x8 x9 x10 x11 x12 x13 x14 : Option W) :
    ∃ w' y3 y4 y5 y6 y7 y8 y9 y10 y11 y12 y13 y14, b_law_3 [x0, some w, x2, x3, x4, x5, x6, x7, x8, x9, x10, x11, x12, x13, x14] = .ok .nx [x0, some w', x2, y3, y4, y5, y6, y7, y8, y9, y10, y11, y12, y13, y14] ∧ Pen (n + 2000) w' := by
  obtain ⟨v, w1, e1, a1, b1, p1⟩ := r_take hw (by omega) (m := 9) (by decide) (by decide)
  obtain ⟨b, hb0⟩ : ∃ b, 2 + v = b := ⟨_, rfl⟩
  have hb : 1 < b := by omega
  have hb2 : b ≤ 10 := by omega
  obtain ⟨u, w2, e2, a2, b2, p2⟩ := r_take p1 (by omega) (m := 6) (by decide) (by decide)
  obtain ⟨k, hk⟩ := Int.eq_ofNat_of_zero_le (a := 1 + u) (by omega)
  have hk : 1 + u = (k : Int) := hk
  obtain ⟨ns, w3, e3, nl, nn, p3⟩ := r_law_names p2 (by omega) (many := k) (by omega)
  rw [← hk] at e3
  obtain ⟨i, w4, e4, a4, b4, p4⟩ := r_take p3 (by omega) (m := 3) (by decide) (by decide)
  obtain ⟨most, m0, m1, em⟩ : ∃ most : Int, 0 ≤ most ∧ most ≤ 12 ∧ item (.list [.int 1, .int 2, .int 12]) (.int i) = some (.int most) := by
    have : i = 0 ∨ i = 1 ∨ i = 2 := by omega
    rcases this with rfl | rfl | rfl
    · exact ⟨1, by decide, by decide, rfl⟩
    · exact ⟨2, by decide, by decide, rfl⟩
    · exact ⟨12, by decide, by decide, rfl⟩
  obtain ⟨rows, w5, e5, bk, p5⟩ := r_law_book p4 (by omega) hb hb2 nn.nd (by omega) m0 m1
  obtain ⟨j, w6, e6, a6, b6, p6⟩ := r_take p5 (by omega) (m := 3) (by decide) (by decide)
  obtain ⟨f1, q1⟩ := pen_fz hw
  obtain ⟨f2, q2⟩ := pen_fz p1
  obtain ⟨f3, q3⟩ := pen_fz p2
  obtain ⟨f4, q4⟩ := pen_fz p3
  obtain ⟨f5, q5⟩ := pen_fz p4
  obtain ⟨f6, q6⟩ := pen_fz p5
  by_cases hj : j = 0
  · subst hj
    obtain ⟨rows2, w7, e7, bk2, p7⟩ := r_chain p6 (by omega) hb hb2 nn.nd (by omega)
    obtain ⟨f7, q7⟩ := pen_fz p6
    obtain ⟨y6, y7, y8, y9, y10, y11, y12, y13, y14, e8⟩ := r_rest hb hb2 (by omega) nn bk2 x0 (some w7) x2 (some (.f (.int b))) x6 x7 x8 x9 x10 x11 x12 x13 x14
    refine ⟨w7, some (.f (.int b)), some (.f (.list (ns.map .str))), some (.f (.tuple [.int b, .dict (tb enc rows2)])), y6, y7, y8, y9, y10, y11, y12, y13, y14, ?_, pen_le p7 (by omega)⟩
    · have z0 : ((0 : Int) == 0) = true := rfl
      generalize (PyData.tuple [.int b, .dict (tb enc rows)]) = bk1 at *
      generalize (PyData.tuple [.int b, .dict (tb enc rows2)]) = bk2 at *
      unfold b_law_3
      generalize (sSeq (sSet 6 (vIdx (oVar 5) (oCon (.int 1)))) _) = rest at *
      simp_arith [io_pen_take, io_names, io_book, io_chain, e1, q1, hb0, e2, q2, e3, q3, e4, q4, em, e5, q5, e6, q6, z0, e7, q7, e8]
  · have z0 : (j == 0) = false := by simpa using hj
    obtain ⟨y6, y7, y8, y9, y10, y11, y12, y13, y14, e8⟩ := r_rest hb hb2 (by omega) nn bk x0 (some w6) x2 (some (.f (.int b))) x6 x7 x8 x9 x10 x11 x12 x13 x14
    refine ⟨w6, some (.f (.int b)), some (.f (.list (ns.map .str))), some (.f (.tuple [.int b, .dict (tb enc rows)])), y6, y7, y8, y9, y10, y11, y12, y13, y14, ?_, pen_le p6 (by omega)⟩
    · generalize (PyData.tuple [.int b, .dict (tb enc rows)]) = bk1 at *
      unfold b_law_3
      generalize (sSeq (sSet 6 (vIdx (oVar 5) (oCon (.int 1)))) _) = rest at *
      simp_arith [io_pen_take, io_names, io_book, io_chain, e1, q1, hb0, e2, q2, e3, q3, e4, q4, em, e5, q5, e6, q6, z0, e8]
theorem lawZ : LawZ 63 f_law := by
  refine ⟨rfl, fun ns hns => ?_⟩
  obtain ⟨w, e1, hp⟩ := r_open (ints_map ns)
  obtain ⟨ea, q1, w1, y2, y3, y4, y5, y6, y7, y8, y9, y10, y11, y12, y13, y14, rfl, pw⟩ := forG_all (g := gSet 2) (b := b_law_3)
    (fun i e => ∃ w y2 y3 y4 y5 y6 y7 y8 y9 y10 y11 y12 y13 y14, e = [some (.f (.list (ns.map .int))), some w, y2, y3, y4, y5, y6, y7, y8, y9, y10, y11, y12, y13, y14] ∧ Pen (0 + 2000 * i) w)
    (l := rangeD 0 8) (n := 0) (e := [some (.f (.list (ns.map .int))), some w, none, none, none, none, none, none, none, none, none, none, none, none, none])
    ⟨_, _, _, _, _, _, _, _, _, _, _, _, _, _, rfl, hp⟩ (by
      intro i x hx e he
      obtain ⟨w, y2, y3, y4, y5, y6, y7, y8, y9, y10, y11, y12, y13, y14, rfl, pw⟩ := he
      obtain ⟨hi, rfl⟩ := rangeD_at hx
      obtain ⟨w', z3, z4, z5, z6, z7, z8, z9, z10, z11, z12, z13, z14, e1, p1⟩ := r_l3 pw (by omega) (some (.f (.list (ns.map .int)))) (some (.f (.int (0 + (i : Int))))) y3 y4 y5 y6 y7 y8 y9 y10 y11 y12 y13 y14
      exact ⟨_, _, _, rfl, e1, .inl rfl, w', _, _, _, _, _, _, _, _, _, _, _, _, _, rfl, pen_le p1 (by omega)⟩)
  have s8 : small62 8 = true := by decide
  have t8 : (8 : Int).toNat = 8 := rfl
  refine ⟨[none], ?_⟩
  unfold f_law b_law
  simp_arith [ev_run, io_pen_open, e1, s8, t8, q1]
end K04

namespace K04
open PySem PySem.Spec PyProof.Rows L2 Z Y
section
theorem all_mk {P : Program} {w : World} {K : PySem.W.Frag} {h : Heap} {mg : Str → Option Value} {fa q0 q1 q2 q3 q4 q5 q6 q7 q8 q9 q10 q11 : Addr} (X : K.In h) (G : h.Ns mainGlobals mg) (hfa : mg "law" = some (.ref fa))
    {od0 an0 od1 an1 od2 an2 od3 an3 od4 an4 od5 an5 od6 an6 od7 an7 od8 an8 od9 an9 od10 an10 od11 an11 : Option Addr} {sl0 sl1 sl2 sl3 sl4 sl5 sl6 sl7 sl8 sl9 sl10 sl11 : Array (Option Value)} {oc0 kV0 dc0 pm0 cd0 ct0 oc1 kV1 dc1 pm1 cd1 ct1 oc2 kV2 dc2 pm2 cd2 ct2 oc3 kV3 dc3 pm3 cd3 ct3 oc4 kV4 dc4 pm4 cd4 ct4 oc5 kV5 dc5 pm5 cd5 ct5 oc6 kV6 dc6 pm6 cd6 ct6 oc7 kV7 dc7 pm7 cd7 ct7 oc8 kV8 dc8 pm8 cd8 ct8 oc9 kV9 dc9 pm9 cd9 ct9 oc10 kV10 dc10 pm10 cd10 ct10 oc11 kV11 dc11 pm11 cd11 ct11 : Value}
    (a0 : PySem.W.nsIn K mainGlobals "lasting" = some (some (.ref q0))) (l0 : K.lookup q0 = some ⟨oc0, od0, .func (PySem.W.fnOf "lasting" "lasting" (defArgs s_lasting) (defBody s_lasting) (defScope s_lasting) .none kV0 dc0 pm0 an0 cd0 ct0), sl0⟩) (c0 : PySem.W.codeIn K cd0 "lasting" = true) (k0 : PySem.W.keepIn K (.ref q0) = true)
    (a1 : PySem.W.nsIn K mainGlobals "live" = some (some (.ref q1))) (l1 : K.lookup q1 = some ⟨oc1, od1, .func (PySem.W.fnOf "live" "live" (defArgs s_live) (defBody s_live) (defScope s_live) .none kV1 dc1 pm1 an1 cd1 ct1), sl1⟩) (c1 : PySem.W.codeIn K cd1 "live" = true) (k1 : PySem.W.keepIn K (.ref q1) = true)
    (a2 : PySem.W.nsIn K mainGlobals "_law_spread" = some (some (.ref q2))) (l2 : K.lookup q2 = some ⟨oc2, od2, .func (PySem.W.fnOf "_law_spread" "_law_spread" (defArgs s_pen_spread) (defBody s_pen_spread) (defScope s_pen_spread) .none kV2 dc2 pm2 an2 cd2 ct2), sl2⟩) (c2 : PySem.W.codeIn K cd2 "_law_spread" = true) (k2 : PySem.W.keepIn K (.ref q2) = true)
    (a3 : PySem.W.nsIn K mainGlobals "_law_open" = some (some (.ref q3))) (l3 : K.lookup q3 = some ⟨oc3, od3, .func (PySem.W.fnOf "_law_open" "_law_open" (defArgs s_pen_open) (defBody s_pen_open) (defScope s_pen_open) .none kV3 dc3 pm3 an3 cd3 ct3), sl3⟩) (c3 : PySem.W.codeIn K cd3 "_law_open" = true) (k3 : PySem.W.keepIn K (.ref q3) = true)
    (a4 : PySem.W.nsIn K mainGlobals "_law_take" = some (some (.ref q4))) (l4 : K.lookup q4 = some ⟨oc4, od4, .func (PySem.W.fnOf "_law_take" "_law_take" (defArgs s_pen_take) (defBody s_pen_take) (defScope s_pen_take) .none kV4 dc4 pm4 an4 cd4 ct4), sl4⟩) (c4 : PySem.W.codeIn K cd4 "_law_take" = true) (k4 : PySem.W.keepIn K (.ref q4) = true)
    (a5 : PySem.W.nsIn K mainGlobals "_law_same" = some (some (.ref q5))) (l5 : K.lookup q5 = some ⟨oc5, od5, .func (PySem.W.fnOf "_law_same" "_law_same" (defArgs s_law_same) (defBody s_law_same) (defScope s_law_same) .none kV5 dc5 pm5 an5 cd5 ct5), sl5⟩) (c5 : PySem.W.codeIn K cd5 "_law_same" = true) (k5 : PySem.W.keepIn K (.ref q5) = true)
    (a6 : PySem.W.nsIn K mainGlobals "_law_names" = some (some (.ref q6))) (l6 : K.lookup q6 = some ⟨oc6, od6, .func (PySem.W.fnOf "_law_names" "_law_names" (defArgs s_law_names) (defBody s_law_names) (defScope s_law_names) .none kV6 dc6 pm6 an6 cd6 ct6), sl6⟩) (c6 : PySem.W.codeIn K cd6 "_law_names" = true) (k6 : PySem.W.keepIn K (.ref q6) = true)
    (a7 : PySem.W.nsIn K mainGlobals "_law_row" = some (some (.ref q7))) (l7 : K.lookup q7 = some ⟨oc7, od7, .func (PySem.W.fnOf "_law_row" "_law_row" (defArgs s_law_row) (defBody s_law_row) (defScope s_law_row) .none kV7 dc7 pm7 an7 cd7 ct7), sl7⟩) (c7 : PySem.W.codeIn K cd7 "_law_row" = true) (k7 : PySem.W.keepIn K (.ref q7) = true)
    (a8 : PySem.W.nsIn K mainGlobals "_law_book" = some (some (.ref q8))) (l8 : K.lookup q8 = some ⟨oc8, od8, .func (PySem.W.fnOf "_law_book" "_law_book" (defArgs s_law_book) (defBody s_law_book) (defScope s_law_book) .none kV8 dc8 pm8 an8 cd8 ct8), sl8⟩) (c8 : PySem.W.codeIn K cd8 "_law_book" = true) (k8 : PySem.W.keepIn K (.ref q8) = true)
    (a9 : PySem.W.nsIn K mainGlobals "_law_behind" = some (some (.ref q9))) (l9 : K.lookup q9 = some ⟨oc9, od9, .func (PySem.W.fnOf "_law_behind" "_law_behind" (defArgs s_law_behind) (defBody s_law_behind) (defScope s_law_behind) .none kV9 dc9 pm9 an9 cd9 ct9), sl9⟩) (c9 : PySem.W.codeIn K cd9 "_law_behind" = true) (k9 : PySem.W.keepIn K (.ref q9) = true)
    (a10 : PySem.W.nsIn K mainGlobals "_law_chain" = some (some (.ref q10))) (l10 : K.lookup q10 = some ⟨oc10, od10, .func (PySem.W.fnOf "_law_chain" "_law_chain" (defArgs s_law_chain) (defBody s_law_chain) (defScope s_law_chain) .none kV10 dc10 pm10 an10 cd10 ct10), sl10⟩) (c10 : PySem.W.codeIn K cd10 "_law_chain" = true) (k10 : PySem.W.keepIn K (.ref q10) = true)
    (a11 : PySem.W.nsIn K mainGlobals "law" = some (some (.ref q11))) (l11 : K.lookup q11 = some ⟨oc11, od11, .func (PySem.W.fnOf "law" "law" (defArgs s_law) (defBody s_law) (defScope s_law) .none kV11 dc11 pm11 an11 cd11 ct11), sl11⟩) (c11 : PySem.W.codeIn K cd11 "law" = true) (k11 : PySem.W.keepIn K (.ref q11) = true)
    (z_any : PySem.W.nsIn K mainGlobals "any" = some none)
    (z_bool : PySem.W.nsIn K mainGlobals "bool" = some none)
    (z_dict : PySem.W.nsIn K mainGlobals "dict" = some none)
    (z_enumerate : PySem.W.nsIn K mainGlobals "enumerate" = some none)
    (z_int : PySem.W.nsIn K mainGlobals "int" = some none)
    (z_isinstance : PySem.W.nsIn K mainGlobals "isinstance" = some none)
    (z_len : PySem.W.nsIn K mainGlobals "len" = some none)
    (z_list : PySem.W.nsIn K mainGlobals "list" = some none)
    (z_range : PySem.W.nsIn K mainGlobals "range" = some none)
    (z_repr : PySem.W.nsIn K mainGlobals "repr" = some none)
    (z_sorted : PySem.W.nsIn K mainGlobals "sorted" = some none)
    (z_str : PySem.W.nsIn K mainGlobals "str" = some none)
    (z_tuple : PySem.W.nsIn K mainGlobals "tuple" = some none)
    (z_zip : PySem.W.nsIn K mainGlobals "zip" = some none)
    : ∃ fd : FuncData, (∀ (s : Shared) (v : Value), BindsTo s fd ⟨[v], []⟩ [("script", v)]) ∧ ∀ base : Heap, K.In base → base.Ns mainGlobals mg → FnZ P w K mg base 9 fa fd ["script"] f_law := by
  have e := hfa.symm.trans (PySem.W.mg_of X G a11)
  cases e
  have F0 := fun_mk (st := s_lasting) l0 c0 k0
  have F1 := fun_mk (st := s_live) l1 c1 k1
  have F2 := fun_mk (st := s_pen_spread) l2 c2 k2
  have F3 := fun_mk (st := s_pen_open) l3 c3 k3
  have F4 := fun_mk (st := s_pen_take) l4 c4 k4
  have F5 := fun_mk (st := s_law_same) l5 c5 k5
  have F6 := fun_mk (st := s_law_names) l6 c6 k6
  have F7 := fun_mk (st := s_law_row) l7 c7 k7
  have F8 := fun_mk (st := s_law_book) l8 c8 k8
  have F9 := fun_mk (st := s_law_behind) l9 c9 k9
  have F10 := fun_mk (st := s_law_chain) l10 c10 k10
  have F11 := fun_mk (st := s_law) l11 c11 k11
  refine ⟨PySem.W.fnOf "law" "law" (defArgs s_law) (defBody s_law) (defScope s_law) .none kV11 dc11 pm11 an11 cd11 ct11, fun s v => .of_eq rfl, fun base _ _ => ?_⟩
  have e0 := ok_lasting (P := P) (w := w) (base := base) F0 (PySem.W.mg_of X G a0)  (PySem.W.mg_none_of X G z_len) (PySem.W.mg_none_of X G z_any)
  have e1 := ok_live (P := P) (w := w) (base := base) F1 (PySem.W.mg_of X G a1) e0 (PySem.W.mg_none_of X G z_sorted) (PySem.W.mg_none_of X G z_list) (PySem.W.mg_none_of X G z_range)
  have e2 := ok_pen_spread (P := P) (w := w) (base := base) F2 (PySem.W.mg_of X G a2)
  have e3 := ok_pen_open (P := P) (w := w) (base := base) F3 (PySem.W.mg_of X G a3)  (PySem.W.mg_none_of X G z_enumerate) (PySem.W.mg_none_of X G z_list)
  have e4 := ok_pen_take (P := P) (w := w) (base := base) F4 (PySem.W.mg_of X G a4) e2 (PySem.W.mg_none_of X G z_len)
  have e5 := ok_law_same (P := P) (w := w) (base := base) F5 (PySem.W.mg_of X G a5)  (PySem.W.mg_none_of X G z_zip) (PySem.W.mg_none_of X G z_len) (PySem.W.mg_none_of X G z_isinstance) (PySem.W.mg_none_of X G z_tuple) (PySem.W.mg_none_of X G z_list) (PySem.W.mg_none_of X G z_int) (PySem.W.mg_none_of X G z_str) (PySem.W.mg_none_of X G z_bool)  8
  have e6 := ok_law_names (P := P) (w := w) (base := base) F6 (PySem.W.mg_of X G a6) e4 (PySem.W.mg_none_of X G z_range) (PySem.W.mg_none_of X G z_len)
  have e7 := ok_law_row (P := P) (w := w) (base := base) F7 (PySem.W.mg_of X G a7) e4 (PySem.W.mg_none_of X G z_tuple) (PySem.W.mg_none_of X G z_sorted) (PySem.W.mg_none_of X G z_range) (PySem.W.mg_none_of X G z_len)
  have e8 := ok_law_book (P := P) (w := w) (base := base) F8 (PySem.W.mg_of X G a8) e7 e4 (PySem.W.mg_none_of X G z_tuple) (PySem.W.mg_none_of X G z_sorted) (PySem.W.mg_none_of X G z_dict) (PySem.W.mg_none_of X G z_range) (PySem.W.mg_none_of X G z_len)
  have e9 := ok_law_behind (P := P) (w := w) (base := base) F9 (PySem.W.mg_of X G a9)
  have e10 := ok_law_chain (P := P) (w := w) (base := base) F10 (PySem.W.mg_of X G a10) e4 (PySem.W.mg_none_of X G z_enumerate) (PySem.W.mg_none_of X G z_tuple) (PySem.W.mg_none_of X G z_len)
  exact ok_law F11 e5 e1 e9 e4 e10 e8 e6 e3 (PySem.W.mg_none_of X G z_range) (PySem.W.mg_none_of X G z_repr) (PySem.W.mg_none_of X G z_sorted)
end
end K04
open PySem PySem.W PyProof.Rows
set_option maxHeartbeats 0 in
theorem PySem.Challenge.cw_dustwithin_k04_names_with_endless_ways_holds : PySem.Challenge.rw_dustwithin_k04_names_with_endless_ways.Holds := by
  w_on; o_law; k_head; (case hw => w_witness2)
  k_fill
  refine Z.z_walk (l := PySem.Challenge.rw_dustwithin_k04_names_with_endless_ways) (n := 63) (k := 9) (x := "script") (fu := K04.f_law) K04.lawZ rfl (by decide) rfl ⟨rfl, by decide, by decide⟩ (fun w h Y => PySem.W.kIn_of Y) ?F
  case F =>
    intro w mg fa h KX G hmg
    refine' K04.all_mk KX G hmg ?a0 ?l0 ?c0 ?k0 ?a1 ?l1 ?c1 ?k1 ?a2 ?l2 ?c2 ?k2 ?a3 ?l3 ?c3 ?k3 ?a4 ?l4 ?c4 ?k4 ?a5 ?l5 ?c5 ?k5 ?a6 ?l6 ?c6 ?k6 ?a7 ?l7 ?c7 ?k7 ?a8 ?l8 ?c8 ?k8 ?a9 ?l9 ?c9 ?k9 ?a10 ?l10 ?c10 ?k10 ?a11 ?l11 ?c11 ?k11 ?z_any ?z_bool ?z_dict ?z_enumerate ?z_int ?z_isinstance ?z_len ?z_list ?z_range ?z_repr ?z_sorted ?z_str ?z_tuple ?z_zip
    (case a0 => k_is); (case l0 => k_is); (case c0 => k_is); (case k0 => k_is); (case a1 => k_is); (case l1 => k_is); (case c1 => k_is); (case k1 => k_is); (case a2 => k_is); (case l2 => k_is); (case c2 => k_is); (case k2 => k_is); (case a3 => k_is); (case l3 => k_is); (case c3 => k_is); (case k3 => k_is); (case a4 => k_is); (case l4 => k_is); (case c4 => k_is); (case k4 => k_is); (case a5 => k_is); (case l5 => k_is); (case c5 => k_is); (case k5 => k_is); (case a6 => k_is); (case l6 => k_is); (case c6 => k_is); (case k6 => k_is); (case a7 => k_is); (case l7 => k_is); (case c7 => k_is); (case k7 => k_is); (case a8 => k_is); (case l8 => k_is); (case c8 => k_is); (case k8 => k_is); (case a9 => k_is); (case l9 => k_is); (case c9 => k_is); (case k9 => k_is); (case a10 => k_is); (case l10 => k_is); (case c10 => k_is); (case k10 => k_is); (case a11 => k_is); (case l11 => k_is); (case c11 => k_is); (case k11 => k_is); (case z_any => k_is); (case z_bool => k_is); (case z_dict => k_is); (case z_enumerate => k_is); (case z_int => k_is); (case z_isinstance => k_is); (case z_len => k_is); (case z_list => k_is); (case z_range => k_is); (case z_repr => k_is); (case z_sorted => k_is); (case z_str => k_is); (case z_tuple => k_is); (case z_zip => k_is)

