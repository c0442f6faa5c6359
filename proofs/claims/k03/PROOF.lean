import PyProof.Rows.All
import Wide.All
import OpenK.AllK
import Wide.FinOn
import HandS.ForMost
import HandS.Lambda
import HandS.ForExc
import HandS.DictComp
import HandS.TupAny
import HandS.IsInst
import HandS.RaiseMore
import HandS.Flow
import HandS.Property
import HandS.ExcField
import HandS.HeadWalk
import HandS.Defaults
import KE.KCallOwn
import HandS.More
import HandS.SlotsOwn
import HandS.Nested
import HandS.Style
import KE.KExcSuper
import HandS.HeadEnd
import HandS.HeadHook4
import HandS.Head2
import PySem.Challenge.RW_headerworlds_k03_conditions_that_hold
set_option Elab.async false
set_option linter.all false
set_option autoImplicit false
set_option maxRecDepth 100000
namespace Dv
open PySem

/-- a value; ref: an object of the run's own; fn, cls: a def, a class of the text by its name; con: a constant object of the text by its path -/
inductive Vv where
  | non | bl (b : Bool) | int (i : Int) | str (x : Str) | ref (i : Nat) | fn (x : Str) | cls (x : Str) | ty (n : String) | con (x : Str)
  deriving DecidableEq, Inhabited
/-- built-in functions and types that are called -/
inductive Bf where
  | len | isinst | int | str | bool | abs | min | max | all | any | repr | list | tuple | sum | sorted | dict
  deriving DecidableEq
/-- methods of built-in types -/
inductive Mf where
  | append | split | join | pop | extend | get | items | keys | values | setdefault | index | find | startswith | endswith
  deriving DecidableEq

/-- a call with keywords: how many values stand ahead, the names behind, the parameters that lack with their defaults; what each parameter gets: a given value, or a default -/
structure Kp where
  n : Nat
  ks : List Str
  ms : List (Str × Vv)
  arr : List (Nat ⊕ Nat)
  deriving DecidableEq
def arrG {α : Type} (z : α) (arr : List (Nat ⊕ Nat)) (vs ds : List α) : List α := arr.map fun
  | .inl i => vs.getD i z
  | .inr j => ds.getD j z
mutual
/-- expressions by slots -/
inductive Ex where
  | var (i : Nat)
  | cst (v : Vv)
  | bin (op : Operator) (a b : Ex)
  | neg (a : Ex)
  | cmp (op : CmpOp) (a b : Ex)
  | chain (op op' : CmpOp) (a b c : Ex)
  | and (a b : Ex)
  | or (a b : Ex)
  | not (a : Ex)
  | ite (c : Tt) (a b : Ex)
  | attr (a : Ex) (f : Str)
  | idx (a b : Ex)
  | slc (a lo hi : Ex)
  | noe
  | dnew
  | tup (es : Exs)
  | lst (es : Exs)
  | call (f : Str) (es : Exs)
  | mk (c : Str) (es : Exs)
  | meth (a : Ex) (m : Str) (es : Exs)
  | bf (f : Bf) (es : Exs)
  | bm (a : Ex) (m : Mf) (es : Exs)
  | cv (i : Nat) (es : Exs)
  | lc (e : Ex) (own : List Nat) (tg : List Nat) (it : It) (cd : Tt)
  | lc2 (e : Ex) (own : List Nat) (tg : List Nat) (it : It) (cd : Tt) (tg1 : List Nat) (it1 : It) (cd1 : Tt)
  | lam (N : List Str) (e : Ex)
  | callk (f : Str) (p : Kp) (es ks : Exs)
  | mkk (c : Str) (p : Kp) (es ks : Exs)
  | cmpo (op : CmpOp) (a b : Ex)
  | sto (a : Ex)
inductive Exs where
  | nil
  | cons (e : Ex) (es : Exs)
/-- tests -/
inductive Tt where
  | val (e : Ex)
  | yes
  | and (a b : Tt)
  | or (a b : Tt)
  | not (a : Tt)
/-- what is walked -/
inductive It where
  | val (e : Ex)
  | rng (es : Exs)
  | enm (e : Ex)
  | zp (a b : Ex)
end
/-- a lambda of one parameter: its parameters' number, its slots' number, its expression -/
structure Lf where
  np : Nat
  ns : Nat
  e : Ex
/-- an object: lists, lists that are read alone, tuples, dicts, instances, lambdas, caught errors, and what is gone -/
inductive Ho where
  | lst (xs : List Vv) | rol (xs : List Vv) | tup (xs : List Vv) | dct (kvs : List (L2.Key × Vv)) | ins (c : Str) (fs : List (Str × Vv)) | lam (l : Lf) | exn (c : Str) (fs : List (Str × Vv)) | dead
  deriving Inhabited
abbrev VH := List Ho
abbrev Sl := List (Option Vv)
structure Xv where
  c : Str
  fs : List (Str × Vv)
inductive Re (α : Type) where
  | ok (a : α) (h : VH)
  | ex (x : Xv) (h : VH)
inductive Sr where
  | nx (s : Sl) (h : VH)
  | rt (v : Vv) (h : VH)
  | bk (s : Sl) (h : VH)
  | ct (s : Sl) (h : VH)
  | ex (x : Xv) (s : Sl) (h : VH)
def Rb {α β : Type} (m : Option (Re α)) (k : α → VH → Option (Re β)) : Option (Re β) := match m with
  | none => none
  | some (.ok a h) => k a h
  | some (.ex x h) => some (.ex x h)
def Sb {α : Type} (m : Option (Re α)) (s : Sl) (k : α → VH → Option Sr) : Option Sr := match m with
  | none => none
  | some (.ok a h) => k a h
  | some (.ex x h) => some (.ex x s h)
section
variable {α β : Type}
@[simp] theorem Rb_none (k : α → VH → Option (Re β)) : Rb none k = none := rfl
@[simp] theorem Rb_ok (a : α) (h : VH) (k : α → VH → Option (Re β)) : Rb (some (.ok a h)) k = k a h := rfl
@[simp] theorem Rb_ex (x : Xv) (h : VH) (k : α → VH → Option (Re β)) : Rb (some (.ex x h)) k = some (.ex x h) := rfl
@[simp] theorem Sb_none (s : Sl) (k : α → VH → Option Sr) : Sb none s k = none := rfl
@[simp] theorem Sb_ok (a : α) (h : VH) (s : Sl) (k : α → VH → Option Sr) : Sb (some (.ok a h)) s k = k a h := rfl
@[simp] theorem Sb_ex (x : Xv) (h : VH) (s : Sl) (k : α → VH → Option Sr) : Sb (some (.ex x h)) s k = some (.ex x s h) := rfl
end

/-- a target: one slot, or several -/
inductive Tg where
  | one (i : Nat)
  | many (is : List Nat)
/-- statements by slots; hnd, hnil: the clauses of a try -/
inductive St where
  | skip
  | expr (e : Ex)
  | ret (e : Ex)
  | seq (a b : St)
  | ifs (c : Tt) (a b : St)
  | asg (t : Tg) (e : Ex)
  | par (is : List Nat) (es : Exs)
  | fld (a : Ex) (f : Str) (e : Ex)
  | seti (a i e : Ex)
  | aug (i : Nat) (op : Operator) (e : Ex)
  | augf (a : Ex) (f : Str) (op : Operator) (e : Ex)
  | for_ (tg : List Nat) (it : It) (b : St)
  | whl (c : Tt) (b : St)
  | brk
  | cnt
  | rais (c : Str) (es : Exs)
  | try_ (b hs : St)
  | hnd (c : Str) (slot : Option Nat) (suite rest : St)
  | hnil

structure Fn where
  np : Nat
  ns : Nat
  body : St
  kw : List Kp
structure Cl where
  exc : Option (List Str) := none
  flds : List Str := []
  props : List (Str × Str) := []
  meths : List (Str × Str) := []
  deriving Inhabited
/-- what the text gives: its defs by qualified names, its classes, its constant objects, its lambdas (a key of fns each) -/
structure Tx where
  fns : Str → Option Fn
  cls : Str → Option Cl
  cons : Str → Option Ho
  clsL : List Str
  clsI : List Str

/-- how own defs are called: at one less level, at two less -/
structure Orc where
  call : Str → List Vv → VH → Option (Re Vv)
  call2 : Str → List Vv → VH → Option (Re Vv)
  callk : Str → Kp → List Vv → VH → Option (Re Vv)
  callk2 : Str → Kp → List Vv → VH → Option (Re Vv)
  callL : Lf → List Vv → VH → Option (Re Vv)

section
variable (G : Tx)
/-- the object at a value -/
def obj (h : VH) : Vv → Option Ho
  | .ref i => h[i]?
  | .con x => G.cons x
  | _ => none
def seqOf (h : VH) (v : Vv) : Option (List Vv) := match obj G h v with
  | some (.lst xs) => some xs
  | some (.rol xs) => some xs
  | some (.tup xs) => some xs
  | _ => none
/-- the data at a value -/
def dat (h : VH) : Nat → Vv → Option PyData
  | _, .non => some .none
  | _, .bl b => some (.bool b)
  | _, .int i => some (.int i)
  | _, .str x => some (.str x)
  | n + 1, .ref i => match h[i]? with
    | some (.lst xs) => (xs.mapM (dat h n)).map .list
    | some (.tup xs) => (xs.mapM (dat h n)).map .tuple
    | _ => none
  | n + 1, .con x => match G.cons x with
    | some (.lst xs) => (xs.mapM (dat h n)).map .list
    | some (.tup xs) => (xs.mapM (dat h n)).map .tuple
    | _ => none
  | _, _ => none
def ok1 (v : Vv) (h : VH) : Option (Re Vv) := some (.ok v h)
/-- a new object -/
def new (o : Ho) (h : VH) : Option (Re Vv) := some (.ok (.ref h.length) (h ++ [o]))
def sz : Nat := 16777216
def binop (op : Operator) (x y : Vv) (h : VH) : Option (Re Vv) := match op, x, y with
  | .Add, .int i, .int j => ok1 (.int (i + j)) h
  | .Sub, .int i, .int j => ok1 (.int (i - j)) h
  | .Mult, .int i, .int j => if (-(2 ^ 64) < i ∧ i < 2 ^ 64) ∨ (-(2 ^ 64) < j ∧ j < 2 ^ 64) then ok1 (.int (i * j)) h else none
  | .FloorDiv, .int i, .int j => if 0 < j ∧ j < 1073741824 then ok1 (.int (i / j)) h else none
  | .Mod, .int i, .int j => if 0 < j then ok1 (.int (i % j)) h else none
  | .Pow, .int i, .int j => if 0 ≤ j ∧ j ≤ 1000000 ∧ i.natAbs < 2 ^ 64 then ok1 (.int (i ^ j.toNat)) h else none
  | .Add, .str a, .str b => if a.length + b.length ≤ sz then ok1 (.str (a ++ b)) h else none
  | .Add, .ref i, .ref j => (match h[i]?, h[j]? with
    | some (.lst a), some (.lst b) => if a.length + b.length ≤ sz then new (.lst (a ++ b)) h else none
    | _, _ => none)
  | .Mult, .ref i, .int k => (match h[i]? with
    | some (.lst a) => if -(2 ^ 63) ≤ k ∧ k < 2 ^ 63 ∧ a.length * k.toNat ≤ sz then new (.lst (List.replicate k.toNat a).flatten) h else none
    | _ => none)
  | _, _, _ => none
/-- flat: None, a bool, an int, a text -/
def flat : Vv → Bool
  | .non => true
  | .bl _ => true
  | .int _ => true
  | .str _ => true
  | _ => false
def feq : Vv → Vv → Bool
  | .non, .non => true
  | .bl a, .bl b => a == b
  | .bl a, .int b => (if a then 1 else 0) == b
  | .int a, .bl b => a == (if b then 1 else 0)
  | .int a, .int b => a == b
  | .str a, .str b => a == b
  | _, _ => false
/-- a dict's value -/
def valK (kvs : List (L2.Key × Vv)) (k : L2.Key) : Option Vv := (kvs.find? fun kv => decide (kv.1 = k)).map (·.2)
/-- two dicts that have the same keys with the same flat values -/
def eqK (ks ls : List (L2.Key × Vv)) : Bool := decide (ks.length = ls.length) && ks.all fun p => flat p.2 && decide (valK ls p.1 = some p.2)
def eqdD (h : VH) (x y : Vv) : Option Bool := match x, y with
  | .ref i, .ref j => (match h[i]?, h[j]? with
    | some (.dct ks), some (.dct ls) => if eqK ks ls then some true else none
    | _, _ => none)
  | _, _ => none
def eqd (h : VH) (x y : Vv) : Option Bool := match dat G h 8 x, dat G h 8 y with
  | some d, some e => if SeqAt.shaped d && SeqAt.shaped e then some (PyData.eqv d e) else none
  | _, _ => eqdD h x y
def propOf (c f : Str) : Option Str := (G.cls c).bind fun k => if k.exc.isNone then k.props.lookup f else none
def methOf (c m : Str) : Option Str := (G.cls c).bind fun k => k.meths.lookup m
def cmpop (o : Orc) (op : CmpOp) (x y : Vv) (h : VH) : Option (Re Vv) := match op with
  | .Lt => (match x, y with | .int i, .int j => ok1 (.bl (decide (i < j))) h | _, _ => none)
  | .LtE => (match x, y with | .int i, .int j => ok1 (.bl (decide (i ≤ j))) h | _, _ => none)
  | .Gt => (match x, y with | .int i, .int j => ok1 (.bl (decide (j < i))) h | _, _ => none)
  | .GtE => (match x, y with | .int i, .int j => ok1 (.bl (decide (j ≤ i))) h | _, _ => none)
  | .Is => (match y with | .non => ok1 (.bl (decide (x = .non))) h | _ => none)
  | .IsNot => (match y with | .non => ok1 (.bl (!decide (x = .non))) h | _ => none)
  | .Eq => (eqd G h x y).bind fun b => ok1 (.bl b) h
  | .NotEq => (eqd G h x y).bind fun b => ok1 (.bl (!b)) h
  | .In => (match x, y with
    | .str a, .str b => ok1 (.bl (!(Builtin.Str.occurrences b a 0 b.length 1).isEmpty)) h
    | _, _ => (seqOf G h y).bind fun xs => if flat x && xs.all flat then ok1 (.bl (xs.any fun z => feq z x)) h else none)
  | .NotIn => (match x, y with
    | .str a, .str b => ok1 (.bl (!!(Builtin.Str.occurrences b a 0 b.length 1).isEmpty)) h
    | _, _ => (seqOf G h y).bind fun xs => if flat x && xs.all flat then ok1 (.bl (!(xs.any fun z => feq z x))) h else none)
def truth (x : Vv) (h : VH) : Option Bool := match x with
  | .non => some false
  | .bl b => some b
  | .int i => some (i != 0)
  | .str z => if z.length ≤ sz then some ((z.length : Int) != 0) else none
  | _ => (seqOf G h x).map fun xs => !xs.isEmpty
/-- a value's type: a built-in one, an own class -/
def tyv (h : VH) (x : Vv) : Option Vv := match x with
  | .non => some (.ty "NoneType")
  | .bl _ => some (.ty "bool")
  | .int _ => some (.ty "int")
  | .str _ => some (.ty "str")
  | _ => match obj G h x with
    | some (.lst _) => some (.ty "list")
    | some (.rol _) => some (.ty "list")
    | some (.tup _) => some (.ty "tuple")
    | some (.dct _) => some (.ty "dict")
    | some (.ins c _) => if G.clsI.contains c then some (.cls c) else none
    | _ => none
/-- may a value stand on the right of an own ==: no instance of a class below -/
def sideOk (h : VH) (c : Str) (y : Vv) : Bool := match tyv G h y with
  | some (.ty _) => true
  | some (.cls d) => decide (d = c)
  | _ => false
def blR (neg : Bool) : Option (Re Vv) → Option (Re Vv)
  | some (.ok (.bl b) h) => some (.ok (.bl (if neg then !b else b)) h)
  | _ => none
/-- ==, != where an instance may stand on the left: by its own __eq__ -/
def cmpoF (o : Orc) (op : CmpOp) (x y : Vv) (h : VH) : Option (Re Vv) := match obj G h x with
  | some (.ins c _) => if sideOk G h c y && G.clsI.contains c then (match methOf G c "__eq__", op with
    | some k, .Eq => blR false (o.call k [x, y] h)
    | some k, .NotEq => blR true (o.call2 k [x, y] h)
    | _, _ => none) else none
  | _ => cmpop G o op x y h
/-- the place that an index of any sign means -/
def place (n : Nat) (i : Int) : Option Nat := if 0 ≤ i then (if i < n then some i.toNat else none) else if -(n : Int) ≤ i then some (i + n).toNat else none
def index (x y : Vv) (h : VH) : Option (Re Vv) := match x, y with
  | .str z, .int i => if z.length ≤ sz then ((place z.cps.toList.length i).bind fun j => z.cps.toList[j]?).bind fun c => ok1 (.str ⟨#[c]⟩) h else none
  | _, .int i => (seqOf G h x).bind fun xs => ((place xs.length i).bind fun j => xs[j]?).bind fun v => ok1 v h
  | _, _ => none
/-- a bound of a slice: none if left out -/
def bnd (e : Ex) (x : Vv) : Option (Option Int) := match e, x with
  | .noe, _ => some none
  | _, .int i => some (some i)
  | _, _ => none
def cut {α : Type} (xs : List α) (lo hi : Option Int) : List α := (xs.drop (HT.sIx xs.length 0 lo)).take (HT.sIx xs.length xs.length hi - HT.sIx xs.length 0 lo)
def slice (x : Vv) (a b : Option Int) (h : VH) : Option (Re Vv) := match x with
  | .str z => if z.length ≤ sz then ok1 (.str ⟨(cut z.cps.toList a b).toArray⟩) h else none
  | .ref i => (match h[i]? with
    | some (.lst xs) => new (.lst (cut xs a b)) h
    | some (.tup xs) => if HT.sIx xs.length 0 a = 0 ∧ HT.sIx xs.length xs.length b = xs.length then ok1 (.ref i) h else new (.tup (cut xs a b)) h
    | _ => none)
  | _ => none
/-- a field that the class itself does not have: of instances, of own errors -/
def fldOf (c f : Str) : Bool := match G.cls c with
  | some k => k.exc.isNone && k.flds.contains f
  | none => false
def fldX (c f : Str) : Bool := match G.cls c with
  | some k => k.exc.isSome && k.flds.contains f
  | none => false
def getattr (o : Orc) (x : Vv) (f : Str) (h : VH) : Option (Re Vv) := match obj G h x with
  | some (.ins c fs) => if fldOf G c f then (fs.lookup f).bind fun v => ok1 v h
    else (match propOf G c f with
      | some k => (match o.call2 k [x] h with
        | some (.ok v h1) => some (.ok v h1)
        | _ => none)
      | none => none)
  | some (.exn c fs) => if fldX G c f then (fs.lookup f).bind fun v => ok1 v h else none
  | _ => none
/-- is a value of the first type one of the second (types that are asked here) -/
def isiT (t c : Vv) : Option Bool := match t, c with
  | .ty n, .ty m => if ["int", "bool", "str", "list", "tuple", "dict"].contains m then some (n == m || (n == "bool" && m == "int")) else none
  | .ty _, .cls d => if G.clsL.contains d then some false else none
  | .cls _, .ty m => if ["int", "bool", "str", "list", "tuple", "dict"].contains m then some false else none
  | .cls a, .cls d => if G.clsL.contains d then some (decide (a = d)) else none
  | _, _ => none
def isinst (x c : Vv) (h : VH) : Option Bool := (tyv G h x).bind fun t => isiT G t c
def bools : List Vv → Option (List Bool)
  | [] => some []
  | .bl b :: r => (bools r).map (b :: ·)
  | _ :: _ => none
def txts : List Vv → Option (List Str)
  | [] => some []
  | .str b :: r => (txts r).map (b :: ·)
  | _ :: _ => none
/-- a value as a key of a dict -/
def keyOf : Vv → Option L2.Key
  | .int i => some (.inl i)
  | .str z => some (.inr z)
  | _ => none
def lessK (kvs : List (L2.Key × Vv)) (k : L2.Key) : List (L2.Key × Vv) := kvs.filter fun kv => decide (kv.1 ≠ k)
def putKv (kvs : List (L2.Key × Vv)) (k : L2.Key) (v : Vv) : List (L2.Key × Vv) :=
  if (kvs.any fun kv => decide (kv.1 = k)) = true then kvs.map (fun kv => if kv.1 = k then (kv.1, v) else kv) else kvs ++ [(k, v)]
def mergeKv (kvs more : List (L2.Key × Vv)) : List (L2.Key × Vv) := more.foldl (fun acc kv => putKv acc kv.1 kv.2) kvs
/-- pairs, each a tuple of the run's own -/
def pairsOf (h : VH) : List Vv → Option (List (L2.Key × Vv))
  | [] => some []
  | .ref t :: r => (match h[t]? with
    | some (.tup [k, v]) => (keyOf k).bind fun k => (pairsOf h r).map ((k, v) :: ·)
    | _ => none)
  | _ => none
def callb (f : Bf) (vs : List Vv) (h : VH) : Option (Re Vv) := match f, vs with
  | .len, [.str z] => if z.length ≤ sz then ok1 (.int z.length) h else none
  | .len, [x] => (seqOf G h x).bind fun xs => ok1 (.int xs.length) h
  | .isinst, [x, c] => (isinst G x c h).bind fun b => ok1 (.bl b) h
  | .int, [.int i] => ok1 (.int i) h
  | .int, [.bl b] => ok1 (.int (if b then 1 else 0)) h
  | .int, [.str z] => (PySem.intText? z).bind fun n => if z.length ≤ 640 then ok1 (.int n) h else none
  | .str, [.int i] => if i.natAbs.log2 < 1920 then ok1 (.str (toString i)) h else none
  | .str, [.str z] => ok1 (.str z) h
  | .bool, [.int i] => ok1 (.bl (i != 0)) h
  | .bool, [.bl b] => ok1 (.bl b) h
  | .abs, [.int i] => ok1 (.int (if i < 0 then -i else i)) h
  | .min, [.int i, .int j] => ok1 (.int (if j < i then j else i)) h
  | .max, [.int i, .int j] => ok1 (.int (if j > i then j else i)) h
  | .all, [.ref i] => (match h[i]? with | some (.lst xs) => (bools xs).bind fun bs => ok1 (.bl (bs.all id)) h | _ => none)
  | .any, [.ref i] => (match h[i]? with | some (.lst xs) => (bools xs).bind fun bs => ok1 (.bl (bs.any id)) h | _ => none)
  | .repr, [x] => (dat G h 8 x).bind fun d => if d.showable && !d.hasDict && decide (d.depth ≤ 60) && decide (d.shown.length ≤ sz) then ok1 (.str d.shown) h else none
  | .dict, [.ref i] => (match h[i]? with
    | some (.dct kvs) => new (.dct kvs) h
    | some (.lst ps) => (pairsOf h ps).bind fun kvs => new (.dct (mergeKv [] kvs)) h
    | _ => none)
  | _, _ => none
def bmeth (x : Vv) (m : Mf) (vs : List Vv) (h : VH) : Option (Re Vv) := match m, x, vs with
  | .append, .ref i, [v] => (match h[i]? with
    | some (.lst xs) => if xs.length < sz then some (.ok .non (h.set i (.lst (xs ++ [v])))) else none
    | _ => none)
  | .split, .str a, [.str b] => if (b.length == 0) = false ∧ a.length + 2 ≤ sz then new (.lst ((Txt.split a b).map .str)) h else none
  | .join, .str a, [y] => (seqOf G h y).bind fun xs => (txts xs).bind fun ys => if (ys.map (·.length)).sum + ys.length * a.length ≤ sz then ok1 (.str (Txt.join a ys)) h else none
  | .get, .ref i, [y] => (match h[i]? with
    | some (.dct kvs) => (keyOf y).bind fun k => ok1 ((valK kvs k).getD .non) h
    | _ => none)
  | .pop, .ref i, [y] => (match h[i]? with
    | some (.dct kvs) => (keyOf y).bind fun k => (valK kvs k).bind fun v => some (.ok v (h.set i (.dct (lessK kvs k))))
    | _ => none)
  | _, _, _ => none
/-- is the receiver, when the method is looked up, of the type that the method is of -/
def brecv (x : Vv) (m : Mf) (h : VH) : Bool := match m, x with
  | .append, .ref i => (match h[i]? with | some (.lst _) => true | _ => false)
  | .split, .str _ => true
  | .join, .str _ => true
  | .get, .ref i => (match h[i]? with | some (.dct _) => true | _ => false)
  | .pop, .ref i => (match h[i]? with | some (.dct _) => true | _ => false)
  | _, _ => false
/-- the slots of a target set from an item -/
def setT (t : List Nat) (s : Sl) (vs : List Vv) : Option Sl := match t, vs with
  | [], [] => some s
  | i :: r, v :: rv => setT r (s.set i (some v)) rv
  | _, _ => none
def wipeV (s : Sl) : List Nat → Sl
  | [] => s
  | v :: vs => (wipeV s vs).set v none
/-- a walk's items, each the values of the target's slots, and what must stand meanwhile -/
structure Src where
  items : List (List Vv)
  at_ : Option Vv
  seq : List Vv
  lst : Bool
  prs : Bool
/-- an item that is a tuple, for several slots -/
def untup (h : VH) : List Vv → Option (List (List Vv))
  | [] => some []
  | v :: r => match obj G h v with
    | some (.tup xs) => (untup h r).map (xs :: ·)
    | _ => none
def isL (h : VH) (v : Vv) : Bool := match obj G h v with
  | some (.lst _) => true
  | some (.rol _) => true
  | _ => false
def keeps (S : Src) (h : VH) : Bool := match S.at_ with
  | none => true
  | some v => decide (seqOf G h v = some S.seq) && (isL G h v == S.lst) && (!S.prs || decide (untup G h S.seq = some S.items))
/-- what a for walks, of a value and a number of slots -/
def srcOf (n : Nat) (x : Vv) (h : VH) : Option Src := if n = 1 then (match x with
  | .str z => some ⟨z.cps.toList.map fun c => [.str ⟨#[c]⟩], none, [], false, false⟩
  | _ => (seqOf G h x).map fun xs => ⟨xs.map fun v => [v], some x, xs, isL G h x, false⟩)
  else (seqOf G h x).bind fun xs => (untup G h xs).map fun its => ⟨its, some x, xs, isL G h x, true⟩
def rngItems (a b c : Int) : List (List Vv) := (List.range (if 0 < c then ((b - a + c - 1) / c).toNat else ((a - b - c - 1) / (-c)).toNat)).map fun (i : Nat) => [.int (a + (i : Int) * c)]
def rngOf (vs : List Vv) : Option Src := match vs with
  | [.int b] => if -(2 ^ 62) ≤ b ∧ b < 2 ^ 62 then some ⟨rngItems 0 b 1, none, [], false, false⟩ else none
  | [.int a, .int b] => if -(2 ^ 62) ≤ a ∧ a < 2 ^ 62 ∧ -(2 ^ 62) ≤ b ∧ b < 2 ^ 62 then some ⟨rngItems a b 1, none, [], false, false⟩ else none
  | [.int a, .int b, .int c] => if -(2 ^ 62) ≤ a ∧ a < 2 ^ 62 ∧ -(2 ^ 62) ≤ b ∧ b < 2 ^ 62 ∧ c = -1 then some ⟨rngItems a b c, none, [], false, false⟩ else none
  | _ => none
def enumOf (x : Vv) (h : VH) : Option Src := match x with
  | .ref i => (match h[i]? with
    | some (.lst xs) => some ⟨xs.mapIdx fun j v => [.int j, v], some x, xs, true, false⟩
    | some (.rol xs) => some ⟨xs.mapIdx fun j v => [.int j, v], some x, xs, true, false⟩
    | _ => none)
  | _ => none

/-- a comprehension's walk: the new list lies at d; nothing may be raised in it -/
def lcF (e : Sl → VH → Option (Re Vv)) (cd : Sl → VH → Option (Re Bool)) (s : Sl) (tg : List Nat) (kp : VH → Bool) (d : Nat) : List (List Vv) → VH → Option (Re Vv)
  | [], h => if kp h then some (.ok (.ref d) h) else none
  | it :: r, h => if kp h then (match setT tg s it with
    | some s1 => (match cd s1 h with
      | some (.ok true h1) => (match e s1 h1 with
        | some (.ok v h2) => (match h2[d]? with
          | some (.lst acc) => if acc.length < sz then lcF e cd s tg kp d r (h2.set d (.lst (acc ++ [v]))) else none
          | _ => none)
        | _ => none)
      | some (.ok false h1) => lcF e cd s tg kp d r h1
      | _ => none)
    | none => none) else none
/-- the outer walk of a comprehension of two clauses: inn: the inner one, which puts its values to the list at d -/
def lc2F (inn : Sl → VH → Option (Re Vv)) (cd : Sl → VH → Option (Re Bool)) (s : Sl) (tg : List Nat) (kp : VH → Bool) (d : Nat) : List (List Vv) → VH → Option (Re Vv)
  | [], h => if kp h then some (.ok (.ref d) h) else none
  | it :: r, h => if kp h then (match setT tg s it with
    | some s1 => (match cd s1 h with
      | some (.ok true h1) => (match inn s1 h1 with
        | some (.ok _ h2) => lc2F inn cd s tg kp d r h2
        | _ => none)
      | some (.ok false h1) => lc2F inn cd s tg kp d r h1
      | _ => none)
    | none => none) else none
/-- str(x), of an instance by its own __str__ -/
def stoF (o : Orc) (x : Vv) (h : VH) : Option (Re Vv) := match obj G h x with
  | some (.ins c _) => (match methOf G c "__str__" with
    | some k => (match o.call2 k [x] h with
      | some (.ok (.str z) h2) => some (.ok (.str z) h2)
      | _ => none)
    | none => none)
  | _ => callb G .str [x] h
def isLam : Ho → Bool
  | .lam _ => true
  | _ => false
mutual
/-- an expression: its value and the objects behind it, or the error -/
def evE (o : Orc) : Ex → Sl → VH → Option (Re Vv)
  | .var i, s, h => match s[i]? with
    | some (some v) => some (.ok v h)
    | _ => none
  | .cst v, _, h => some (.ok v h)
  | .bin op a b, s, h => Rb (evE o a s h) fun x h1 => Rb (evE o b s h1) fun y h2 => binop op x y h2
  | .neg a, s, h => Rb (evE o a s h) fun x h1 => match x with
    | .int i => some (.ok (.int (-i)) h1)
    | _ => none
  | .cmp op a b, s, h => Rb (evE o a s h) fun x h1 => Rb (evE o b s h1) fun y h2 => cmpop G o op x y h2
  | .chain op op' a b c, s, h => Rb (evE o a s h) fun x h1 => Rb (evE o b s h1) fun y h2 => Rb (cmpop G o op x y h2) fun z h3 => match z with
    | .bl true => Rb (evE o c s h3) fun w h4 => cmpop G o op' y w h4
    | .bl false => some (.ok (.bl false) h3)
    | _ => none
  | .and a b, s, h => Rb (evE o a s h) fun x h1 => match truth G x h1 with
    | some true => evE o b s h1
    | some false => some (.ok x h1)
    | none => none
  | .or a b, s, h => Rb (evE o a s h) fun x h1 => match truth G x h1 with
    | some true => some (.ok x h1)
    | some false => evE o b s h1
    | none => none
  | .not a, s, h => Rb (evE o a s h) fun x h1 => match truth G x h1 with
    | some b => some (.ok (.bl (!b)) h1)
    | none => none
  | .ite c a b, s, h => Rb (evT o c s h) fun k h1 => match k with
    | true => evE o a s h1
    | false => evE o b s h1
  | .attr a f, s, h => Rb (evE o a s h) fun x h1 => getattr G o x f h1
  | .idx a b, s, h => Rb (evE o a s h) fun x h1 => Rb (evE o b s h1) fun y h2 => index G x y h2
  | .slc a lo hi, s, h => Rb (evE o a s h) fun x h1 => Rb (evE o lo s h1) fun y h2 => match bnd lo y with
    | none => none
    | some i => Rb (evE o hi s h2) fun z h3 => match bnd hi z with
      | none => none
      | some j => slice x i j h3
  | .noe, _, h => some (.ok .non h)
  | .dnew, _, h => new (.dct []) h
  | .tup es, s, h => Rb (evEs o es s h) fun vs h1 => if vs.length ≤ sz then new (.tup vs) h1 else none
  | .lst es, s, h => Rb (evEs o es s h) fun vs h1 => if vs.length ≤ sz then new (.lst vs) h1 else none
  | .call f es, s, h => Rb (evEs o es s h) fun vs h1 => o.call f vs h1
  | .mk c es, s, h => Rb (evEs o es s h) fun vs h1 => match methOf G c "__init__" with
    | some k => Rb (o.call2 k (.ref h1.length :: vs) (h1 ++ [.ins c []])) fun r h2 => match r with
      | .non => some (.ok (.ref h1.length) h2)
      | _ => none
    | none => none
  | .meth a m es, s, h => Rb (evE o a s h) fun x h1 => match obj G h1 x with
    | some (.ins c fs) => (match methOf G c m, fs.lookup m with
      | some k, none => Rb (evEs o es s h1) fun vs h2 => o.call k (x :: vs) h2
      | _, _ => none)
    | _ => none
  | .bf f es, s, h => Rb (evEs o es s h) fun vs h1 => callb G f vs h1
  | .bm a m es, s, h => Rb (evE o a s h) fun x h1 => if brecv x m h1 then Rb (evEs o es s h1) fun vs h2 => bmeth G x m vs h2 else none
  | .cv i es, s, h => match s[i]? with
    | some (some (.fn f)) => if (G.fns f).isSome then Rb (evEs o es s h) fun vs h1 => o.call f vs h1 else none
    | some (some (.ref j)) => (match h[j]? with
      | some (.lam _) => Rb (evEs o es s h) fun vs h1 => (match h1[j]? with
        | some (.lam l) => o.callL l vs h1
        | _ => none)
      | some (.ins _ _) => Rb (evEs o es s h) fun vs h1 => (match h1[j]? with
        | some (.ins c _) => (match methOf G c "__call__" with
          | some k => if (G.fns k).isSome then o.call k (.ref j :: vs) h1 else none
          | none => none)
        | _ => none)
      | _ => none)
    | _ => none
  | .lc e own tg it cd, s, h => Rb (evI o it tg.length s h) fun S h1 => lcF (evE o e) (evT o cd) (wipeV s own) tg (keeps G S) h1.length S.items (h1 ++ [.lst []])
  | .lc2 e own tg it cd tg1 it1 cd1, s, h => Rb (evI o it tg.length s h) fun S h1 => lc2F (fun s1 h2 => Rb (evI o it1 tg1.length s1 h2) fun S1 h3 => lcF (evE o e) (evT o cd1) (wipeV s1 tg1) tg1 (keeps G S1) h1.length S1.items h3) (evT o cd) (wipeV s own) tg (keeps G S) h1.length S.items (h1 ++ [.lst []])
  | .callk f p es ks, s, h => Rb (evEs o es s h) fun vs h1 => Rb (evEs o ks s h1) fun ws h2 => if vs.length = p.n ∧ ws.length = p.ks.length then o.callk f p (vs ++ ws) h2 else none
  | .mkk c p es ks, s, h => Rb (evEs o es s h) fun vs h1 => Rb (evEs o ks s h1) fun ws h2 => match methOf G c "__init__" with
    | some k => if vs.length + 1 = p.n ∧ ws.length = p.ks.length then Rb (o.callk2 k p (.ref h2.length :: (vs ++ ws)) (h2 ++ [.ins c []])) fun r h3 => match r with
      | .non => some (.ok (.ref h2.length) h3)
      | _ => none else none
    | none => none
  | .cmpo op a b, s, h => Rb (evE o a s h) fun x h1 => Rb (evE o b s h1) fun y h2 => cmpoF G o op x y h2
  | .sto a, s, h => Rb (evE o a s h) fun x h1 => stoF G o x h1
  | .lam N e, s, h => new (.lam ⟨1, N.length, e⟩) h
/-- a test: and, or, not jump; of any other value its truth -/
def evT (o : Orc) : Tt → Sl → VH → Option (Re Bool)
  | .val e, s, h => Rb (evE o e s h) fun x h1 => match truth G x h1 with
    | some b => some (.ok b h1)
    | none => none
  | .yes, _, h => some (.ok true h)
  | .and a b, s, h => Rb (evT o a s h) fun k h1 => match k with
    | true => evT o b s h1
    | false => some (.ok false h1)
  | .or a b, s, h => Rb (evT o a s h) fun k h1 => match k with
    | true => some (.ok true h1)
    | false => evT o b s h1
  | .not a, s, h => Rb (evT o a s h) fun k h1 => some (.ok (!k) h1)
/-- what a for walks -/
def evI (o : Orc) : It → Nat → Sl → VH → Option (Re Src)
  | .rng es, n, s, h => if n = 1 then Rb (evEs o es s h) fun vs h1 => (rngOf vs).map fun S => .ok S h1 else none
  | .enm e, n, s, h => if n = 2 then Rb (evE o e s h) fun x h1 => (enumOf x h1).map fun S => .ok S h1 else none
  | .zp _ _, _, _, _ => none
  | .val e, n, s, h => Rb (evE o e s h) fun x h1 => (srcOf G n x h1).map fun S => .ok S h1
def evEs (o : Orc) : Exs → Sl → VH → Option (Re (List Vv))
  | .nil, _, h => some (.ok [] h)
  | .cons e es, s, h => Rb (evE o e s h) fun v h1 => Rb (evEs o es s h1) fun vs h2 => some (.ok (v :: vs) h2)
end

/-- a for's walk -/
def forF (b : Sl → VH → Option Sr) (tg : List Nat) (kp : VH → Bool) : List (List Vv) → Sl → VH → Option Sr
  | [], s, h => if kp h then some (.nx s h) else none
  | it :: r, s, h => if kp h then (match setT tg s it with
    | some s1 => (match b s1 h with
      | some (.nx s2 h2) => forF b tg kp r s2 h2
      | some (.ct s2 h2) => forF b tg kp r s2 h2
      | some (.bk s2 h2) => some (.nx s2 h2)
      | x => x)
    | none => none) else none
/-- a while's turns, at most n -/
def whlF (c : Sl → VH → Option (Re Bool)) (b : Sl → VH → Option Sr) : Nat → Sl → VH → Option Sr
  | 0, _, _ => none
  | n + 1, s, h => Sb (c s h) s fun k h1 => match k with
    | true => (match b s h1 with
      | some (.nx s2 h2) => whlF c b n s2 h2
      | some (.ct s2 h2) => whlF c b n s2 h2
      | some (.bk s2 h2) => some (.nx s2 h2)
      | x => x)
    | false => some (.nx s h1)
def putF (f : Str) (v : Vv) : List (Str × Vv) → List (Str × Vv)
  | [] => [(f, v)]
  | (g, x) :: r => if g = f then (g, v) :: r else (g, x) :: putF f v r
def sthen (m : Option Sr) (k : Sl → VH → Option Sr) : Option Sr := match m with
  | some (.nx s h) => k s h
  | x => x
/-- the slot of a clause's name, set and cleared -/
def inS (slot : Option Nat) (k : Nat) (s : Sl) : Sl := match slot with
  | some i => s.set i (some (.ref k))
  | none => s
def outS (slot : Option Nat) (s : Sl) : Sl := match slot with
  | some i => s.set i none
  | none => s
/-- most turns of a while -/
def turns : Nat := 1000000
/-- a statement -/
def evS (o : Orc) : St → Sl → VH → Option Sr
  | .skip, s, h => some (.nx s h)
  | .expr e, s, h => Sb (evE G o e s h) s fun _ h1 => some (.nx s h1)
  | .ret e, s, h => Sb (evE G o e s h) s fun v h1 => some (.rt v h1)
  | .seq a b, s, h => sthen (evS o a s h) fun s1 h1 => evS o b s1 h1
  | .ifs c a b, s, h => Sb (evT G o c s h) s fun k h1 => match k with
    | true => evS o a s h1
    | false => evS o b s h1
  | .asg t e, s, h => Sb (evE G o e s h) s fun v h1 => match t with
    | .one i => some (.nx (s.set i (some v)) h1)
    | .many is => if is.length = 1 then none else (match obj G h1 v with
      | some (.tup xs) => (setT is s xs).map fun s1 => .nx s1 h1
      | _ => none)
  | .par is es, s, h => Sb (evEs G o es s h) s fun vs h1 => (setT is s vs).map fun s1 => .nx s1 h1
  | .fld a f e, s, h => Sb (evE G o e s h) s fun v h1 => Sb (evE G o a s h1) s fun x h2 => match x with
    | .ref i => (match h2[i]? with
      | some (.ins c fs) => if fs.length < 900 ∧ fldOf G c f = true then some (.nx s (h2.set i (.ins c (putF f v fs)))) else none
      | _ => none)
    | _ => none
  | .seti a i e, s, h => Sb (evE G o e s h) s fun v h1 => Sb (evE G o a s h1) s fun x h2 => Sb (evE G o i s h2) s fun y h3 => match x, y with
    | .ref p, .int k => (match h3[p]? with
      | some (.lst xs) => (match place xs.length k with
        | some j => some (.nx s (h3.set p (.lst (xs.set j v))))
        | none => none)
      | _ => none)
    | _, _ => none
  | .aug i op e, s, h => match s[i]? with
    | some (some x) => Sb (evE G o e s h) s fun y h1 => (match op, x, y with
      | .Add, .int a, .int b => some (.nx (s.set i (some (.int (a + b)))) h1)
      | .Sub, .int a, .int b => some (.nx (s.set i (some (.int (a - b)))) h1)
      | _, _, _ => none)
    | _ => none
  | .augf a f op e, s, h => Sb (evE G o a s h) s fun x h1 => match x with
    | .ref i => (match h1[i]? with
      | some (.ins c fs) => if fldOf G c f then (match fs.lookup f with
        | some v => Sb (evE G o e s h1) s fun y h2 => (match op, v, y, h2[i]? with
          | .Add, .int p, .int q, some (.ins c2 fs2) => if fs2.length < 900 ∧ c2 = c then some (.nx s (h2.set i (.ins c2 (putF f (.int (p + q)) fs2)))) else none
          | _, _, _, _ => none)
        | none => none) else none
      | _ => none)
    | _ => none
  | .for_ tg it b, s, h => Sb (evI G o it tg.length s h) s fun S h1 => forF (evS o b) tg (keeps G S) S.items s h1
  | .whl c b, s, h => whlF (evT G o c) (evS o b) turns s h
  | .brk, s, h => some (.bk s h)
  | .cnt, s, h => some (.ct s h)
  | .rais c es, s, h => Sb (evEs G o es s h) s fun vs h1 => match (G.cls c).bind (·.exc) with
    | some fs => if fs.length = vs.length then some (.ex ⟨c, fs.zip vs⟩ s h1) else none
    | none => none
  | .try_ b hs, s, h => match evS o b s h with
    | some (.ex x s1 h1) => evH o hs x s1 h1
    | r => r
  | .hnd _ _ _ _, _, _ => none
  | .hnil, _, _ => none
where
  /-- the clauses of a try at an error: the error lies at a new place while its suite runs -/
  evH (o : Orc) : St → Xv → Sl → VH → Option Sr
    | .hnd c slot su r, x, s, h => if ((G.cls x.c).bind (·.exc)).isSome = false then none else if x.c = c then
        (match evS o su (inS slot h.length s) (h ++ [.exn x.c x.fs]) with
          | some (.nx s2 h2) => some (.nx (outS slot s2) (h2.set h.length .dead))
          | some (.rt v h2) => some (.rt v (h2.set h.length .dead))
          | some (.bk s2 h2) => some (.bk (outS slot s2) (h2.set h.length .dead))
          | some (.ct s2 h2) => some (.ct (outS slot s2) (h2.set h.length .dead))
          | _ => none)
      else evH o r x s h
    | .hnil, x, s, h => some (.ex x s h)
    | _, _, _, _ => none
/-- a def's run -/
def bodyF (o : Orc) (f : Fn) (vs : List Vv) (h : VH) : Option (Re Vv) := if vs.length = f.np then
    (match evS G o f.body (vs.map some ++ List.replicate (f.ns - f.np) none) h with
    | some (.nx _ h1) => some (.ok .non h1)
    | some (.rt v h1) => some (.ok v h1)
    | some (.ex x _ h1) => some (.ex x h1)
    | _ => none)
  else none
/-- a call by position: of a def without keyword-only parameters -/
def callP (g : Str → List Vv → VH → Option (Re Vv)) (f : Str) (vs : List Vv) (h : VH) : Option (Re Vv) := match G.fns f with
  | some fi => if fi.kw.isEmpty then g f vs h else none
  | none => none
/-- a call by one of a def's forms -/
def callK (g : Str → List Vv → VH → Option (Re Vv)) (f : Str) (p : Kp) (vs : List Vv) (h : VH) : Option (Re Vv) := match G.fns f with
  | some fi => if p ∈ fi.kw then g f (arrG .non p.arr vs (p.ms.map (·.2))) h else none
  | none => none
def orcOf (g1 g2 : Str → List Vv → VH → Option (Re Vv)) (l1 : Lf → List Vv → VH → Option (Re Vv)) : Orc := ⟨callP G g1, callP G g2, callK G g1, callK G g2, l1⟩
/-- a lambda's run -/
def lamF (o : Orc) (l : Lf) (vs : List Vv) (h : VH) : Option (Re Vv) := if vs.length = l.np then evE G o l.e (vs.map some ++ List.replicate (l.ns - l.np) none) h else none
/-- defs, lambdas at most n deep -/
def ro : Nat → (Str → List Vv → VH → Option (Re Vv)) × (Lf → List Vv → VH → Option (Re Vv))
  | 0 => (fun _ _ _ => none, fun _ _ _ => none)
  | 1 => (fun _ _ _ => none, fun _ _ _ => none)
  | n + 2 => (fun f vs h => match G.fns f with
    | some fd => bodyF G (orcOf G (ro (n + 1)).1 (ro n).1 (ro (n + 1)).2) fd vs h
    | none => none, fun l vs h => lamF G (orcOf G (ro (n + 1)).1 (ro n).1 (ro (n + 1)).2) l vs h)
def run (n : Nat) : Str → List Vv → VH → Option (Re Vv) := (ro G n).1
def lrun (n : Nat) : Lf → List Vv → VH → Option (Re Vv) := (ro G n).2
abbrev orcAt (n : Nat) : Orc := orcOf G (run G (n + 1)) (run G n) (lrun G (n + 1))
end
end Dv

set_option linter.all false
set_option autoImplicit false
set_option maxRecDepth 100000
set_option maxHeartbeats 1000000
namespace Dv
open PySem L2 PySem.Spec PyProof.Rows

/-- where an object of the run's own lies -/
abbrev Mp := Nat → Option Addr
/-- where the text's own defs, classes, constants lie -/
structure Lm where
  qual : Str
  params : Arguments
  body : Expr
  scope : Scope
structure Ad where
  fa : Str → Addr
  ca : Str → Addr
  ka : Str → Addr
  tb : List (Addr × Str)
  lok : Lf → Lm → Prop
/-- the object at a is a function made of a lambda, its code object at c -/
def LamO (a : Addr) (l : Lm) (c : Addr) : HO := .ext fun h => ∃ (pm ctv : Value), h.get? a = some (PySem.W.kla_obj "<lambda>" l.qual l.params l.body l.scope [] pm c ctv)
def R (D : Ad) (m : Mp) : Vv → V → Prop
  | .non, x => x = .non
  | .bl b, x => x = .bl b
  | .int i, x => x = .int i
  | .str z, x => x = .str z
  | .ref i, x => ∃ a, m i = some a ∧ x = .ref a
  | .fn f, x => x = .ref (D.fa f)
  | .cls c, x => x = .ref (D.ca c)
  | .ty n, x => x = .ty n
  | .con k, x => x = .ref (D.ka k)
def Le (m m' : Mp) : Prop := ∀ i a, m i = some a → m' i = some a
theorem Le.refl (m : Mp) : Le m m := fun _ _ h => h
theorem Le.trans {a b c : Mp} (h : Le a b) (k : Le b c) : Le a c := fun i x e => k i x (h i x e)
theorem R.mono {D : Ad} {m m' : Mp} {v : Vv} {x : V} (r : R D m v x) (l : Le m m') : R D m' v x := by
  cases v with
  | ref i => obtain ⟨a, h, e⟩ := r; exact ⟨a, l _ _ h, e⟩
  | _ => exact r
abbrev RL (D : Ad) (m : Mp) : List Vv → List V → Prop := Paired (R D m)
abbrev RF (D : Ad) (m : Mp) : List (Str × Vv) → List (Str × V) → Prop := Paired fun p q => p.1 = q.1 ∧ R D m p.2 q.2
abbrev RK (D : Ad) (m : Mp) : List (Key × Vv) → List (Key × V) → Prop := Paired fun p q => p.1 = q.1 ∧ R D m p.2 q.2
theorem RL.mono {D : Ad} {m m' : Mp} {xs : List Vv} {ys : List V} (r : RL D m xs ys) (l : Le m m') : RL D m' xs ys := Paired.mapP r fun _ _ z => R.mono z l
theorem RF.mono {D : Ad} {m m' : Mp} {xs : List (Str × Vv)} {ys : List (Str × V)} (r : RF D m xs ys) (l : Le m m') : RF D m' xs ys := Paired.mapP r fun _ _ z => ⟨z.1, R.mono z.2 l⟩
theorem RK.mono {D : Ad} {m m' : Mp} {xs : List (Key × Vv)} {ys : List (Key × V)} (r : RK D m xs ys) (l : Le m m') : RK D m' xs ys := Paired.mapP r fun _ _ z => ⟨z.1, R.mono z.2 l⟩
section
variable {α β : Type} {F : α → β → Prop}
theorem Paired.get : ∀ {xs : List α} {ys : List β} {i : Nat} {x : α}, Paired F xs ys → xs[i]? = some x → ∃ y, ys[i]? = some y ∧ F x y
  | _, _, _, _, .nil, e => by simp at e
  | _, _, 0, _, .cons r _, e => by simp at e; subst e; exact ⟨_, rfl, r⟩
  | _, _, i + 1, _, .cons _ t, e => by
    obtain ⟨u, h1, h2⟩ := Paired.get (i := i) t (by simpa using e)
    exact ⟨u, by simpa using h1, h2⟩
theorem Paired.app : ∀ {xs xs' : List α} {ys ys' : List β}, Paired F xs ys → Paired F xs' ys' → Paired F (xs ++ xs') (ys ++ ys')
  | _, _, _, _, .nil, s => s
  | _, _, _, _, .cons r t, s => .cons r (Paired.app t s)
theorem Paired.setP {x : α} {y : β} (r : F x y) : ∀ {xs : List α} {ys : List β} (i : Nat), Paired F xs ys → Paired F (xs.set i x) (ys.set i y)
  | _, _, _, .nil => .nil
  | _, _, 0, .cons _ t => .cons r t
  | _, _, i + 1, .cons q t => .cons q (Paired.setP r i t)
theorem Paired.takeP : ∀ {xs : List α} {ys : List β} (n : Nat), Paired F xs ys → Paired F (xs.take n) (ys.take n)
  | _, _, 0, _ => .nil
  | _, _, _ + 1, .nil => .nil
  | _, _, n + 1, .cons r t => .cons r (Paired.takeP n t)
theorem Paired.dropP : ∀ {xs : List α} {ys : List β} (n : Nat), Paired F xs ys → Paired F (xs.drop n) (ys.drop n)
  | _, _, 0, r => r
  | _, _, _ + 1, .nil => .nil
  | _, _, n + 1, .cons _ t => Paired.dropP n t
theorem Paired.rep {xs : List α} {ys : List β} (r : Paired F xs ys) : ∀ n : Nat, Paired F (List.replicate n xs).flatten (List.replicate n ys).flatten
  | 0 => .nil
  | n + 1 => by
    rw [List.replicate_succ, List.replicate_succ, List.flatten_cons, List.flatten_cons]
    exact Paired.app r (Paired.rep r n)
theorem Paired.mapL {γ δ : Type} {F' : γ → δ → Prop} {f : α → γ} {g : β → δ} : ∀ {xs : List α} {ys : List β}, Paired F xs ys → (∀ x y, F x y → F' (f x) (g y)) → Paired F' (xs.map f) (ys.map g)
  | _, _, .nil, _ => .nil
  | _, _, .cons r t, k => .cons (k _ _ r) (Paired.mapL t k)
theorem Paired.len {xs : List α} {ys : List β} (r : Paired F xs ys) : xs.length = ys.length := PySem.Paired.length r
end
theorem RF.lookup {D : Ad} {m : Mp} {f : Str} : ∀ {fs : List (Str × Vv)} {gs : List (Str × V)}, RF D m fs gs → ∀ {v}, fs.lookup f = some v → ∃ x, gs.lookup f = some x ∧ R D m v x
  | _, _, .nil, _, e => by simp at e
  | (a, v) :: fs, (b, x) :: gs, .cons ⟨h1, h2⟩ t, w, e => by
    dsimp only at h1 h2
    subst h1
    rw [List.lookup_cons] at e ⊢
    cases q : f == a with
    | true => rw [q] at e; simp only [Option.some.injEq] at e; subst e; exact ⟨x, rfl, h2⟩
    | false => rw [q] at e; exact RF.lookup t e
theorem RF.lookup_none {D : Ad} {m : Mp} {f : Str} : ∀ {fs : List (Str × Vv)} {gs : List (Str × V)}, RF D m fs gs → fs.lookup f = none → gs.lookup f = none
  | _, _, .nil, e => rfl
  | (a, v) :: fs, (b, x) :: gs, .cons ⟨h1, h2⟩ t, e => by
    dsimp only at h1 h2
    subst h1
    rw [List.lookup_cons] at e ⊢
    cases q : f == a with
    | true => rw [q] at e; cases e
    | false => rw [q] at e; exact RF.lookup_none t e

/-- an object that is tracked, ours alone -/
def own : Ho → Bool
  | .lst _ => true
  | .tup _ => true
  | .dct _ => true
  | .ins _ _ => true
  | _ => false
abbrev Ax := Option (Nat × Addr × Value × Option Addr)
section
variable (D : Ad) (K : PySem.W.Frag) (ax : Ax)
def ObjR (m : Mp) (H : Hp) (a : Addr) : Ho → Prop
  | .lst xs => ∃ ys, H a = some (.lst ys) ∧ RL D m xs ys
  | .tup xs => ∃ ys, H a = some (.tup ys) ∧ RL D m xs ys
  | .dct kvs => ∃ ws, H a = some (.dK ws) ∧ RK D m kvs ws
  | .ins c fs => ∃ dx gs, H a = some (.ins (D.ca c) dx gs) ∧ RF D m fs gs
  | .rol xs => ∃ ys, RL D m xs ys ∧ ((∃ o, H a = some (.frz o (.lst ys))) ∨ ∀ H', SqL K H' a ys)
  | .exn c fs => ∃ k dd gs, ax = some (k, a, .ref (D.ca c), some dd) ∧ H dd = some (.xd gs) ∧ RF D m fs gs
  | .lam l => ∃ lm c, H a = some (LamO a lm c) ∧ H c = some (LamX.CodeO c lm.qual) ∧ D.lok l lm
  | .dead => True
structure Sim (m : Mp) (h : VH) (H : Hp) : Prop where
  at_ : ∀ i o, h[i]? = some o → ∃ a, m i = some a ∧ ObjR D K ax m H a o
  dom : ∀ i a, m i = some a → i < h.length
  inj : ∀ i j o o' a, h[i]? = some o → h[j]? = some o' → own o = true → own o' = true → m i = some a → m j = some a → i = j
  one : ∀ i c fs, h[i]? = some (.exn c fs) → ∃ z, ax = some (i, z)
  tab : LamX.Tabs D.tb H
end
section
variable {D : Ad} {K : PySem.W.Frag} {ax : Ax} {m m' : Mp} {h : VH} {H : Hp} {a : Addr} {o : Ho}
theorem ObjR.mono (r : ObjR D K ax m H a o) (l : Le m m') : ObjR D K ax m' H a o := by
  cases o with
  | lst xs => obtain ⟨ys, h1, h2⟩ := r; exact ⟨ys, h1, h2.mono l⟩
  | tup xs => obtain ⟨ys, h1, h2⟩ := r; exact ⟨ys, h1, h2.mono l⟩
  | rol xs => obtain ⟨ys, h1, h2⟩ := r; exact ⟨ys, h1.mono l, h2⟩
  | dct xs => obtain ⟨ys, h1, h2⟩ := r; exact ⟨ys, h1, h2.mono l⟩
  | ins c fs => obtain ⟨dx, gs, h1, h2⟩ := r; exact ⟨dx, gs, h1, h2.mono l⟩
  | exn c fs => obtain ⟨k, dd, gs, h1, h2, h3⟩ := r; exact ⟨k, dd, gs, h1, h2, h3.mono l⟩
  | lam k => exact r
  | dead => trivial
theorem ObjR.trk (r : ObjR D K ax m H a o) (ow : own o = true) : ∃ u, H a = some u ∧ (∀ x y, u ≠ .frz x y) ∧ (∀ g, u ≠ .xd g) ∧ (∀ g, u ≠ .tbl g) ∧ ∀ g, u ≠ .ext g := by
  cases o with
  | lst xs => obtain ⟨ys, h1, h2⟩ := r; exact ⟨_, h1, (by intro _ _ z; cases z), (by intro _ z; cases z), (by intro _ z; cases z), (by intro _ z; cases z)⟩
  | tup xs => obtain ⟨ys, h1, h2⟩ := r; exact ⟨_, h1, (by intro _ _ z; cases z), (by intro _ z; cases z), (by intro _ z; cases z), (by intro _ z; cases z)⟩
  | dct xs => obtain ⟨ys, h1, h2⟩ := r; exact ⟨_, h1, (by intro _ _ z; cases z), (by intro _ z; cases z), (by intro _ z; cases z), (by intro _ z; cases z)⟩
  | ins c fs => obtain ⟨dx, gs, h1, h2⟩ := r; exact ⟨_, h1, (by intro _ _ z; cases z), (by intro _ z; cases z), (by intro _ z; cases z), (by intro _ z; cases z)⟩
  | rol xs => cases ow
  | exn c fs => cases ow
  | lam k => cases ow
  | dead => cases ow
/-- an object stays if H is changed at another address alone (for those that are ours), at no frozen one, at no error's dict -/
theorem ObjR.stay {p : Addr} {u : HO} (r : ObjR D K ax m H a o) (ha : own o = true → a ≠ p) (hf : ∀ x y, H p ≠ some (.frz x y)) (hx : ∀ g, H p ≠ some (.xd g)) (he : ∀ g, H p ≠ some (.ext g)) : ObjR D K ax m (upd H p u) a o := by
  cases o with
  | lst xs => obtain ⟨ys, h1, h2⟩ := r; exact ⟨ys, by rw [upd_ne (ha rfl)]; exact h1, h2⟩
  | tup xs => obtain ⟨ys, h1, h2⟩ := r; exact ⟨ys, by rw [upd_ne (ha rfl)]; exact h1, h2⟩
  | dct xs => obtain ⟨ys, h1, h2⟩ := r; exact ⟨ys, by rw [upd_ne (ha rfl)]; exact h1, h2⟩
  | ins c fs => obtain ⟨dx, gs, h1, h2⟩ := r; exact ⟨dx, gs, by rw [upd_ne (ha rfl)]; exact h1, h2⟩
  | rol xs =>
    obtain ⟨ys, h1, h2⟩ := r
    refine ⟨ys, h1, ?_⟩
    rcases h2 with ⟨x, h2⟩ | h2
    · exact .inl ⟨x, by rw [upd_ne (fun z => hf x _ (by rw [← z]; exact h2))]; exact h2⟩
    · exact .inr h2
  | exn c fs =>
    obtain ⟨k, dd, gs, h1, h2, h3⟩ := r
    exact ⟨k, dd, gs, h1, by rw [upd_ne (fun z => hx gs (by rw [← z]; exact h2))]; exact h2, h3⟩
  | lam k =>
    obtain ⟨lm, c, h1, h2, h3⟩ := r
    exact ⟨lm, c, by rw [upd_ne (fun z => he _ (by rw [← z]; exact h1))]; exact h1, by rw [upd_ne (fun z => he _ (by rw [← z]; exact h2))]; exact h2, h3⟩
  | dead => trivial
theorem tabs_stay {T : List (Addr × Str)} {p : Addr} {u : HO} (t : LamX.Tabs T H) (ht : ∀ g, H p ≠ some (.tbl g)) (he : ∀ g, H p ≠ some (.ext g)) : LamX.Tabs T (upd H p u) := fun q hq => by
  obtain ⟨ps, h1, h2, h3⟩ := t q hq
  refine ⟨ps, by rw [upd_ne (fun z => ht _ (by rw [← z]; exact h1))]; exact h1, h2, fun pos cv hc => ?_⟩
  obtain ⟨c, e1, e2⟩ := h3 pos cv hc
  exact ⟨c, e1, by rw [upd_ne (fun z => he _ (by rw [← z]; exact e2))]; exact e2⟩
def ext (m : Mp) (n : Nat) (p : Addr) : Mp := fun i => if i = n then some p else m i
theorem Sim.le (s : Sim D K ax m h H) (p : Addr) : Le m (ext m h.length p) := fun i a e => by
  have := s.dom i a e
  unfold ext
  rw [if_neg (by omega)]
  exact e
theorem ext_same {n : Nat} {p : Addr} : ext m n p n = some p := if_pos rfl
theorem Sim.ref (s : Sim D K ax m h H) {i : Nat} {x : V} (r : R D m (.ref i) x) (e : h[i]? = some o) : ∃ a, x = .ref a ∧ m i = some a ∧ ObjR D K ax m H a o := by
  obtain ⟨a, h1, h2⟩ := r
  obtain ⟨b, h3, h4⟩ := s.at_ i o e
  rw [h1] at h3
  cases h3
  exact ⟨a, h2, h1, h4⟩
/-- H changed at a new address that no object of ours has -/
theorem Sim.fresh {p : Addr} {u : HO} (s : Sim D K ax m h H) (hp : H p = none) : Sim D K ax m h (upd H p u) :=
  ⟨fun i o e => by
    obtain ⟨a, h1, h2⟩ := s.at_ i o e
    refine ⟨a, h1, h2.stay (fun ow z => ?_) (fun x y z => by rw [hp] at z; cases z) (fun g z => by rw [hp] at z; cases z) fun g z => by rw [hp] at z; cases z⟩
    obtain ⟨v, h3, _⟩ := h2.trk ow
    rw [z, hp] at h3
    exact (nomatch h3), s.dom, s.inj, s.one, tabs_stay s.tab (fun g z => by rw [hp] at z; cases z) fun g z => by rw [hp] at z; cases z⟩
/-- a new object -/
theorem Sim.new {p : Addr} {u : HO} (s : Sim D K ax m h H) (hp : H p = none) (ho : ObjR D K ax (ext m h.length p) (upd H p u) p o) (hx : ∀ c fs, o ≠ .exn c fs := by intro _ _ z; cases z) : Sim D K ax (ext m h.length p) (h ++ [o]) (upd H p u) := by
  have s1 := s.fresh (u := u) hp
  refine ⟨fun i o' e => ?_, fun i a e => ?_, fun i j o1 o2 a h1 h2 w1 w2 e1 e2 => ?_, fun i c fs e => ?_, s1.tab⟩
  rotate_right
  · by_cases hi : i < h.length
    · rw [List.getElem?_append_left hi] at e
      exact s.one i c fs e
    · have hi2 : i = h.length := by
        have := (List.getElem?_eq_some_iff.mp e).1
        rw [List.length_append, List.length_singleton] at this
        omega
      subst hi2
      rw [List.getElem?_append_right (Nat.le_refl _), Nat.sub_self] at e
      cases e
      exact (hx c fs rfl).elim
  · by_cases hi : i < h.length
    · rw [List.getElem?_append_left hi] at e
      obtain ⟨a, h1, h2⟩ := s1.at_ i o' e
      exact ⟨a, s.le p _ _ h1, h2.mono (s.le p)⟩
    · have hi2 : i = h.length := by
        have := (List.getElem?_eq_some_iff.mp e).1
        rw [List.length_append, List.length_singleton] at this
        omega
      subst hi2
      rw [List.getElem?_append_right (Nat.le_refl _), Nat.sub_self] at e
      cases e
      exact ⟨p, ext_same, ho⟩
  · unfold ext at e
    rw [List.length_append, List.length_singleton]
    by_cases hi : i = h.length
    · omega
    · rw [if_neg hi] at e
      have := s.dom i a e
      omega
  · have old : ∀ {i : Nat} {o : Ho} {a : Addr}, i < h.length → (h ++ [o])[i]? = h[i]? := fun hi => List.getElem?_append_left hi
    have key : ∀ {i : Nat} {o1 : Ho}, (h ++ [o])[i]? = some o1 → i ≠ h.length → h[i]? = some o1 ∧ ∀ a, ext m h.length p i = some a → m i = some a := fun {i o1} e hn => by
      have := (List.getElem?_eq_some_iff.mp e).1
      rw [List.length_append, List.length_singleton] at this
      rw [List.getElem?_append_left (by omega)] at e
      exact ⟨e, fun a q => by unfold ext at q; rw [if_neg hn] at q; exact q⟩
    have far : ∀ {i : Nat} {o1 : Ho} {a : Addr}, h[i]? = some o1 → own o1 = true → m i = some a → a ≠ p := fun {i o1 a} e w q z => by
      obtain ⟨b, h3, h4⟩ := s.at_ i o1 e
      rw [q] at h3; cases h3
      obtain ⟨v, h5, _⟩ := h4.trk w
      rw [z, hp] at h5; cases h5
    by_cases hi : i = h.length
    · by_cases hj : j = h.length
      · rw [hi, hj]
      · obtain ⟨k1, k2⟩ := key h2 hj
        subst hi
        rw [ext_same] at e1
        cases e1
        exact absurd rfl (far k1 w2 (k2 _ e2))
    · obtain ⟨k1, k2⟩ := key h1 hi
      by_cases hj : j = h.length
      · subst hj
        rw [ext_same] at e2
        cases e2
        exact absurd rfl (far k1 w1 (k2 _ e1))
      · obtain ⟨k3, k4⟩ := key h2 hj
        exact s.inj i j o1 o2 a k1 k3 w1 w2 (k2 _ e1) (k4 _ e2)
/-- one of ours is changed -/
theorem Sim.set {i : Nat} {o' : Ho} {u : HO} (s : Sim D K ax m h H) (e : h[i]? = some o) (w : own o = true) (w' : own o' = true) (hm : m i = some a) (ho : ObjR D K ax m (upd H a u) a o') : Sim D K ax m (h.set i o') (upd H a u) := by
  obtain ⟨b, h1, h2⟩ := s.at_ i o e
  rw [hm] at h1; cases h1
  obtain ⟨v, h3, h5, h6, h7, h8⟩ := h2.trk w
  have hl := (List.getElem?_eq_some_iff.mp e).1
  have old : ∀ {j : Nat} {o1 : Ho}, j ≠ i → (h.set i o')[j]? = some o1 → h[j]? = some o1 := fun hj q => by rw [List.getElem?_set_ne (Ne.symm hj)] at q; exact q
  have ow : ∀ {j : Nat} {o1 : Ho}, (h.set i o')[j]? = some o1 → own o1 = true → ∃ o2, h[j]? = some o2 ∧ own o2 = true := fun {j o1} q w1 => by
    by_cases hj : j = i
    · subst hj; exact ⟨o, e, w⟩
    · exact ⟨o1, old hj q, w1⟩
  refine ⟨fun j o1 q => ?_, fun j c q => by rw [List.length_set]; exact s.dom j c q, fun j k o1 o2 c q1 q2 w1 w2 e1 e2 => ?_, fun j c fs q => ?_, tabs_stay s.tab (fun g z => h7 g (by rw [h3] at z; exact Option.some.inj z)) fun g z => h8 g (by rw [h3] at z; exact Option.some.inj z)⟩
  rotate_right
  · by_cases hj : j = i
    · subst hj
      rw [List.getElem?_set_self hl] at q
      cases q
      cases w'
    · exact s.one j c fs (old hj q)
  · by_cases hj : j = i
    · subst hj
      rw [List.getElem?_set_self hl] at q
      cases q
      exact ⟨a, hm, ho⟩
    · have q' := old hj q
      obtain ⟨c, k1, k2⟩ := s.at_ j o1 q'
      refine ⟨c, k1, k2.stay (fun w1 z => hj ?_) (fun x y z => h5 x y ?_) (fun g z => h6 g ?_) fun g z => h8 g ?_⟩
      · subst z; exact s.inj j i o1 o c q' e w1 w k1 hm
      · rw [h3] at z; exact Option.some.inj z
      · rw [h3] at z; exact Option.some.inj z
      · rw [h3] at z; exact Option.some.inj z
  · obtain ⟨o3, k1, k2⟩ := ow q1 w1
    obtain ⟨o4, k3, k4⟩ := ow q2 w2
    exact s.inj j k o3 o4 c k1 k3 k2 k4 e1 e2
end
end Dv

set_option linter.all false
set_option autoImplicit false
set_option maxRecDepth 100000
set_option maxHeartbeats 1000000
namespace Dv
open PySem L2 PySem.Spec PyProof.Rows

/-- a law's text: what it gives, where it lies, the written part, the module's names -/
structure Wd where
  G : Tx
  D : Ad
  K : PySem.W.Frag
  mg : Str → Option Value
  cur : Option (Addr × Addr × Str)
/-- the constant objects -/
structure Wd.ConOk (w : Wd) : Prop where
  only : ∀ k o, w.G.cons k = some o → ∃ xs ys, o = .tup xs ∧ (∀ H, SqT w.K H (w.D.ka k) ys) ∧ ∀ m, RL w.D m xs ys
section
variable {w : Wd} {ax : Ax} {m m' : Mp} {h h' : VH} {H : Hp} {v : Vv} {x : V}
abbrev SimW (w : Wd) (ax : Ax) (m : Mp) (h : VH) (H : Hp) : Prop := Sim w.D w.K ax m h H
theorem seq_ok (g : w.ConOk) (s : SimW w ax m h H) (r : R w.D m v x) {xs : List Vv} (e : seqOf w.G h v = some xs) : ∃ p ys, x = .ref p ∧ (SqL w.K H p ys ∨ SqT w.K H p ys) ∧ RL w.D m xs ys := by
  unfold seqOf at e
  cases v with
  | ref i =>
    simp only [obj] at e
    cases q : h[i]? with
    | none => rw [q] at e; cases e
    | some o =>
      rw [q] at e
      obtain ⟨a, rfl, h1, h2⟩ := s.ref r q
      cases o with
      | lst ys => cases e; obtain ⟨zs, h3, h4⟩ := h2; exact ⟨a, zs, rfl, .inl (SqL.of h3), h4⟩
      | tup ys => cases e; obtain ⟨zs, h3, h4⟩ := h2; exact ⟨a, zs, rfl, .inr (SqT.of h3), h4⟩
      | rol ys =>
        cases e
        obtain ⟨zs, h3, h4⟩ := h2
        refine ⟨a, zs, rfl, .inl ?_, h3⟩
        rcases h4 with ⟨o, h4⟩ | h4
        · exact .inl (.inr ⟨o, h4⟩)
        · exact h4 H
      | _ => cases e
  | con k =>
    simp only [obj] at e
    cases q : w.G.cons k with
    | none => rw [q] at e; cases e
    | some o =>
      rw [q] at e
      obtain ⟨zs, ys, rfl, h1, h2⟩ := g.only k o q
      cases e
      exact ⟨_, ys, r, .inr (h1 H), h2 m⟩
  | _ => cases e
theorem mapM_ok {α : Type} {f : Vv → Option PyData} (k : ∀ v x d, R w.D m v x → f v = some d → Dp w.K H x d) : ∀ {xs : List Vv} {ys : List V} {ds : List PyData}, RL w.D m xs ys → xs.mapM f = some ds → DpAll w.K H ys ds
  | _, _, ds, .nil, e => by
    cases ds with
    | nil => exact .nil
    | cons d r => simp at e
  | v :: xs, y :: ys, ds, .cons r t, e => by
    rw [List.mapM_cons] at e
    cases q : f v with
    | none => rw [q] at e; simp at e
    | some d =>
      rw [q] at e
      cases q2 : xs.mapM f with
      | none => rw [q2] at e; simp at e
      | some dr =>
        rw [q2] at e
        simp at e
        subst e
        exact .cons (k v y d r q) (mapM_ok (α := α) k t q2)
theorem dat_ok (g : w.ConOk) (s : SimW w ax m h H) : ∀ (n : Nat) {v : Vv} {x : V} {d : PyData}, R w.D m v x → dat w.G h n v = some d → Dp w.K H x d
  | 0, v, x, d, r, e => by
    cases v with
    | non => cases (show x = .non from r); simp only [dat, Option.some.injEq] at e; subst e; exact .non
    | bl b => cases (show x = .bl b from r); simp only [dat, Option.some.injEq] at e; subst e; exact .bl b
    | int i => cases (show x = .int i from r); simp only [dat, Option.some.injEq] at e; subst e; exact .int i
    | str z => cases (show x = .str z from r); simp only [dat, Option.some.injEq] at e; subst e; exact .str z
    | _ => simp [dat] at e
  | n + 1, v, x, d, r, e => by
    cases v with
    | non => cases (show x = .non from r); simp only [dat, Option.some.injEq] at e; subst e; exact .non
    | bl b => cases (show x = .bl b from r); simp only [dat, Option.some.injEq] at e; subst e; exact .bl b
    | int i => cases (show x = .int i from r); simp only [dat, Option.some.injEq] at e; subst e; exact .int i
    | str z => cases (show x = .str z from r); simp only [dat, Option.some.injEq] at e; subst e; exact .str z
    | ref i =>
      simp only [dat] at e
      cases q : h[i]? with
      | none => rw [q] at e; cases e
      | some o =>
        rw [q] at e
        obtain ⟨a, rfl, h1, h2⟩ := s.ref r q
        cases o with
        | lst ys =>
          obtain ⟨zs, h3, h4⟩ := h2
          obtain ⟨ds, h5, rfl⟩ := Option.map_eq_some_iff.mp e
          exact .lst (SqL.of h3) (mapM_ok (α := Unit) (fun v x d r e => dat_ok g s n r e) h4 h5)
        | tup ys =>
          obtain ⟨zs, h3, h4⟩ := h2
          obtain ⟨ds, h5, rfl⟩ := Option.map_eq_some_iff.mp e
          exact .tup (SqT.of h3) (mapM_ok (α := Unit) (fun v x d r e => dat_ok g s n r e) h4 h5)
        | _ => cases e
    | con k =>
      simp only [dat] at e
      cases q : w.G.cons k with
      | none => rw [q] at e; cases e
      | some o =>
        rw [q] at e
        obtain ⟨zs, ys, rfl, h1, h2⟩ := g.only k o q
        obtain ⟨ds, h5, rfl⟩ := Option.map_eq_some_iff.mp e
        cases (show x = .ref (w.D.ka k) from r)
        exact .tup (h1 H) (mapM_ok (α := Unit) (fun v x d r e => dat_ok g s n r e) (h2 m) h5)
    | _ => simp [dat] at e
end

/-- what is wanted of a value behind -/
def PV (w : Wd) (ax : Ax) (m : Mp) (Q : VK) (v : Vv) (h' : VH) : Prop := ∀ m' H' x, Le m m' → SimW w ax m' h' H' → R w.D m' v x → Q x H'
/-- .. of a result: what is related to it, an error -/
def PRr {α β : Type} (w : Wd) (ax : Ax) (rel : Mp → α → β → Prop) (E : XK) (m : Mp) (Q : β → Hp → Prop) : Re α → Prop
  | .ok v h' => ∀ m' H' x, Le m m' → SimW w ax m' h' H' → rel m' v x → Q x H'
  | .ex x h' => ∀ m' H' dd gs, Le m m' → SimW w ax m' h' H' → H' dd = some (.xd gs) → RF w.D m' x.fs gs → E (.ref (w.D.ca x.c)) (some dd) H'
theorem PRr.mono {α β : Type} {w : Wd} {ax : Ax} {rel : Mp → α → β → Prop} {E : XK} {m m1 : Mp} {Q : β → Hp → Prop} {r : Re α} (p : PRr w ax rel E m Q r) (l : Le m m1) : PRr w ax rel E m1 Q r := by
  cases r with
  | ok v h => exact fun m' H' x k => p m' H' x (l.trans k)
  | ex x h => exact fun m' H' dd gs k => p m' H' dd gs (l.trans k)
theorem sz_eq : sz = sizeLine := by rw [sizeLine_eq]; rfl
section
variable {w : Wd} {ax : Ax} {m m' : Mp} {h h' : VH} {H : Hp} {v : Vv} {x : V} {Q : VK} {o : Ho}
theorem PV.here (p : PV w ax m Q v h) (s : SimW w ax m h H) (r : R w.D m v x) : Q x H := p m H x (Le.refl m) s r
/-- a new object laid -/
theorem PV.new (k : PV w ax m Q (.ref h.length) (h ++ [o])) (s : SimW w ax m h H) {p : Addr} {u : HO} (hp : H p = none) (ho : ObjR w.D w.K ax (ext m h.length p) (upd H p u) p o) (hx : ∀ c fs, o ≠ .exn c fs := by intro _ _ z; cases z) : Q (.ref p) (upd H p u) :=
  k _ _ _ (s.le p) (s.new hp ho hx) ⟨p, ext_same, rfl⟩
end

/-- a two-place operator by its result -/
def rB (w : Wd) (ax : Ax) (f : Vv → Vv → VH → Option (Re Vv)) : R2 := fun x y H Q => ∃ m h u v c h', R w.D m u x ∧ R w.D m v y ∧ SimW w ax m h H ∧ f u v h = some (.ok c h') ∧ PV w ax m Q c h'
section
variable {w : Wd} {ax : Ax} {X : Cx}
theorem op_bin (hK : X.K = w.K) (op : Operator) : OpR X (PySem.binaryOp op) (rB w ax (binop op)) := by
  intro pins s σ H x y v u Q I rx ry ⟨m, h, a, b, c, h', ra, rb, sm, e, post⟩
  unfold binop at e
  split at e
  · rename_i i j
    cases e; cases ra; cases rb
    exact op_add pins s σ H _ _ v u Q I rx ry ⟨i, j, rfl, rfl, post.here sm rfl⟩
  · rename_i i j
    cases e; cases ra; cases rb
    exact op_sub pins s σ H _ _ v u Q I rx ry ⟨i, j, rfl, rfl, post.here sm rfl⟩
  · rename_i i j
    split at e
    · rename_i hc
      cases e; cases ra; cases rb
      exact op_mul pins s σ H _ _ v u Q I rx ry ⟨i, j, rfl, rfl, hc, post.here sm rfl⟩
    · cases e
  · rename_i i j
    split at e
    · rename_i hc
      cases e; cases ra; cases rb
      exact op_fdiv pins s σ H _ _ v u Q I rx ry ⟨i, j, rfl, rfl, hc, post.here sm rfl⟩
    · cases e
  · rename_i i j
    split at e
    · rename_i hc
      cases e; cases ra; cases rb
      exact op_mod pins s σ H _ _ v u Q I rx ry ⟨i, j, rfl, rfl, hc, post.here sm rfl⟩
    · cases e
  · rename_i i j
    split at e
    · rename_i hc
      cases e; cases ra; cases rb
      exact op_pow pins s σ H _ _ v u Q I rx ry ⟨i, j, rfl, rfl, hc, post.here sm rfl⟩
    · cases e
  · rename_i i j
    split at e
    · rename_i hc
      cases e; cases ra; cases rb
      exact op_add_str pins s σ H _ _ v u Q I rx ry ⟨i, j, rfl, rfl, by rw [← sz_eq]; exact hc, post.here sm rfl⟩
    · cases e
  · rename_i i j
    split at e
    · rename_i xs ys q1 q2
      split at e
      · rename_i hc
        cases e
        obtain ⟨p1, rfl, _, zs, h1, h2⟩ := sm.ref ra q1
        obtain ⟨p2, rfl, _, ws, h3, h4⟩ := sm.ref rb q2
        refine op_cat pins s σ H _ _ v u Q I rx ry ⟨p1, p2, zs, ws, rfl, rfl, h1, h3, ?_, fun p hp => post.new sm hp ⟨_, upd_same, Paired.app (h2.mono (sm.le p)) (h4.mono (sm.le p))⟩⟩
        rw [← h2.length, ← h4.length, ← sz_eq]
        exact hc
      · cases e
    · cases e
  · rename_i i k
    split at e
    · rename_i xs q1
      split at e
      · rename_i hc
        cases e
        cases rb
        obtain ⟨p1, rfl, _, zs, h1, h2⟩ := sm.ref ra q1
        refine op_rep pins s σ H _ _ v u Q I rx ry ⟨p1, k, zs, rfl, rfl, h1, hc.1, hc.2.1, ?_, fun p hp => post.new sm hp ⟨_, upd_same, Paired.rep (h2.mono (sm.le p)) _⟩⟩
        rw [← h2.length, ← sz_eq]
        exact hc.2.2
      · cases e
    · cases e
  · cases e
/-- flat values -/
theorem flat_V {D : Ad} {m : Mp} {v : Vv} {x : V} (r : R D m v x) (f : flat v = true) : flatV x = true := by
  cases v with
  | non => cases r; rfl
  | bl b => cases r; rfl
  | int i => cases r; rfl
  | str z => cases r; rfl
  | _ => cases f
theorem flat_all {D : Ad} {m : Mp} : ∀ {vs : List Vv} {xs : List V}, RL D m vs xs → vs.all flat = true → xs.all flatV = true
  | _, _, .nil, _ => rfl
  | _ :: _, _ :: _, .cons r t, f => by
    rw [List.all_cons, Bool.and_eq_true] at f ⊢
    exact ⟨flat_V r f.1, flat_all t f.2⟩
theorem feq_V {D : Ad} {m : Mp} {v u : Vv} {x y : V} (r : R D m v x) (r' : R D m u y) (f : flat v = true) (f' : flat u = true) : feq v u = eqV x y := by
  cases v with
  | non => cases r; cases u <;> first | (cases r'; rfl) | cases f'
  | bl b => cases r; cases u <;> first | (cases r'; rfl) | cases f'
  | int i => cases r; cases u <;> first | (cases r'; rfl) | cases f'
  | str z => cases r; cases u <;> first | (cases r'; rfl) | cases f'
  | _ => cases f
theorem any_V {D : Ad} {m : Mp} {u : Vv} {y : V} (r' : R D m u y) (f' : flat u = true) : ∀ {vs : List Vv} {xs : List V}, RL D m vs xs → vs.all flat = true → (vs.any fun z => feq z u) = inV y xs
  | _, _, .nil, _ => rfl
  | v :: vs, x :: xs, .cons r t, f => by
    rw [List.all_cons, Bool.and_eq_true] at f
    unfold inV
    rw [List.any_cons, List.any_cons, feq_V r r' f.1 f', any_V r' f' t f.2]
    rfl
end
end Dv

set_option linter.all false
set_option autoImplicit false
set_option maxRecDepth 100000
set_option maxHeartbeats 1000000
namespace Dv
open PySem L2 PySem.Spec PyProof.Rows
section
variable {w : Wd} {ax : Ax} {X : Cx} {m : Mp} {h : VH} {H : Hp} {v : Vv} {x : V}
theorem non_iff {D : Ad} (r : R D m v x) : decide (v = .non) = decide (x = .non) := by
  cases v with
  | non => cases (show x = .non from r); rfl
  | bl b => cases (show x = .bl b from r); rfl
  | int i => cases (show x = .int i from r); rfl
  | str z => cases (show x = .str z from r); rfl
  | ref i => obtain ⟨a, _, rfl⟩ := r; rfl
  | fn f => cases (show x = .ref (D.fa f) from r); rfl
  | cls c => cases (show x = .ref (D.ca c) from r); rfl
  | ty n => cases (show x = .ty n from r); rfl
  | con k => cases (show x = .ref (D.ka k) from r); rfl
theorem in_seq_ok (g : w.ConOk) (s : SimW w ax m h H) {u : Vv} {y : V} (ra : R w.D m u x) (rb : R w.D m v y) {xs : List Vv} (q : seqOf w.G h v = some xs) (hf : (flat u && xs.all flat) = true) :
    ∃ p ys, y = .ref p ∧ (SqL w.K H p ys ∨ SqT w.K H p ys) ∧ flatV x = true ∧ ys.all flatV = true ∧ inV x ys = xs.any fun z => feq z u := by
  rw [Bool.and_eq_true] at hf
  obtain ⟨p, ys, rfl, h1, h2⟩ := seq_ok g s rb q
  exact ⟨p, ys, rfl, h1, flat_V ra hf.1, flat_all h2 hf.2, (any_V ra hf.1 h2 hf.2).symm⟩
theorem valK_ok {D : Ad} {m : Mp} {k : Key} : ∀ {xs : List (Key × Vv)} {ys : List (Key × V)}, RK D m xs ys → (valK xs k = none ∧ valV ys k = none) ∨ ∃ v y, valK xs k = some v ∧ valV ys k = some y ∧ R D m v y
  | _, _, .nil => .inl ⟨rfl, rfl⟩
  | _, _, .cons (a := p) (b := q) ⟨e, r⟩ t => by
    by_cases z : p.1 = k
    · exact .inr ⟨p.2, q.2, by simp [valK, List.find?_cons, z], valV_pos (e ▸ z), r⟩
    · have z2 : ¬ q.1 = k := fun w => z (e.trans w)
      have a1 : ∀ xs, valK (p :: xs) k = valK xs k := fun xs => by simp [valK, List.find?_cons, z]
      rw [a1, valV_neg z2]
      exact valK_ok t
theorem flat_one {D : Ad} {y z : V} (f : flat v = true) (r1 : R D m v y) (r2 : R D m v z) : y = z ∧ flatB y = true := by
  cases v with
  | non => cases r1; cases r2; exact ⟨rfl, rfl⟩
  | bl b => cases r1; cases r2; exact ⟨rfl, rfl⟩
  | int i => cases r1; cases r2; exact ⟨rfl, rfl⟩
  | str z => cases r1; cases r2; exact ⟨rfl, rfl⟩
  | _ => cases f
theorem eqK_ok {D : Ad} {ls : List (Key × Vv)} {lv : List (Key × V)} (r : RK D m ls lv) : ∀ {ks : List (Key × Vv)} {kv : List (Key × V)}, RK D m ks kv → (ks.all fun p => flat p.2 && decide (valK ls p.1 = some p.2)) = true → ∀ z ∈ kv, valV lv z.1 = some z.2 ∧ flatB z.2 = true
  | _, _, .nil, _, z, hz => by cases hz
  | _, _, .cons (a := p) (b := q) ⟨e, rq⟩ t, h, z, hz => by
    rw [List.all_cons, Bool.and_eq_true, Bool.and_eq_true] at h
    obtain ⟨⟨hf, hv⟩, ht⟩ := h
    rcases List.mem_cons.mp hz with rfl | hz
    · have hv := of_decide_eq_true hv
      rcases valK_ok (k := p.1) r with ⟨k1, _⟩ | ⟨u, y, k1, k2, k3⟩
      · rw [k1] at hv; cases hv
      · rw [k1] at hv
        cases hv
        obtain ⟨k4, k5⟩ := flat_one hf rq k3
        rw [← e, k2, k4]
        exact ⟨rfl, by rw [← k4]; exact k5⟩
    · exact eqK_ok r t ht z hz
theorem eqdD_ok (s : SimW w ax m h H) {a b : Vv} {x y : V} (ra : R w.D m a x) (rb : R w.D m b y) {k : Bool} (e : eqdD h a b = some k) :
    k = true ∧ ∃ p q ks ls, x = .ref p ∧ y = .ref q ∧ H p = some (.dK ks) ∧ H q = some (.dK ls) ∧ ks.length = ls.length ∧ ∀ z ∈ ks, valV ls z.1 = some z.2 ∧ flatB z.2 = true := by
  unfold eqdD at e
  split at e
  · split at e
    · rename_i ks ls q1 q2
      split at e
      · rename_i hk
        cases e
        obtain ⟨p, rfl, _, kv, h1, h2⟩ := s.ref ra q1
        obtain ⟨q, rfl, _, lv, h3, h4⟩ := s.ref rb q2
        unfold eqK at hk
        rw [Bool.and_eq_true] at hk
        refine ⟨rfl, p, q, kv, lv, rfl, rfl, h1, h3, ?_, eqK_ok h4 h2 hk.2⟩
        rw [← h2.length, ← h4.length]
        exact of_decide_eq_true hk.1
      · cases e
    · cases e
  · cases e
theorem op_cmp (hK : X.K = w.K) (g : w.ConOk) (hu : X.A.units + 64 < cLine) (o : Orc) (op : CmpOp) : OpR X (PySem.compareOp op) (rB w ax (cmpop w.G o op)) := by
  intro pins s σ H x y v u Q I rx ry ⟨m, h, a, b, c, h', ra, rb, sm, e, post⟩
  unfold cmpop at e
  have isq : ∀ {neg : Bool} {xs : List Vv}, seqOf w.G h b = some xs → (flat a && xs.all flat) = true → Q (.bl (if neg then !(xs.any fun z => feq z a) else xs.any fun z => feq z a)) H → rIn X.K neg x y H Q := fun {neg xs} q hf hq => by
    obtain ⟨p, ys, e1, h1, h2, h3, h4⟩ := in_seq_ok g sm ra rb q hf
    rw [hK]
    exact ⟨p, ys, e1, h1, h2, h3, by rw [h4]; exact hq⟩
  cases op with
  | Lt =>
    dsimp only at e
    split at e
    · cases e; cases ra; cases rb
      exact op_lt pins s σ H _ _ v u Q I rx ry ⟨_, _, rfl, rfl, post.here sm rfl⟩
    · cases e
  | LtE =>
    dsimp only at e
    split at e
    · cases e; cases ra; cases rb
      exact op_le pins s σ H _ _ v u Q I rx ry ⟨_, _, rfl, rfl, post.here sm rfl⟩
    · cases e
  | Gt =>
    dsimp only at e
    split at e
    · cases e; cases ra; cases rb
      exact op_gt pins s σ H _ _ v u Q I rx ry ⟨_, _, rfl, rfl, post.here sm rfl⟩
    · cases e
  | GtE =>
    dsimp only at e
    split at e
    · cases e; cases ra; cases rb
      exact op_ge pins s σ H _ _ v u Q I rx ry ⟨_, _, rfl, rfl, post.here sm rfl⟩
    · cases e
  | Is =>
    dsimp only at e
    split at e
    · cases e; cases rb
      refine op_isN pins s σ H _ _ v u Q I rx ry ⟨rfl, ?_⟩
      rw [← non_iff ra]
      exact post.here sm rfl
    · cases e
  | IsNot =>
    dsimp only at e
    split at e
    · cases e; cases rb
      refine op_notN pins s σ H _ _ v u Q I rx ry ⟨rfl, ?_⟩
      rw [← non_iff ra]
      exact post.here sm rfl
    · cases e
  | Eq =>
    dsimp only at e
    obtain ⟨k, h1, h2⟩ := Option.bind_eq_some_iff.mp e
    cases h2
    unfold eqd at h1
    split at h1
    · rename_i d d' q1 q2
      split at h1
      · rename_i hs
        cases h1
        rw [Bool.and_eq_true] at hs
        refine op_eqD hu pins s σ H _ _ v u Q I rx ry ⟨d, d', ?_, ?_, hs.1, hs.2, post.here sm rfl⟩
        · rw [hK]; exact dat_ok g sm 8 ra q1
        · rw [hK]; exact dat_ok g sm 8 rb q2
      · cases h1
    · obtain ⟨rfl, p, q, ks, ls, rfl, rfl, k1, k2, k3, k4⟩ := eqdD_ok sm ra rb h1
      exact op_eq_dictA (by omega) pins s σ H _ _ v u Q I rx ry ⟨p, q, ks, ls, rfl, rfl, k1, k2, k3, k4, post.here sm rfl⟩
  | NotEq =>
    dsimp only at e
    obtain ⟨k, h1, h2⟩ := Option.bind_eq_some_iff.mp e
    cases h2
    unfold eqd at h1
    split at h1
    · rename_i d d' q1 q2
      split at h1
      · rename_i hs
        cases h1
        rw [Bool.and_eq_true] at hs
        refine op_neD hu pins s σ H _ _ v u Q I rx ry ⟨d, d', ?_, ?_, hs.1, hs.2, post.here sm rfl⟩
        · rw [hK]; exact dat_ok g sm 8 ra q1
        · rw [hK]; exact dat_ok g sm 8 rb q2
      · cases h1
    · obtain ⟨rfl, p, q, ks, ls, rfl, rfl, k1, k2, k3, k4⟩ := eqdD_ok sm ra rb h1
      exact op_ne_dictA (by omega) pins s σ H _ _ v u Q I rx ry ⟨p, q, ks, ls, rfl, rfl, k1, k2, k3, k4, post.here sm rfl⟩
  | In =>
    dsimp only at e
    split at e
    · cases e; cases ra; cases rb
      exact op_in_str pins s σ H _ _ v u Q I rx ry ⟨_, _, rfl, rfl, post.here sm rfl⟩
    · obtain ⟨xs, h1, h2⟩ := Option.bind_eq_some_iff.mp e
      split at h2
      · rename_i hf
        cases h2
        exact op_in_seq pins s σ H _ _ v u Q I rx ry (isq (neg := false) h1 hf (post.here sm rfl))
      · cases h2
  | NotIn =>
    dsimp only at e
    split at e
    · cases e; cases ra; cases rb
      exact op_notin_str pins s σ H _ _ v u Q I rx ry ⟨_, _, rfl, rfl, post.here sm rfl⟩
    · obtain ⟨xs, h1, h2⟩ := Option.bind_eq_some_iff.mp e
      split at h2
      · rename_i hf
        cases h2
        exact op_notIn_seq pins s σ H _ _ v u Q I rx ry (isq (neg := true) h1 hf (post.here sm rfl))
      · cases h2
theorem isEmpty_len {α β : Type} {xs : List α} {ys : List β} (h : xs.length = ys.length) : xs.isEmpty = ys.isEmpty := by
  cases xs <;> cases ys <;> first | rfl | cases h
theorem tru_V (g : w.ConOk) (s : SimW w ax m h H) (r : R w.D m v x) {b : Bool} (e : truth w.G v h = some b) : TruV w.K x H b := by
  have sq : ∀ {xs : List Vv}, seqOf w.G h v = some xs → b = !xs.isEmpty → TruV w.K x H b := fun {xs} q hb => by
    obtain ⟨p, ys, rfl, h1, h2⟩ := seq_ok g s r q
    subst hb
    rcases h1 with h1 | h1
    · exact .inl ⟨ys, h1, by rw [isEmpty_len h2.length]⟩
    · exact .inr (.inl ⟨ys, h1, by rw [isEmpty_len h2.length]⟩)
  unfold truth at e
  cases v with
  | non => cases (show x = .non from r); cases e; rfl
  | bl b => cases (show x = .bl b from r); cases e; rfl
  | int i => cases (show x = .int i from r); cases e; rfl
  | str z =>
    cases (show x = .str z from r)
    dsimp only at e
    split at e
    · rename_i hz
      cases e
      exact ⟨by rw [← sz_eq]; exact hz, rfl⟩
    · cases e
  | _ =>
    obtain ⟨xs, h1, h2⟩ := Option.map_eq_some_iff.mp e
    exact sq h1 h2.symm
theorem place_ix (n : Nat) (i : Int) : place n i = ixN n i := rfl
theorem at_ok {D : Ad} {xs : List Vv} {ys : List V} (r : RL D m xs ys) {i : Int} {v : Vv} (e : ((place xs.length i).bind fun j => xs[j]?) = some v) : ∃ z, atI ys i = some z ∧ R D m v z := by
  obtain ⟨j, h1, h2⟩ := Option.bind_eq_some_iff.mp e
  obtain ⟨z, h3, h4⟩ := Paired.get r h2
  refine ⟨z, ?_, h4⟩
  unfold atI
  rw [← place_ix, ← r.length, h1]
  exact h3
theorem ix_D (hK : X.K = w.K) (g : w.ConOk) : IxR X (rB w ax (index w.G)) := by
  intro value slc pins s σ H x y v u Q I rx ry ⟨m, h, a, b, c, h', ra, rb, sm, e, post⟩ hs
  have sq : ∀ {i : Int} {xs : List Vv}, b = .int i → seqOf w.G h a = some xs → (((place xs.length i).bind fun j => xs[j]?).bind fun v => ok1 v h) = some (.ok c h') → wpAny (model X.prog X.w) X.A (subscriptTail value slc v u) (EP X pins σ Q) X.xe s := fun {i xs} hb q hi => by
    subst hb
    obtain ⟨v', h1, h2⟩ := Option.bind_eq_some_iff.mp hi
    cases h2
    cases rb
    obtain ⟨p, ys, rfl, h3, h4⟩ := seq_ok g sm ra q
    obtain ⟨z, h5, h6⟩ := at_ok h4 h1
    rcases h3 with h3 | h3
    · exact ix_list value slc pins s σ H _ _ v u Q I rx ry ⟨p, ys, i, z, rfl, rfl, by rw [hK]; exact h3, h5, post.here sm h6⟩ hs
    · exact ix_tup value slc pins s σ H _ _ v u Q I rx ry ⟨p, ys, i, z, rfl, rfl, by rw [hK]; exact h3, h5, post.here sm h6⟩ hs
  unfold index at e
  split at e
  · rename_i z i
    split at e
    · rename_i hz
      obtain ⟨k, h1, h2⟩ := Option.bind_eq_some_iff.mp e
      cases h2
      cases ra; cases rb
      refine ix_str value slc pins s σ H _ _ v u Q I rx ry ⟨z, i, k, rfl, rfl, by rw [← sz_eq]; exact hz, ?_, post.here sm rfl⟩ hs
      exact h1
    · cases e
  · obtain ⟨xs, h1, h2⟩ := Option.bind_eq_some_iff.mp e
    exact sq rfl h1 h2
  · cases e
end
end Dv

set_option linter.all false
set_option autoImplicit false
set_option maxRecDepth 100000
set_option maxHeartbeats 1000000
namespace Dv
open PySem L2 PySem.Spec PyProof.Rows
/-- a type as the model's value -/
def tval (D : Ad) : Vv → Value
  | .ty n => .type n
  | .cls c => .ref (D.ca c)
  | _ => .none
/-- what is known of a class of instances -/
structure ClsI (K : PySem.W.Frag) (C : Addr) : Prop where
  cl : Cls K C
  ha : PySem.W.findIn K (.ref C) "__class__" = some (some (.builtin "object.__class__"))
  hn : PySem.W.specialIn K (.builtin "object.__class__") "__get__" = some (some (.builtin "getset_descriptor.__get__"))
  htk : PySem.W.takesIn K (.builtin "object.__class__") = some true
  hm : PySem.W.mroIn K C (.type "object") = some true
/-- the types that values have here -/
def tyK (G : Tx) : Vv → Bool
  | .ty n => ["NoneType", "int", "bool", "str", "list", "tuple", "dict"].contains n
  | .cls d => G.clsI.contains d
  | _ => false
/-- isinstance: by a finite table; every class of instances is known -/
structure Wd.IsiOk (w : Wd) : Prop where
  inst : ∀ c, w.G.clsI.contains c = true → ClsI w.K (w.D.ca c)
  isi : ∀ t c b, tyK w.G t = true → isiT w.G t c = some b → PySem.W.kitOne w.K (tval w.D t) (tval w.D c) = some b
section
variable {w : Wd} {ax : Ax} {X : Cx} {m : Mp} {h : VH} {H : Hp} {v : Vv} {x : V}
theorem tyv_ok (g : w.ConOk) (s : SimW w ax m h H) (k : w.IsiOk) (r : R w.D m v x) {t : Vv} (e : tyv w.G h v = some t) :
    TyX w.K H x (tval w.D t) ∧ tyK w.G t = true := by
  unfold tyv at e
  cases v with
  | non => cases (show x = .non from r); cases e; exact ⟨.base .non, rfl⟩
  | bl b => cases (show x = .bl b from r); cases e; exact ⟨.base (.bl _), rfl⟩
  | int i => cases (show x = .int i from r); cases e; exact ⟨.base (.int _), rfl⟩
  | str z => cases (show x = .str z from r); cases e; exact ⟨.base (.str _), rfl⟩
  | ref i =>
    simp only [obj] at e
    cases q : h[i]? with
    | none => rw [q] at e; cases e
    | some o =>
      rw [q] at e
      obtain ⟨a, rfl, h1, h2⟩ := s.ref r q
      cases o with
      | lst ys => cases e; obtain ⟨zs, h3, _⟩ := h2; exact ⟨.base (.lst h3), rfl⟩
      | rol ys =>
        cases e
        obtain ⟨zs, h3, h4⟩ := h2
        refine ⟨?_, rfl⟩
        rcases h4 with ⟨o, h4⟩ | h4
        · exact .base (.frz h4)
        · rcases h4 (fun _ => none) with h5 | ⟨o, its, n, h5, h6, _⟩
          · rcases h5 with h5 | ⟨_, h5⟩ <;> cases h5
          · exact .kList h5 h6
      | tup ys => cases e; obtain ⟨zs, h3, _⟩ := h2; exact ⟨.base (.tup h3), rfl⟩
      | dct ys => cases e; obtain ⟨zs, h3, _⟩ := h2; exact ⟨.base (.dK h3), rfl⟩
      | ins c fs =>
        dsimp only at e
        split at e
        · rename_i hc
          cases e
          obtain ⟨dx, gs, h3, _⟩ := h2
          have I := k.inst c hc
          exact ⟨.base (.ins h3 I.cl I.ha I.hn I.htk I.hm), hc⟩
        · cases e
      | _ => cases e
  | con c =>
    simp only [obj] at e
    cases q : w.G.cons c with
    | none => rw [q] at e; cases e
    | some o =>
      rw [q] at e
      obtain ⟨xs, ys, rfl, h1, _⟩ := g.only c o q
      cases e
      cases (show x = .ref (w.D.ka c) from r)
      refine ⟨?_, rfl⟩
      rcases h1 (fun _ => none) with h5 | ⟨o, its, n, h5, h6, _⟩
      · rcases h5 with h5 | ⟨_, h5⟩ <;> cases h5
      · exact .kTuple h5 h6
  | _ => cases e
theorem clsv {G : Tx} {D : Ad} {t c : Vv} {b : Bool} {x : V} (r : R D m c x) (hc : isiT G t c = some b) : ClsV x (tval D c) := by
  cases c with
  | ty n => cases (show x = .ty n from r); exact .ty n
  | cls d => cases (show x = .ref (D.ca d) from r); exact .own _
  | _ => cases t <;> cases hc
theorem call_isiD (hK : X.K = w.K) (g : w.ConOk) (k : w.IsiOk) {pins : List (Addr × Obj)} {s : Shared} {σ : L2.St} {xs : List V} {us : List Value} {Q : VK} {u c : Vv} {b : Bool} (I : Inv X pins σ H s) (ru : Vals xs us) (sm : SimW w ax m h H)
    (rl : RL w.D m [u, c] xs) (e : isinst w.G u c h = some b) (hq : Q (.bl b) H) : wpAny (model X.prog X.w) X.A (call (.builtin "isinstance") us) (EP X pins σ Q) X.xe s := by
  cases rl with
  | cons r1 r2 =>
    cases r2 with
    | cons r2 r3 =>
      cases r3
      unfold isinst at e
      obtain ⟨t, h1, h2⟩ := Option.bind_eq_some_iff.mp e
      obtain ⟨h3, h4⟩ := tyv_ok g sm k r1 h1
      exact call_isi pins s σ H _ us Q I ru ⟨_, _, _, _, b, rfl, clsv r2 h2, by rw [hK]; exact h3, by rw [hK]; exact k.isi t c b h4 h2, hq⟩
end
end Dv

set_option linter.all false
set_option autoImplicit false
set_option maxRecDepth 100000
set_option maxHeartbeats 2000000
namespace Dv
open PySem L2 PySem.Spec PyProof.Rows
/-- the name of a built-in, is it a type, its id -/
def Bf.name : Bf → Str
  | .len => "len" | .isinst => "isinstance" | .int => "int" | .str => "str" | .bool => "bool" | .abs => "abs" | .min => "min" | .max => "max" | .all => "all" | .any => "any" | .repr => "repr" | .list => "list" | .tuple => "tuple" | .sum => "sum" | .sorted => "sorted" | .dict => "dict"
def Bf.val : Bf → Value
  | .len => .builtin "len" | .isinst => .builtin "isinstance" | .int => .type "int" | .str => .type "str" | .bool => .type "bool" | .abs => .builtin "abs" | .min => .builtin "min" | .max => .builtin "max" | .all => .builtin "all" | .any => .builtin "any" | .repr => .builtin "repr" | .list => .type "list" | .tuple => .type "tuple" | .sum => .builtin "sum" | .sorted => .builtin "sorted" | .dict => .type "dict"
/-- those that are called where nothing is handled alone -/
def Bf.cold : Bf → Bool
  | .min => true | .max => true | .all => true | .any => true | .sum => true | .sorted => true | .list => true | .tuple => true | .dict => true
  | _ => false
/-- a call of a built-in by its result -/
def rCB (w : Wd) (ax : Ax) (f : List Vv → VH → Option (Re Vv)) : List V → Hp → VK → Prop := fun xs H Q => ∃ m h vs c h', RL w.D m vs xs ∧ SimW w ax m h H ∧ f vs h = some (.ok c h') ∧ PV w ax m Q c h'
section
variable {w : Wd} {ax : Ax} {X : Cx} {m : Mp} {h : VH} {H : Hp} {v : Vv} {x : V}
theorem rl1 {D : Ad} {v : Vv} {xs : List V} (r : RL D m [v] xs) : ∃ x, xs = [x] ∧ R D m v x := by
  cases r with
  | cons r t => cases t; exact ⟨_, rfl, r⟩
theorem rl2 {D : Ad} {v u : Vv} {xs : List V} (r : RL D m [v, u] xs) : ∃ x y, xs = [x, y] ∧ R D m v x ∧ R D m u y := by
  cases r with
  | cons r t => obtain ⟨y, rfl, r'⟩ := rl1 t; exact ⟨_, y, rfl, r, r'⟩
theorem bools_ok {D : Ad} : ∀ {vs : List Vv} {xs : List V} {bs : List Bool}, RL D m vs xs → bools vs = some bs → xs = bs.map V.bl
  | _, _, bs, .nil, e => by cases e; rfl
  | v :: vs, x :: xs, bs, .cons r t, e => by
    cases v with
    | bl b =>
      obtain ⟨bs', h1, rfl⟩ := Option.map_eq_some_iff.mp (show (bools vs).map (b :: ·) = some bs from e)
      cases (show x = .bl b from r)
      rw [bools_ok t h1]; rfl
    | _ => cases e
theorem txts_ok {D : Ad} : ∀ {vs : List Vv} {xs : List V} {bs : List Str}, RL D m vs xs → txts vs = some bs → xs = bs.map V.str
  | _, _, bs, .nil, e => by cases e; rfl
  | v :: vs, x :: xs, bs, .cons r t, e => by
    cases v with
    | str b =>
      obtain ⟨bs', h1, rfl⟩ := Option.map_eq_some_iff.mp (show (txts vs).map (b :: ·) = some bs from e)
      cases (show x = .str b from r)
      rw [txts_ok t h1]; rfl
    | _ => cases e
theorem len_seq_ok (hK : X.K = w.K) (g : w.ConOk) {pins : List (Addr × Obj)} {s : Shared} {σ : L2.St} {xs : List V} {us : List Value} {Q : VK} (I : Inv X pins σ H s) (ru : Vals xs us) (sm : SimW w ax m h H) (rl : RL w.D m [v] xs) {ys : List Vv}
    (e : seqOf w.G h v = some ys) (hq : Q (.int ys.length) H) : wpAny (model X.prog X.w) X.A (call (.builtin "len") us) (EP X pins σ Q) X.xe s := by
  obtain ⟨x, rfl, r⟩ := rl1 rl
  obtain ⟨p, zs, rfl, h1, h2⟩ := seq_ok g sm r e
  refine call_len_seq pins s σ H _ us Q I ru ⟨p, zs, rfl, by rw [hK]; exact h1, ?_⟩
  rw [← h2.length]
  exact hq
theorem Dp.scal {K : PySem.W.Frag} {x : V} {d : PyData} (p : Dp K H x d) : (∃ a, x = .ref a) ∨ (x = .non ∧ d = .none) ∨ (∃ b, x = .bl b ∧ d = .bool b) ∨ (∃ i, x = .int i ∧ d = .int i) ∨ ∃ z, x = .str z ∧ d = .str z := by
  cases p with
  | non => exact .inr (.inl ⟨rfl, rfl⟩)
  | bl b => exact .inr (.inr (.inl ⟨b, rfl, rfl⟩))
  | int i => exact .inr (.inr (.inr (.inl ⟨i, rfl, rfl⟩)))
  | str z => exact .inr (.inr (.inr (.inr ⟨z, rfl, rfl⟩)))
  | lst _ _ => exact .inl ⟨_, rfl⟩
  | tup _ _ => exact .inl ⟨_, rfl⟩
theorem call_repr_D {K : PySem.W.Frag} (hK : X.K = K) (hg : X.A.guards = some []) (hu : X.A.units + 100 < cLine) {pins : List (Addr × Obj)} {s : Shared} {σ : L2.St} {x : V} {us : List Value} {Q : VK} {d : PyData} (I : Inv X pins σ H s) (ru : Vals [x] us)
    (hd : Dp K H x d) (h1 : d.showable = true) (h2 : d.hasDict = false) (h3 : d.depth ≤ 60) (h4 : d.shown.length ≤ sizeLine) (hq : Q (.str d.shown) H) : wpAny (model X.prog X.w) X.A (call (.builtin "repr") us) (EP X pins σ Q) X.xe s := by
  subst hK
  obtain ⟨u, rfl, rx⟩ := vals1 ru
  have hz : sizeLine = 16777216 := sizeLine_eq
  rcases Dp.scal hd with ⟨a, rfl⟩ | ⟨rfl, rfl⟩ | ⟨b, rfl, rfl⟩ | ⟨i, rfl, rfl⟩ | ⟨z, rfl, rfl⟩
  · obtain ⟨as, rd⟩ := Dp.reads I d _ u hd rx
    cases rx
    exact repr_of_reads' rd h1 (PyData.noDict_hsm h2) hg (by omega) (fun _ _ e => e) (fun h' u' tk hk => ⟨.str d.shown, H, I.un (t' := tk) (Un.kept hk) (I.hok.kept hk), ⟨_, rfl⟩, hq⟩) h4
  · cases rx
    exact PySem.P.repr_of_none ⟨.str (PyData.shown .none), H, I.tok _, ⟨_, rfl⟩, hq⟩
  · cases rx
    exact PySem.P.repr_of_bool ⟨.str (PyData.shown (.bool b)), H, I.tok _, ⟨_, rfl⟩, hq⟩
  · obtain ⟨t, rfl⟩ := rx
    have hl : i.natAbs.log2 < 1920 := of_decide_eq_true (show decide (i.natAbs.log2 < 1920) = true from h1)
    exact PySem.P.repr_of_int hl ⟨.str (PyData.shown (.int i)), H, I.tok _, ⟨_, rfl⟩, hq⟩
  · obtain ⟨t, rfl⟩ := rx
    exact PySem.P.repr_of_str ⟨.str (PyData.shown (.str z)), H, I.tok _, ⟨_, rfl⟩, hq⟩ h4
theorem rk_any {D : Ad} {k : Key} : ∀ {xs : List (Key × Vv)} {ys : List (Key × V)}, RK D m xs ys → (xs.any fun kv => decide (kv.1 = k)) = ys.any fun kv => decide (kv.1 = k)
  | _, _, .nil => rfl
  | _, _, .cons ⟨e, _⟩ t => by rw [List.any_cons, List.any_cons, rk_any t, e]
theorem rk_map {D : Ad} {k : Key} {v : Vv} {y : V} (r : R D m v y) : ∀ {xs : List (Key × Vv)} {ys : List (Key × V)}, RK D m xs ys → RK D m (xs.map fun kv => if kv.1 = k then (kv.1, v) else kv) (ys.map fun kv => if kv.1 = k then (kv.1, y) else kv)
  | _, _, .nil => .nil
  | _, _, .cons (a := p) (b := q) ⟨e, z⟩ t => by
    refine .cons ?_ (rk_map r t)
    by_cases c : p.1 = k
    · have c2 : q.1 = k := e ▸ c
      simp only [if_pos c, if_pos c2]
      exact ⟨e, r⟩
    · have c2 : ¬ q.1 = k := fun w => c (e.trans w)
      simp only [if_neg c, if_neg c2]
      exact ⟨e, z⟩
theorem rk_put {D : Ad} {k : Key} {v : Vv} {y : V} (r : R D m v y) {xs : List (Key × Vv)} {ys : List (Key × V)} (t : RK D m xs ys) : RK D m (putKv xs k v) (putK ys k y) := by
  unfold putKv putK
  rw [rk_any t]
  split
  · exact rk_map r t
  · exact Paired.app t (.cons ⟨rfl, r⟩ .nil)
theorem rk_merge {D : Ad} : ∀ {more : List (Key × Vv)} {more' : List (Key × V)} {xs : List (Key × Vv)} {ys : List (Key × V)}, RK D m more more' → RK D m xs ys → RK D m (mergeKv xs more) (mergeK ys more')
  | _, _, _, _, .nil, t => t
  | _, _, _, _, .cons (a := p) (b := q) ⟨e, z⟩ t2, t => by
    show RK D m (mergeKv (putKv _ p.1 p.2) _) (mergeK (putK _ q.1 q.2) _)
    rw [← e]
    exact rk_merge t2 (rk_put z t)
theorem keyOf_ok {D : Ad} {v : Vv} {y : V} {k : Key} (e : keyOf v = some k) (r : R D m v y) : y = kV k := by
  cases v with
  | int i => cases e; exact r
  | str z => cases e; exact r
  | _ => cases e
theorem pairs_ok {K : PySem.W.Frag} (sm : SimW w ax m h H) : ∀ {vs : List Vv} {ys : List V} {kvs : List (Key × Vv)}, RL w.D m vs ys → pairsOf h vs = some kvs → ∃ (as : List Addr) (kws : List (Key × V)), ys = as.map V.ref ∧ Paired (fun p kv => SqT K H p [kV kv.1, kv.2]) as kws ∧ RK w.D m kvs kws
  | _, _, _, .nil, e => by cases e; exact ⟨[], [], rfl, .nil, .nil⟩
  | v :: vs, y :: ys, kvs, .cons r t, e => by
    cases v with
    | ref i =>
      have e : (match h[i]? with
        | some (.tup [k, v]) => (keyOf k).bind fun k => (pairsOf h vs).map ((k, v) :: ·)
        | _ => none) = some kvs := e
      split at e
      · rename_i k v q
        obtain ⟨k1, e1, e2⟩ := Option.bind_eq_some_iff.mp e
        obtain ⟨rest, e3, rfl⟩ := Option.map_eq_some_iff.mp e2
        obtain ⟨as, kws, rfl, pr, rk⟩ := pairs_ok (K := K) sm t e3
        obtain ⟨p, rfl, hm, zs, h1, h2⟩ := sm.ref r q
        obtain ⟨a, b, rfl, ra, rb⟩ := rl2 h2
        have := keyOf_ok e1 ra
        subst this
        exact ⟨p :: as, (k1, b) :: kws, rfl, .cons (SqT.of h1) pr, .cons ⟨rfl, rb⟩ rk⟩
      · cases e
    | _ => cases e
theorem call_bf (hK : X.K = w.K) (g : w.ConOk) (k : w.IsiOk) (hg : X.A.guards = some []) (hu : X.A.units + 100 < cLine) (f : Bf) (hc : f.cold = true → X.calm = true) : CallR X f.val (rCB w ax (callb w.G f)) := by
  intro pins s σ H xs us Q I ru ⟨m, h, vs, c, h', rl, sm, e, post⟩
  unfold callb at e
  split at e
  · -- len of a text
    split at e
    · rename_i hz
      cases e
      obtain ⟨x, rfl, r⟩ := rl1 rl
      cases r
      exact call_len pins s σ H _ us Q I ru ⟨_, _, rfl, ⟨by rw [← sz_eq]; exact hz, rfl⟩, post.here sm rfl⟩
    · cases e
  · obtain ⟨ys, h1, h2⟩ := Option.bind_eq_some_iff.mp e
    cases h2
    exact len_seq_ok hK g I ru sm rl h1 (post.here sm rfl)
  · obtain ⟨b, h1, h2⟩ := Option.bind_eq_some_iff.mp e
    cases h2
    exact call_isiD hK g k I ru sm rl h1 (post.here sm rfl)
  · cases e
    obtain ⟨x, rfl, r⟩ := rl1 rl
    cases r
    exact call_int1 pins s σ H _ us Q I ru (.inl ⟨_, rfl, post.here sm rfl⟩)
  · cases e
    obtain ⟨x, rfl, r⟩ := rl1 rl
    cases r
    exact call_int1 pins s σ H _ us Q I ru (.inr ⟨_, rfl, post.here sm rfl⟩)
  · obtain ⟨n, h1, h2⟩ := Option.bind_eq_some_iff.mp e
    split at h2
    · rename_i hl
      cases h2
      obtain ⟨x, rfl, r⟩ := rl1 rl
      cases r
      exact call_int_str pins s σ H _ us Q I ru ⟨_, n, rfl, h1, hl, post.here sm rfl⟩
    · cases h2
  · split at e
    · rename_i hl
      cases e
      obtain ⟨x, rfl, r⟩ := rl1 rl
      cases r
      exact call_str_int pins s σ H _ us Q I ru ⟨_, rfl, hl, post.here sm rfl⟩
    · cases e
  · cases e
    obtain ⟨x, rfl, r⟩ := rl1 rl
    cases r
    exact SkE.call_str_str pins s σ H _ us Q I ru ⟨_, rfl, post.here sm rfl⟩
  · cases e
    obtain ⟨x, rfl, r⟩ := rl1 rl
    cases r
    exact call_bool1 pins s σ H _ us Q I ru (.inl ⟨_, rfl, post.here sm rfl⟩)
  · cases e
    obtain ⟨x, rfl, r⟩ := rl1 rl
    cases r
    exact call_bool1 pins s σ H _ us Q I ru (.inr ⟨_, rfl, post.here sm rfl⟩)
  · cases e
    obtain ⟨x, rfl, r⟩ := rl1 rl
    cases r
    exact call_abs pins s σ H _ us Q I ru ⟨_, rfl, post.here sm rfl⟩
  · cases e
    obtain ⟨x, y, rfl, r, r'⟩ := rl2 rl
    cases r; cases r'
    exact call_min2 (hc rfl) pins s σ H _ us Q I ru ⟨_, _, rfl, post.here sm rfl⟩
  · cases e
    obtain ⟨x, y, rfl, r, r'⟩ := rl2 rl
    cases r; cases r'
    exact call_max2 (hc rfl) pins s σ H _ us Q I ru ⟨_, _, rfl, post.here sm rfl⟩
  · split at e
    · rename_i ys q
      obtain ⟨bs, h1, h2⟩ := Option.bind_eq_some_iff.mp e
      cases h2
      obtain ⟨x, rfl, r⟩ := rl1 rl
      obtain ⟨a, rfl, _, zs, h3, h4⟩ := sm.ref r q
      refine cr_all (hc rfl) pins s σ H _ us Q I ru ⟨a, bs, rfl, ?_, post.here sm rfl⟩
      rw [← bools_ok h4 h1]
      exact SqL.of h3
    · cases e
  · split at e
    · rename_i ys q
      obtain ⟨bs, h1, h2⟩ := Option.bind_eq_some_iff.mp e
      cases h2
      obtain ⟨x, rfl, r⟩ := rl1 rl
      obtain ⟨a, rfl, _, zs, h3, h4⟩ := sm.ref r q
      refine cr_any (hc rfl) pins s σ H _ us Q I ru ⟨a, bs, rfl, ?_, post.here sm rfl⟩
      rw [← bools_ok h4 h1]
      exact SqL.of h3
    · cases e
  · obtain ⟨d, h1, h2⟩ := Option.bind_eq_some_iff.mp e
    split at h2
    · rename_i hs
      cases h2
      simp only [Bool.and_eq_true, Bool.not_eq_true', decide_eq_true_eq] at hs
      obtain ⟨⟨⟨k1, k2⟩, k3⟩, k4⟩ := hs
      obtain ⟨x, rfl, r⟩ := rl1 rl
      exact call_repr_D hK hg hu I ru (dat_ok g sm 8 r h1) k1 k2 k3 (by rw [← sz_eq]; exact k4) (post.here sm rfl)
    · cases h2
  · split at e
    · rename_i kvs q
      cases e
      obtain ⟨x, rfl, r⟩ := rl1 rl
      obtain ⟨p, rfl, hm, zs, h1, h2⟩ := sm.ref r q
      obtain ⟨u, rfl, ru'⟩ := vals1 ru
      obtain rfl : u = Value.ref p := ru'
      exact d_copyOf I (.inl h1) fun p' s' hp I' => ⟨V.ref p', _, I', rfl, post.new sm hp ⟨_, upd_same, h2.mono (sm.le p')⟩⟩
    · rename_i ps q
      obtain ⟨kvs, e1, e2⟩ := Option.bind_eq_some_iff.mp e
      cases e2
      obtain ⟨x, rfl, r⟩ := rl1 rl
      obtain ⟨p, rfl, hm, ys, h1, h2⟩ := sm.ref r q
      obtain ⟨as, kws, rfl, pr, rk⟩ := pairs_ok (K := X.K) sm h2 e1
      exact call_dictP (hc rfl) pins s σ H _ us Q I ru ⟨p, as, kws, rfl, SqL.of h1, pr, fun q hq => post.new sm hq ⟨_, upd_same, (rk_merge rk .nil).mono (sm.le q)⟩⟩
    · cases e
  · cases e
end
end Dv

set_option linter.all false
set_option autoImplicit false
set_option maxRecDepth 100000
set_option maxHeartbeats 1000000
namespace Dv
open PySem L2 PySem.Spec PyProof.Rows

/-- room for n calls, one in another; no text is being shown -/
structure RoomU (n : Nat) (A : Around) : Prop where
  gu : A.guards = some []
  dp : A.depth + n + 40 < recursionLimit
  un : A.units + 16 * n + 400 < cLine
theorem RoomU.deeper {n : Nat} {A : Around} (r : RoomU (n + 1) A) (env : Env) : RoomU n (A.deeper env) :=
  ⟨r.gu, by have := r.dp; show A.depth + 1 + n + 40 < _; omega, by have := r.un; show A.units + 3 + 16 * n + 400 < _; omega⟩
theorem RoomU.mono {j n : Nat} {A : Around} (r : RoomU n A) (h : j ≤ n) : RoomU j A := ⟨r.gu, by have := r.dp; omega, by have := r.un; omega⟩
theorem RoomU.in1 {n : Nat} {A : Around} (r : RoomU (n + 1) A) : RoomU n A.in1 := ⟨r.gu, by have := r.dp; show A.depth + n + 40 < _; omega, by have := r.un; show A.units + 1 + 16 * n + 400 < _; omega⟩
theorem RoomU.make {n : Nat} {A : Around} (r : RoomU (n + 1) A) (C : Addr) (us : List Value) (kw : List (Str × Value)) : RoomU n (A.under (.builtin "type.__call__" ⟨.ref C :: us, kw⟩)) :=
  ⟨by first | exact r.gu | (show pushGuards (Code.guards _) A.guards = _; rw [show (Code.guards (.builtin "type.__call__" ⟨.ref C :: us, kw⟩)) = [] from by unfold Code.guards; rw [if_neg (by decide)]]; exact r.gu), by have := r.dp; rw [make_depth]; omega, by have := r.un; rw [make_units]; omega⟩
theorem RoomU.units {n : Nat} {A : Around} (r : RoomU n A) : A.units + 100 < cLine := by have := r.un; omega

/-- a context of the text: its names by slots, its scope; cm: nothing is being handled -/
structure Good (w : Wd) (ax : Ax) (P : Program) (wl : World) (base : Heap) (n : Nat) (N : List Str) (sc : Scope) (cm : Bool) (X : Cx) : Prop where
  hP : X.prog = P
  hw : X.w = wl
  hK : X.K = w.K
  hm : X.mg = w.mg
  hB : X.base = base
  hN : X.N = N
  nd : N.Nodup
  hs : X.env.scope = sc
  hr : RoomU n X.A
  hd : cm = true → X.A.handled = none
  hc : cm = true → X.calm = true
  nx : cm = true → ax = none
  pin : ∀ k a cls d, ax = some (k, a, cls, d) → ∃ oe, (a, oe) ∈ X.pn ∧ Zc cls d oe ∧ ∃ vs, oe.data = .fields vs
  cu : ∀ c P q, w.cur = some (c, P, q) → X.env.code = .ref c ∧ X.env.qual = q ∧ LamX.TabB X.base X.mg c P ∧ (P, q ++ "<lambda>") ∈ w.D.tb ∧ ∀ p ∈ w.D.tb, p.1 = P → p.2 = q ++ "<lambda>"
  mkr : N.contains "#" = true → ∃ c Pt q, w.cur = some (c, Pt, q)

def slr (D : Ad) (m : Mp) (u : Option Vv) (y : Option V) : Prop := match u with
  | none => True
  | some v => ∃ x, y = some x ∧ R D m v x
def SlR (D : Ad) (m : Mp) : Sl → L2.St → Prop := Paired (slr D m)
theorem SlR.mono {D : Ad} {m m' : Mp} {s : Sl} {σ : L2.St} (r : SlR D m s σ) (l : Le m m') : SlR D m' s σ := Paired.mapP r fun u y z => by
  cases u with
  | none => trivial
  | some v => obtain ⟨x, e, h⟩ := z; exact ⟨x, e, h.mono l⟩
theorem SlR.get {D : Ad} {m : Mp} {s : Sl} {σ : L2.St} (r : SlR D m s σ) {i : Nat} {v : Vv} (e : s[i]? = some (some v)) : ∃ x, σ[i]? = some (some x) ∧ R D m v x := by
  obtain ⟨y, h1, h2⟩ := Paired.get r e
  obtain ⟨x, rfl, h3⟩ := h2
  exact ⟨x, h1, h3⟩
theorem SlR.set {D : Ad} {m : Mp} {s : Sl} {σ : L2.St} (r : SlR D m s σ) (i : Nat) {v : Vv} {x : V} (h : R D m v x) : SlR D m (s.set i (some v)) (σ.set i (some x)) := Paired.setP (F := slr D m) (x := some v) (y := some x) ⟨x, rfl, h⟩ i r
theorem SlR.clear {D : Ad} {m : Mp} {s : Sl} {σ : L2.St} (r : SlR D m s σ) (i : Nat) (y : Option V) : SlR D m (s.set i none) (σ.set i y) := Paired.setP (F := slr D m) (x := none) (y := y) trivial i r
theorem SlR.wipe {D : Ad} {m : Mp} {s : Sl} {σ : L2.St} (r : SlR D m s σ) : ∀ vs : List Nat, SlR D m (wipeV s vs) (wipe σ vs)
  | [] => r
  | v :: vs => (SlR.wipe r vs).clear v none

section
variable (w : Wd) (ax : Ax) (W : WX) (o : Orc)
abbrev ExW (σ : L2.St) : XK := fun c d H' => W c d σ H'
def tE (e : Ex) : TE := fun σ H Q => ∃ m s h r, SlR w.D m s σ ∧ SimW w ax m h H ∧ evE w.G o e s h = some r ∧ PRr w ax (R w.D) (ExW W σ) m Q r
def tT (e : Tt) : TT := fun σ H Q => ∃ m s h r, SlR w.D m s σ ∧ SimW w ax m h H ∧ evT w.G o e s h = some r ∧ PRr w ax (fun _ a b => a = b) (ExW W σ) m Q r
def tEs (es : Exs) : TA := fun σ H Q => ∃ m s h r, SlR w.D m s σ ∧ SimW w ax m h H ∧ evEs w.G o es s h = some r ∧ PRr w ax (RL w.D) (ExW W σ) m Q r
end
section
variable {w : Wd} {ax : Ax} {W : WX} {o : Orc} {m : Mp} {s : Sl} {σ : L2.St} {h : VH} {H : Hp}
/-- a part's reading, from the whole's result -/
theorem tE_of {γ δ : Type} {rel : Mp → γ → δ → Prop} {a : Ex} {k : Vv → VH → Option (Re γ)} {r : Re γ} {Q0 : VK} {Q : δ → Hp → Prop} (hs : SlR w.D m s σ) (sm : SimW w ax m h H) (e : Rb (evE w.G o a s h) k = some r) (p : PRr w ax rel (ExW W σ) m Q r)
    (c : ∀ v h1 m1 H1 x, k v h1 = some r → Le m m1 → SimW w ax m1 h1 H1 → R w.D m1 v x → SlR w.D m1 s σ → PRr w ax rel (ExW W σ) m1 Q r → Q0 x H1) : tE w ax W o a σ H Q0 := by
  cases q : evE w.G o a s h with
  | none => rw [q] at e; cases e
  | some r0 =>
    rw [q] at e
    refine ⟨m, s, h, r0, hs, sm, q, ?_⟩
    cases r0 with
    | ok v h1 => exact fun m1 H1 x l s1 r1 => c v h1 m1 H1 x e l s1 r1 (hs.mono l) (p.mono l)
    | ex x h1 => cases e; exact p
theorem tT_of {γ δ : Type} {rel : Mp → γ → δ → Prop} {a : Tt} {k : Bool → VH → Option (Re γ)} {r : Re γ} {Q0 : Bool → Hp → Prop} {Q : δ → Hp → Prop} (hs : SlR w.D m s σ) (sm : SimW w ax m h H) (e : Rb (evT w.G o a s h) k = some r) (p : PRr w ax rel (ExW W σ) m Q r)
    (c : ∀ v h1 m1 H1, k v h1 = some r → Le m m1 → SimW w ax m1 h1 H1 → SlR w.D m1 s σ → PRr w ax rel (ExW W σ) m1 Q r → Q0 v H1) : tT w ax W o a σ H Q0 := by
  cases q : evT w.G o a s h with
  | none => rw [q] at e; cases e
  | some r0 =>
    rw [q] at e
    refine ⟨m, s, h, r0, hs, sm, q, ?_⟩
    cases r0 with
    | ok v h1 => intro m1 H1 x l s1 r1; cases r1; exact c v h1 m1 H1 e l s1 (hs.mono l) (p.mono l)
    | ex x h1 => cases e; exact p
theorem tEs_of {γ δ : Type} {rel : Mp → γ → δ → Prop} {a : Exs} {k : List Vv → VH → Option (Re γ)} {r : Re γ} {Q0 : List V → Hp → Prop} {Q : δ → Hp → Prop} (hs : SlR w.D m s σ) (sm : SimW w ax m h H) (e : Rb (evEs w.G o a s h) k = some r) (p : PRr w ax rel (ExW W σ) m Q r)
    (c : ∀ v h1 m1 H1 x, k v h1 = some r → Le m m1 → SimW w ax m1 h1 H1 → RL w.D m1 v x → SlR w.D m1 s σ → PRr w ax rel (ExW W σ) m1 Q r → Q0 x H1) : tEs w ax W o a σ H Q0 := by
  cases q : evEs w.G o a s h with
  | none => rw [q] at e; cases e
  | some r0 =>
    rw [q] at e
    refine ⟨m, s, h, r0, hs, sm, q, ?_⟩
    cases r0 with
    | ok v h1 => exact fun m1 H1 x l s1 r1 => c v h1 m1 H1 x e l s1 r1 (hs.mono l) (p.mono l)
    | ex x h1 => cases e; exact p
end
/-- a reading may be made stronger -/
theorem PE.to {X : Cx} {e : Expr} {t t' : TE} (p : PE X e t) (k : ∀ σ H Q, t' σ H Q → t σ H Q) : PE X e t' := ⟨fun pins s σ H Q I h => p.run pins s σ H Q I (k _ _ _ h)⟩
theorem PT.to {X : Cx} {e : Expr} {t t' : TT} (p : PT X e t) (k : ∀ σ H Q, t' σ H Q → t σ H Q) : PT X e t' := ⟨fun pins s σ H Q I h => p.run pins s σ H Q I (k _ _ _ h)⟩
theorem PW.to {X : Cx} {e : Expr} {t t' : TT} (p : PW X e t) (k : ∀ σ H Q, t' σ H Q → t σ H Q) : PW X e t' := ⟨fun wh pins s σ H Q I h => p.run wh pins s σ H Q I (k _ _ _ h)⟩
theorem PA.to {X : Cx} {e : List Expr} {t t' : TA} (p : PA X e t) (k : ∀ σ H Q, t' σ H Q → t σ H Q) : PA X e t' := ⟨fun pos pins s σ H Q I h => p.run pos pins s σ H Q I (k _ _ _ h)⟩
theorem PS.to {X : Cx} {e : Stmt} {t t' : TS} (p : PS X e t) (k : ∀ D σ H, t' D σ H → t D σ H) : PS X e t' := ⟨fun pins s σ H D I h => p.run pins s σ H D I (k _ _ _ h)⟩
theorem PSs.to {X : Cx} {e : List Stmt} {t t' : TS} (p : PSs X e t) (k : ∀ D σ H, t' D σ H → t D σ H) : PSs X e t' := ⟨fun pins s σ H D I h => p.run pins s σ H D I (k _ _ _ h)⟩

def notStar : Expr → Bool
  | .Starred _ _ => false
  | _ => true
theorem star_cons {e : Expr} {es : List Expr} {env : Env} (h : notStar e = true) : starEach (e :: es) env = (false, eval e env) :: starEach es env := by
  cases e <;> first | rfl | cases h
theorem star_plain {env : Env} {pos : Pos} : ∀ {es : List Expr}, es.all notStar = true → (backTo pos (starEach es env)).any (·.1) = false
  | [], _ => rfl
  | e :: es, h => by
    rw [List.all_cons, Bool.and_eq_true] at h
    rw [star_cons h.1]
    exact star_plain h.2
theorem star_len {env : Env} : ∀ {es : List Expr}, (starEach es env).length = es.length
  | [] => rfl
  | e :: es => by
    have ih := star_len (env := env) (es := es)
    cases e <;> exact congrArg (· + 1) ih
theorem star_few {env : Env} {pos : Pos} : ∀ {es : List Expr}, es.all notStar = true → (backTo pos (starEach es env)).all (fun x => !x.1) = true
  | [], _ => rfl
  | e :: es, h => by
    rw [List.all_cons, Bool.and_eq_true] at h
    rw [star_cons h.1]
    exact star_few h.2
/-- no call of super -/
def noSuper : Expr → Bool
  | .Call (.Name id _) [] [] _ => id != "super"
  | _ => true
theorem attr_base {e : Expr} {f : Str} {env : Env} {wh : Sem Value} (h : noSuper e = true) : attributeBase e f env wh = wh := by
  unfold attributeBase
  split
  · rename_i id _ pos
    have h' : (id != ("super" : Str)) = true := h
    rw [h']
    simp
  · simp
/-- an expression that a test asks by its value's truth -/
def plainT : Expr → Bool
  | .UnaryOp .Not _ _ => false
  | .BoolOp _ _ _ => false
  | .IfExp _ _ _ _ => false
  | .Compare _ _ _ _ => false
  | _ => true
theorem plain_test {e : Expr} {env : Env} (h : plainT e = true) : ∀ wh, isTrue e env wh = (do let v ← wh; standAt e.pos; holding [v] (truthy v)) := by
  intro wh
  cases e with
  | UnaryOp op a p => cases op <;> first | rfl | cases h
  | BoolOp _ _ _ => cases h
  | IfExp _ _ _ _ => cases h
  | Compare _ _ _ _ => cases h
  | _ => rfl
/-- no set display (its marks behind in, not in) -/
def noSet : Expr → Bool
  | .Set _ _ _ => false
  | _ => true
theorem no_marks {op : CmpOp} {e : Expr} (h : noSet e = true) : behindInMarks op e = false := by
  cases e <;> first | rfl | cases h
def noSlice : Expr → Bool
  | .Slice _ _ _ _ => false
  | _ => true
end Dv

set_option linter.all false
set_option autoImplicit false
set_option maxRecDepth 100000
set_option maxHeartbeats 1000000
namespace Dv
open PySem L2 PySem.Spec PyProof.Rows
section
variable {G : Tx} {o : Orc} {x y : Vv} {h h' : VH} {e : Xv}
theorem binop_ne {op : Operator} : binop op x y h = some (.ex e h') → False := by
  unfold binop ok1 new
  intro q
  repeat' split at q
  all_goals first | cases q | contradiction
theorem eqd_ne {b : Bool} {k : Bool → Bool} {m : Option Bool} : (m.bind fun b => ok1 (.bl (k b)) h) = some (.ex e h') → False := by
  intro q
  obtain ⟨b, _, q⟩ := Option.bind_eq_some_iff.mp q
  cases q
theorem cmpop_ne {op : CmpOp} : cmpop G o op x y h = some (.ex e h') → False := by
  unfold cmpop ok1
  intro q
  cases op <;> dsimp only at q
  all_goals first
    | (split at q <;> first | cases q | (obtain ⟨b, _, q⟩ := Option.bind_eq_some_iff.mp q; split at q <;> cases q))
    | (obtain ⟨b, _, q⟩ := Option.bind_eq_some_iff.mp q; cases q)
theorem index_ne : index G x y h = some (.ex e h') → False := by
  unfold index ok1
  intro q
  split at q
  · split at q
    · obtain ⟨b, _, q⟩ := Option.bind_eq_some_iff.mp q; cases q
    · cases q
  · obtain ⟨b, _, q⟩ := Option.bind_eq_some_iff.mp q
    obtain ⟨c, _, q⟩ := Option.bind_eq_some_iff.mp q; cases q
  · cases q
theorem callb_ne {f : Bf} {vs : List Vv} : callb G f vs h = some (.ex e h') → False := by
  unfold callb ok1 new
  intro q
  split at q <;> first
    | cases q
    | (split at q <;> first | cases q | (obtain ⟨c, _, q⟩ := Option.bind_eq_some_iff.mp q; first | cases q | (split at q <;> cases q)))
    | (obtain ⟨c, _, q⟩ := Option.bind_eq_some_iff.mp q; first | cases q | (split at q <;> cases q))
end
section
variable {w : Wd} {ax : Ax} {W : WX} {o : Orc} {P : Program} {wl : World} {n : Nat} {N : List Str} {sc : Scope} {cm : Bool} {X : Cx} {a b c : Ex} {ea eb ec : Expr} {pos : Pos} {op : Operator}
/-- what the nodes lean on -/
structure Fac (w : Wd) : Prop where
  con : w.ConOk
  isi : w.IsiOk
  kp : ∀ f, (w.G.fns f).isSome = true → PySem.W.keepIn w.K (.ref (w.D.fa f)) = true
  fi : ∀ f, (w.G.fns f).isSome = true → PySem.W.fnIn w.K (w.D.fa f) = true
theorem e_var {i : Nat} {x : Str} (hN : X.N[i]? = some x) (hv : Vis X.env.scope x) (hd : (x == ("__debug__" : Str)) = false) (hcd : (x == ("__classdict__" : Str)) = false) : PE X (.Name x pos) (tE w ax W o (.var i)) := by
  refine PE.to (pe_var (i := i) hN hv hd hcd) fun σ H Q ⟨m, s, h, r, hs, sm, e, p⟩ => ?_
  simp only [evE] at e
  split at e
  · rename_i v q
    cases e
    obtain ⟨x, h1, h2⟩ := hs.get q
    exact ⟨x, h1, p m H x (Le.refl m) sm h2⟩
  · cases e
theorem e_cst {e : Expr} {v : Vv} {x : V} (p : PE X e (tC x)) (r : ∀ m, R w.D m v x) : PE X e (tE w ax W o (.cst v)) := by
  refine PE.to p fun σ H Q ⟨m, s, h, r', hs, sm, e, p⟩ => ?_
  cases e
  exact p m H x (Le.refl m) sm (r m)
theorem e_bin (hK : X.K = w.K) (ha : PE X ea (tE w ax W o a)) (hb : PE X eb (tE w ax W o b)) : PE X (.BinOp ea op eb pos) (tE w ax W o (.bin op a b)) := by
  refine PE.to (pe_op (op_bin (ax := ax) hK op) ha hb) fun σ H Q ⟨m, s, h, r, hs, sm, e, p⟩ => ?_
  refine tE_of hs sm e p fun x h1 m1 H1 x' e1 l1 s1 rx hs1 p1 => ?_
  refine tE_of hs1 s1 e1 p1 fun y h2 m2 H2 y' e2 l2 s2 ry hs2 p2 => ?_
  cases r with
  | ok v h3 => exact ⟨m2, h2, x, y, v, h3, rx.mono l2, ry, s2, e2, p2⟩
  | ex x h3 => exact (binop_ne e2).elim
theorem e_neg (ha : PE X ea (tE w ax W o a)) : PE X (.UnaryOp .USub ea pos) (tE w ax W o (.neg a)) := by
  refine PE.to (pe_un un_neg ha) fun σ H Q ⟨m, s, h, r, hs, sm, e, p⟩ => ?_
  refine tE_of hs sm e p fun x h1 m1 H1 x' e1 l1 s1 rx hs1 p1 => ?_
  cases x <;> first | (cases e1; cases rx; exact ⟨_, rfl, p1 m1 H1 _ (Le.refl _) s1 rfl⟩) | cases e1
theorem rd_cmp {op : CmpOp} {σ : L2.St} {H : Hp} {Q : VK} (q : tE w ax W o (.cmp op a b) σ H Q) : tOp (rB w ax (cmpop w.G o op)) (tE w ax W o a) (tE w ax W o b) σ H Q := by
  obtain ⟨m, s, h, r, hs, sm, e, p⟩ := q
  refine tE_of hs sm e p fun x h1 m1 H1 x' e1 l1 s1 rx hs1 p1 => ?_
  refine tE_of hs1 s1 e1 p1 fun y h2 m2 H2 y' e2 l2 s2 ry hs2 p2 => ?_
  cases r with
  | ok v h3 => exact ⟨m2, h2, x, y, v, h3, rx.mono l2, ry, s2, e2, p2⟩
  | ex x h3 => exact (cmpop_ne e2).elim
theorem e_cmp {op : CmpOp} (F : Fac w) (hK : X.K = w.K) (hu : X.A.units + 100 < cLine) (hm : noSet eb = true) (ha : PE X ea (tE w ax W o a)) (hb : PE X eb (tE w ax W o b)) : PE X (.Compare ea [op] [eb] pos) (tE w ax W o (.cmp op a b)) :=
  PE.to (pe_cmpR (op_cmp (ax := ax) hK F.con (by omega) o op) ha hb (no_marks hm)) fun _ _ _ q => rd_cmp q
theorem rd_chain {op op' : CmpOp} {σ : L2.St} {H : Hp} {Q : VK} (q : tE w ax W o (.chain op op' a b c) σ H Q) : tChain (rB w ax (cmpop w.G o op)) (rB w ax (cmpop w.G o op')) (tE w ax W o a) (tE w ax W o b) (tE w ax W o c) σ H Q := by
  obtain ⟨m, s, h, r, hs, sm, e, p⟩ := q
  refine tE_of hs sm e p fun x h1 m1 H1 x' e1 l1 s1 rx hs1 p1 => ?_
  refine tE_of hs1 s1 e1 p1 fun y h2 m2 H2 y' e2 l2 s2 ry hs2 p2 => ?_
  cases q3 : cmpop w.G o op x y h2 with
  | none => rw [q3] at e2; cases e2
  | some r3 =>
    rw [q3] at e2
    cases r3 with
    | ex x h3 => exact (cmpop_ne q3).elim
    | ok z h3 =>
      refine ⟨m2, h2, x, y, z, h3, rx.mono l2, ry, s2, q3, fun m3 H3 z' l3 s3 rz => ?_⟩
      simp only [Rb_ok] at e2
      cases z with
      | bl k =>
        cases rz
        refine ⟨k, rfl, ?_⟩
        cases k with
        | true =>
          rw [if_pos rfl]
          refine tE_of (hs2.mono l3) s3 e2 (p2.mono l3) fun u h4 m4 H4 u' e4 l4 s4 ru hs4 p4 => ?_
          cases r with
          | ok v h5 => exact ⟨m4, h4, y, u, v, h5, (ry.mono l3).mono l4, ru, s4, e4, p4⟩
          | ex x h5 => exact (cmpop_ne e4).elim
        | false =>
          rw [if_neg Bool.false_ne_true]
          cases e2
          exact p2 m3 H3 _ l3 s3 rfl
      | _ => cases e2
theorem e_chain {op op' : CmpOp} (F : Fac w) (hK : X.K = w.K) (hu : X.A.units + 100 < cLine) (hm : noSet eb = true) (hm2 : noSet ec = true) (ha : PE X ea (tE w ax W o a)) (hb : PE X eb (tE w ax W o b)) (hc : PE X ec (tE w ax W o c)) :
    PE X (.Compare ea [op, op'] [eb, ec] pos) (tE w ax W o (.chain op op' a b c)) :=
  PE.to (pe_chain (op_cmp (ax := ax) hK F.con (by omega) o op) (op_cmp (ax := ax) hK F.con (by omega) o op') ha hb hc (show lastMarks [op'] [ec] = false from no_marks hm2)) fun _ _ _ q => rd_chain q
/-- the right part of and, or: one more operand, or the rest -/
theorem e_and {es : List Expr} (F : Fac w) (hK : X.K = w.K) (ha : PE X ea (tE w ax W o a)) (hb : PE X (.BoolOp .And (eb :: es) pos) (tE w ax W o b)) : PE X (.BoolOp .And (ea :: eb :: es) pos) (tE w ax W o (.and a b)) := by
  refine PE.to (pe_andT ha hb) fun σ H Q ⟨m, s, h, r, hs, sm, e, p⟩ => ?_
  refine tE_of hs sm e p fun x h1 m1 H1 x' e1 l1 s1 rx hs1 p1 => ?_
  split at e1
  · rename_i q
    refine ⟨true, by rw [hK]; exact tru_V F.con s1 rx q, ?_⟩
    rw [if_pos rfl]
    exact ⟨m1, s, h1, r, hs1, s1, e1, p1⟩
  · rename_i q
    cases e1
    refine ⟨false, by rw [hK]; exact tru_V F.con s1 rx q, ?_⟩
    rw [if_neg Bool.false_ne_true]
    exact p1 m1 H1 x' (Le.refl _) s1 rx
  · cases e1
theorem e_or {es : List Expr} (F : Fac w) (hK : X.K = w.K) (ha : PE X ea (tE w ax W o a)) (hb : PE X (.BoolOp .Or (eb :: es) pos) (tE w ax W o b)) : PE X (.BoolOp .Or (ea :: eb :: es) pos) (tE w ax W o (.or a b)) := by
  refine PE.to (pe_orT ha hb) fun σ H Q ⟨m, s, h, r, hs, sm, e, p⟩ => ?_
  refine tE_of hs sm e p fun x h1 m1 H1 x' e1 l1 s1 rx hs1 p1 => ?_
  split at e1
  · rename_i q
    cases e1
    refine ⟨true, by rw [hK]; exact tru_V F.con s1 rx q, ?_⟩
    rw [if_pos rfl]
    exact p1 m1 H1 x' (Le.refl _) s1 rx
  · rename_i q
    refine ⟨false, by rw [hK]; exact tru_V F.con s1 rx q, ?_⟩
    rw [if_neg Bool.false_ne_true]
    exact ⟨m1, s, h1, r, hs1, s1, e1, p1⟩
  · cases e1
theorem e_not (F : Fac w) (hK : X.K = w.K) (ha : PE X ea (tE w ax W o a)) : PE X (.UnaryOp .Not ea pos) (tE w ax W o (.not a)) := by
  refine PE.to (pe_notT ha) fun σ H Q ⟨m, s, h, r, hs, sm, e, p⟩ => ?_
  refine tE_of hs sm e p fun x h1 m1 H1 x' e1 l1 s1 rx hs1 p1 => ?_
  split at e1
  · rename_i k q
    cases e1
    exact ⟨k, by rw [hK]; exact tru_V F.con s1 rx q, p1 m1 H1 _ (Le.refl _) s1 rfl⟩
  · cases e1
theorem e_ite {t : Tt} (hc : PT X ec (tT w ax W o t)) (ha : PE X ea (tE w ax W o a)) (hb : PE X eb (tE w ax W o b)) : PE X (.IfExp ec ea eb pos) (tE w ax W o (.ite t a b)) := by
  refine PE.to (pe_ifExp hc ha hb) fun σ H Q ⟨m, s, h, r, hs, sm, e, p⟩ => ?_
  refine tT_of hs sm e p fun k h1 m1 H1 e1 l1 s1 hs1 p1 => ?_
  cases k with
  | true => exact ⟨m1, s, h1, r, hs1, s1, e1, p1⟩
  | false => exact ⟨m1, s, h1, r, hs1, s1, e1, p1⟩
theorem t_val (F : Fac w) (hK : X.K = w.K) (hp : plainT ea = true) (ha : PE X ea (tE w ax W o a)) : PT X ea (tT w ax W o (.val a)) := by
  refine PT.to (pt_truth ha (plain_test hp)) fun σ H Q ⟨m, s, h, r, hs, sm, e, p⟩ => ?_
  refine tE_of hs sm e p fun x h1 m1 H1 x' e1 l1 s1 rx hs1 p1 => ?_
  split at e1
  · rename_i k q
    cases e1
    exact ⟨k, by rw [hK]; exact tru_V F.con s1 rx q, p1 m1 H1 k (Le.refl _) s1 rfl⟩
  · cases e1
/-- a value that is a bool, its reading as a test -/
theorem rd_tst {σ : L2.St} {H : Hp} {Q : Bool → Hp → Prop} (hb : ∀ s h v h', evE w.G o a s h = some (.ok v h') → ∃ k, v = .bl k) (q : tT w ax W o (.val a) σ H Q) : tE w ax W o a σ H fun x H' => ∃ k, x = .bl k ∧ Q k H' := by
  obtain ⟨m, s, h, r, hs, sm, e, p⟩ := q
  cases q : evE w.G o a s h with
  | none =>
    have e' : Rb (evE w.G o a s h) _ = some r := e
    rw [q] at e'; cases e'
  | some r0 =>
    have e' : Rb (evE w.G o a s h) _ = some r := e
    rw [q] at e'
    refine ⟨m, s, h, r0, hs, sm, q, ?_⟩
    cases r0 with
    | ok v h1 =>
      obtain ⟨k, rfl⟩ := hb _ _ _ _ q
      cases e'
      intro m1 H1 x l s1 rx
      cases rx
      exact ⟨k, rfl, p m1 H1 k l s1 rfl⟩
    | ex x h1 => cases e'; exact p
theorem cmpop_bl {op : CmpOp} {x y v : Vv} {h h' : VH} (e : cmpop w.G o op x y h = some (.ok v h')) : ∃ k, v = .bl k := by
  unfold cmpop ok1 at e
  cases op <;> dsimp only at e
  all_goals first
    | (split at e <;> first | (cases e; exact ⟨_, rfl⟩) | (obtain ⟨b, _, q⟩ := Option.bind_eq_some_iff.mp e; split at q <;> first | (cases q; exact ⟨_, rfl⟩) | cases q) | cases e)
    | (obtain ⟨b, _, q⟩ := Option.bind_eq_some_iff.mp e; cases q; exact ⟨_, rfl⟩)
theorem Rb_some {α β : Type} {m : Option (Re α)} {k : α → VH → Option (Re β)} {v : β} {h : VH} (e : Rb m k = some (.ok v h)) : ∃ u h1, m = some (.ok u h1) ∧ k u h1 = some (.ok v h) := by
  cases m with
  | none => cases e
  | some r => cases r with
    | ok u h1 => exact ⟨u, h1, rfl, e⟩
    | ex x h1 => cases e
theorem ev_cmp_bl {op : CmpOp} (s : Sl) (h : VH) (v : Vv) (h' : VH) (e : evE w.G o (.cmp op a b) s h = some (.ok v h')) : ∃ k, v = .bl k := by
  obtain ⟨x, h1, _, e1⟩ := Rb_some e
  obtain ⟨y, h2, _, e2⟩ := Rb_some e1
  exact cmpop_bl e2
theorem ev_chain_bl {op op' : CmpOp} (s : Sl) (h : VH) (v : Vv) (h' : VH) (e : evE w.G o (.chain op op' a b c) s h = some (.ok v h')) : ∃ k, v = .bl k := by
  obtain ⟨x, h1, _, e1⟩ := Rb_some e
  obtain ⟨y, h2, _, e2⟩ := Rb_some e1
  obtain ⟨z, h3, _, e3⟩ := Rb_some e2
  split at e3
  · obtain ⟨u, h4, _, e4⟩ := Rb_some e3
    exact cmpop_bl e4
  · cases e3; exact ⟨_, rfl⟩
  · cases e3
theorem t_cmp {op : CmpOp} (F : Fac w) (hK : X.K = w.K) (hu : X.A.units + 100 < cLine) (hm : noSet eb = true) (ha : PE X ea (tE w ax W o a)) (hb : PE X eb (tE w ax W o b)) : PT X (.Compare ea [op] [eb] pos) (tT w ax W o (.val (.cmp op a b))) :=
  PT.to (pt_cmpR (op_cmp (ax := ax) hK F.con (by omega) o op) ha hb (no_marks hm)) fun _ _ _ q => rd_cmp (rd_tst ev_cmp_bl q)
theorem t_chain {op op' : CmpOp} (F : Fac w) (hK : X.K = w.K) (hu : X.A.units + 100 < cLine) (hm2 : noSet ec = true) (ha : PE X ea (tE w ax W o a)) (hb : PE X eb (tE w ax W o b)) (hc : PE X ec (tE w ax W o c)) :
    PT X (.Compare ea [op, op'] [eb, ec] pos) (tT w ax W o (.val (.chain op op' a b c))) :=
  PT.to (pt_chain (op_cmp (ax := ax) hK F.con (by omega) o op) (op_cmp (ax := ax) hK F.con (by omega) o op') ha hb hc (show lastMarks [op'] [ec] = false from no_marks hm2)) fun _ _ _ q => rd_chain (rd_tst ev_chain_bl q)
theorem t_not {t : Tt} (ha : PT X ea (tT w ax W o t)) : PT X (.UnaryOp .Not ea pos) (tT w ax W o (.not t)) := by
  refine PT.to (pt_not ha) fun σ H Q ⟨m, s, h, r, hs, sm, e, p⟩ => ?_
  refine tT_of hs sm e p fun k h1 m1 H1 e1 l1 s1 hs1 p1 => ?_
  cases e1
  exact p1 m1 H1 _ (Le.refl _) s1 rfl
theorem t_and {es : List Expr} {t u : Tt} (ha : PT X ea (tT w ax W o t)) (hb : PW X (.BoolOp .And (eb :: es) pos) (tT w ax W o u)) : PW X (.BoolOp .And (ea :: eb :: es) pos) (tT w ax W o (.and t u)) := by
  refine PW.to (pw_and ha hb) fun σ H Q ⟨m, s, h, r, hs, sm, e, p⟩ => ?_
  refine tT_of hs sm e p fun k h1 m1 H1 e1 l1 s1 hs1 p1 => ?_
  cases k with
  | true => exact ⟨m1, s, h1, r, hs1, s1, e1, p1⟩
  | false => cases e1; exact p1 m1 H1 _ (Le.refl _) s1 rfl
theorem t_or {es : List Expr} {t u : Tt} (ha : PT X ea (tT w ax W o t)) (hb : PW X (.BoolOp .Or (eb :: es) pos) (tT w ax W o u)) : PW X (.BoolOp .Or (ea :: eb :: es) pos) (tT w ax W o (.or t u)) := by
  refine PW.to (pw_or ha hb) fun σ H Q ⟨m, s, h, r, hs, sm, e, p⟩ => ?_
  refine tT_of hs sm e p fun k h1 m1 H1 e1 l1 s1 hs1 p1 => ?_
  cases k with
  | true => cases e1; exact p1 m1 H1 _ (Le.refl _) s1 rfl
  | false => exact ⟨m1, s, h1, r, hs1, s1, e1, p1⟩
theorem plain_ix {X : Cx} (h : noSlice eb = true) : PlainIx eb := fun v u => by
  cases eb <;> first | rfl | cases h
theorem e_idx (F : Fac w) (hK : X.K = w.K) (hsl : noSlice eb = true) (ha : PE X ea (tE w ax W o a)) (hb : PE X eb (tE w ax W o b)) : PE X (.Subscript ea eb pos) (tE w ax W o (.idx a b)) := by
  refine PE.to (pe_ix (ix_D (ax := ax) hK F.con) ha hb (plain_ix (X := X) hsl)) fun σ H Q ⟨m, s, h, r, hs, sm, e, p⟩ => ?_
  refine tE_of hs sm e p fun x h1 m1 H1 x' e1 l1 s1 rx hs1 p1 => ?_
  refine tE_of hs1 s1 e1 p1 fun y h2 m2 H2 y' e2 l2 s2 ry hs2 p2 => ?_
  cases r with
  | ok v h3 => exact ⟨m2, h2, x, y, v, h3, rx.mono l2, ry, s2, e2, p2⟩
  | ex x h3 => exact (index_ne e2).elim
theorem as_nil : PA X [] (tEs w ax W o .nil) := by
  refine PA.to pa_nil fun σ H Q ⟨m, s, h, r, hs, sm, e, p⟩ => ?_
  cases e
  exact p m H [] (Le.refl m) sm .nil
theorem as_cons {e : Expr} {es : List Expr} {as : Exs} (hn : notStar e = true) (he : PE X e (tE w ax W o a)) (hr : PA X es (tEs w ax W o as)) : PA X (e :: es) (tEs w ax W o (.cons a as)) := by
  refine PA.to (pa_cons he hr (star_cons hn)) fun σ H Q ⟨m, s, h, r, hs, sm, e, p⟩ => ?_
  refine tE_of hs sm e p fun x h1 m1 H1 x' e1 l1 s1 rx hs1 p1 => ?_
  refine tEs_of hs1 s1 e1 p1 fun ys h2 m2 H2 ys' e2 l2 s2 ry hs2 p2 => ?_
  cases e2
  exact p2 m2 H2 _ (Le.refl _) s2 (.cons (rx.mono l2) ry)
theorem e_tup {es : List Expr} {k : Nat} {as : Exs} (ha : PA X es (tEs w ax W o as)) : PE X (.Tuple es k pos) (tE w ax W o (.tup as)) := by
  refine PE.to (pe_tup ha) fun σ H Q ⟨m, s, h, r, hs, sm, e, p⟩ => ?_
  refine tEs_of hs sm e p fun xs h1 m1 H1 ys e1 l1 s1 rx hs1 p1 => ?_
  split at e1
  · rename_i hz
    cases e1
    refine ⟨by rw [← rx.length, ← sz_eq]; exact hz, fun q hq => ?_⟩
    exact p1 _ _ _ (s1.le q) (s1.new hq ⟨ys, upd_same, rx.mono (s1.le q)⟩) ⟨q, ext_same, rfl⟩
  · cases e1
theorem e_lst {es : List Expr} {as : Exs} (ha : PA X es (tEs w ax W o as)) : PE X (.List es pos) (tE w ax W o (.lst as)) := by
  refine PE.to (pe_lst ha) fun σ H Q ⟨m, s, h, r, hs, sm, e, p⟩ => ?_
  refine tEs_of hs sm e p fun xs h1 m1 H1 ys e1 l1 s1 rx hs1 p1 => ?_
  split at e1
  · rename_i hz
    cases e1
    refine ⟨by rw [← rx.length, ← sz_eq]; exact hz, fun q hq => ?_⟩
    exact p1 _ _ _ (s1.le q) (s1.new hq ⟨ys, upd_same, rx.mono (s1.le q)⟩) ⟨q, ext_same, rfl⟩
  · cases e1
theorem e_dnew : PE X (.Dict [] [] pos) (tE w ax W o .dnew) := by
  refine PE.to pe_dnewK fun σ H Q ⟨m, s, h, r, hs, sm, e, p⟩ => ?_
  cases e
  exact fun q hq => p _ _ _ (sm.le q) (sm.new (o := .dct []) hq ⟨[], upd_same, .nil⟩) ⟨q, ext_same, rfl⟩
theorem rd_cb {f : Bf} {as : Exs} {σ : L2.St} {H : Hp} {Q : VK} (q : tE w ax W o (.bf f as) σ H Q) : tCB (rCB w ax (callb w.G f)) (tEs w ax W o as) σ H Q := by
  obtain ⟨m, s, h, r, hs, sm, e, p⟩ := q
  refine tEs_of hs sm e p fun xs h1 m1 H1 ys e1 l1 s1 rx hs1 p1 => ?_
  cases r with
  | ok v h3 => exact ⟨m1, h1, xs, v, h3, rx, s1, e1, p1⟩
  | ex x h3 => exact (callb_ne e1).elim
theorem e_bf {e : Expr} {es : List Expr} {p : Pos} {f : Bf} {as : Exs} (F : Fac w) (hK : X.K = w.K) (hr : RoomU n X.A) (hc : f.cold = true → X.calm = true) (hg : Gl X f.name) (hm : X.mg f.name = none) (hn : (e :: es).all notStar = true) (ha : PA X (e :: es) (tEs w ax W o as)) :
    PE X (.Call (.Name f.name p) (e :: es) [] pos) (tE w ax W o (.bf f as)) := by
  have cr := call_bf (ax := ax) hK F.con F.isi hr.gu hr.units f hc
  rw [List.all_cons, Bool.and_eq_true] at hn
  have ty : ∀ {T : String}, f.val = .type T → bootBuiltins f.name = some (.type T) → (f.name ≠ "__name__") → ((f.name == ("__debug__" : Str)) = false) → PE X (.Call (.Name f.name p) (e :: es) [] pos) (tE w ax W o (.bf f as)) := fun {T} h1 h2 h3 h4 => by
    rw [h1] at cr
    exact PE.to (pe_callTy cr hg hm h2 ha (hn := h3) (hdb := h4) (he := star_cons hn.1) (hpl := star_plain hn.2)) fun _ _ _ q => rd_cb q
  have bi : ∀ {T : String}, f.val = .builtin T → bootBuiltins f.name = some (.builtin T) → (f.name ≠ "__name__") → ((f.name == ("__debug__" : Str)) = false) → PE X (.Call (.Name f.name p) (e :: es) [] pos) (tE w ax W o (.bf f as)) := fun {T} h1 h2 h3 h4 => by
    rw [h1] at cr
    exact PE.to (pe_callB cr hg hm h2 ha (hn := h3) (hdb := h4) (he := star_cons hn.1) (hpl := star_plain hn.2)) fun _ _ _ q => rd_cb q
  cases f <;> first
    | exact ty rfl (by decide +kernel) (by decide +kernel) (by decide +kernel)
    | exact bi rfl (by decide +kernel) (by decide +kernel) (by decide +kernel)
end
end Dv

set_option linter.all false
set_option autoImplicit false
set_option maxRecDepth 100000
set_option maxHeartbeats 1000000
namespace Dv
open PySem L2 PySem.Spec PyProof.Rows
/-- a def keeps a promise, at n calls' room -/
structure FnV (w : Wd) (P : Program) (wl : World) (base : Heap) (n : Nat) (f : Addr) (fd : FuncData) (ps : List Str) (sp : Sp) : Prop where
  run : ∀ (A : Around) (outer : List Env) (s : Shared) (H : Hp) (args : Args) (us : List Value) (vs : List V) (Q : VK) (E : XK), RoomU n A → A.handled = none → Env0 P wl w.K w.mg base A outer s H → BindsTo s fd args (ps.zip us) → Vals vs us → us.length = ps.length → sp vs H Q E →
    codeAny (model P wl) A (.call (.ref f) args) (CR (L2.CX P wl) outer P wl H s Q E) s
/-- what a run of a def promises -/
def spR (w : Wd) (call : List Vv → VH → Option (Re Vv)) : Sp := fun vs H Q E => ∃ m h vvs r, RL w.D m vvs vs ∧ SimW w none m h H ∧ call vvs h = some r ∧ PRr w none (R w.D) E m Q r
structure OrcOk (w : Wd) (P : Program) (wl : World) (base : Heap) (n : Nat) (call : Str → List Vv → VH → Option (Re Vv)) : Prop where
  fn : ∀ f fi, w.G.fns f = some fi → fi.kw = [] → ∃ fd ps, ps.length = fi.np ∧ FnV w P wl base n (w.D.fa f) fd ps (spR w (call f)) ∧ PySem.W.keepIn w.K (.ref (w.D.fa f)) = true ∧ Binds w.K fd ps []
  some_ : ∀ f vs h r, call f vs h = some r → ∃ fi, w.G.fns f = some fi ∧ vs.length = fi.np ∧ fi.kw = []
/-- a form of a call with keywords, as it binds -/
def KbP (w : Wd) (fd : FuncData) (ps : List Str) (p : Kp) : Prop := ∃ (mv : List Value) (mV : List V), KBn w.K fd ps p.n p.ks (fun us ws => arrG .none p.arr (us ++ ws) mv) (fun vs zs => arrG .non p.arr (vs ++ zs) mV) ∧ (∀ m, RL w.D m (p.ms.map (·.2)) mV) ∧ p.arr.length = ps.length
structure OrcK (w : Wd) (P : Program) (wl : World) (base : Heap) (n : Nat) (call : Str → Kp → List Vv → VH → Option (Re Vv)) : Prop where
  fn : ∀ f p vs h r, call f p vs h = some r → ∃ fd ps g, FnV w P wl base n (w.D.fa f) fd ps (spR w g) ∧ PySem.W.keepIn w.K (.ref (w.D.fa f)) = true ∧ KbP w fd ps p ∧ g (arrG .non p.arr vs (p.ms.map (·.2))) h = some r
/-- lambdas called -/
structure OrcL (w : Wd) (P : Program) (wl : World) (base : Heap) (n : Nat) (call : Lf → List Vv → VH → Option (Re Vv)) : Prop where
  run : ∀ (A : Around) (outer : List Env) (s : Shared) (H : Hp) (a c : Addr) (k : Lf) (lm : Lm) (us : List Value) (vs : List V) (Q : VK) (E : XK), RoomU n A → A.handled = none → Env0 P wl w.K w.mg base A outer s H → H a = some (LamO a lm c) → H c = some (LamX.CodeO c lm.qual) → w.D.lok k lm →
    Vals vs us → spR w (call k) vs H Q E → codeAny (model P wl) A (.call (.ref a) ⟨us, []⟩) (CR (L2.CX P wl) outer P wl H s Q E) s
/-- what a run of the text's defs keeps -/
structure FnsOk (w : Wd) (P : Program) (wl : World) (base : Heap) (n : Nat) (g : Str → List Vv → VH → Option (Re Vv)) : Prop where
  fn : ∀ f fi, w.G.fns f = some fi → ∃ fd ps, ps.length = fi.np ∧ FnV w P wl base n (w.D.fa f) fd ps (spR w (g f)) ∧ PySem.W.keepIn w.K (.ref (w.D.fa f)) = true ∧ (fi.kw = [] → Binds w.K fd ps []) ∧ ∀ p ∈ fi.kw, KbP w fd ps p
  some_ : ∀ f vs h r, g f vs h = some r → ∃ fi, w.G.fns f = some fi ∧ vs.length = fi.np
theorem FnsOk.pos {w : Wd} {P : Program} {wl : World} {base : Heap} {n : Nat} {g : Str → List Vv → VH → Option (Re Vv)} (F : FnsOk w P wl base n g) : OrcOk w P wl base n (callP w.G g) := by
  have hc : ∀ {f vs h r}, callP w.G g f vs h = some r → g f vs h = some r ∧ ∃ fi, w.G.fns f = some fi ∧ fi.kw = [] := fun {f vs h r} e => by
    unfold callP at e
    split at e
    · rename_i fi q
      split at e
      · rename_i k; exact ⟨e, fi, q, List.isEmpty_iff.mp k⟩
      · cases e
    · cases e
  refine ⟨fun f fi hf hk => ?_, fun f vs h r e => ?_⟩
  · obtain ⟨fd, ps, h1, h2, h3, h4, _⟩ := F.fn f fi hf
    refine ⟨fd, ps, h1, ⟨fun A outer s H args us vs Q E a b c d e l ⟨m, h, vvs, r, q1, q2, q3, q4⟩ => h2.run A outer s H args us vs Q E a b c d e l ⟨m, h, vvs, r, q1, q2, (hc q3).1, q4⟩⟩, h3, h4 hk⟩
  · obtain ⟨e1, fi, h1, h2⟩ := hc e
    obtain ⟨fi', h3, h4⟩ := F.some_ f vs h r e1
    rw [h1] at h3; cases h3
    exact ⟨fi, h1, h4, h2⟩
theorem FnsOk.kws {w : Wd} {P : Program} {wl : World} {base : Heap} {n : Nat} {g : Str → List Vv → VH → Option (Re Vv)} (F : FnsOk w P wl base n g) : OrcK w P wl base n (callK w.G g) := by
  refine ⟨fun f p vs h r e => ?_⟩
  unfold callK at e
  split at e
  · rename_i fi q
    split at e
    · rename_i k
      obtain ⟨fd, ps, h1, h2, h3, _, h5⟩ := F.fn f fi q
      exact ⟨fd, ps, g f, h2, h3, h5 p k, e⟩
    · cases e
  · cases e
/-- the classes -/
structure ClsOk (w : Wd) (c : Str) (k : Cl) : Prop where
  cl : k.exc = none → Cls w.K (w.D.ca c)
  fl : ∀ f, k.flds.contains f = true → PySem.W.findIn w.K (.ref (w.D.ca c)) f = some none
  pr : ∀ f fk, k.props.lookup f = some fk → ∃ p, PropOf w.K (w.D.ca c) f p (w.D.fa fk)
  me : ∀ m fk, k.meths.lookup m = some fk → k.exc = none ∧ Meth w.K (w.D.ca c) m (w.D.fa fk)
  ini : ∀ fk, k.meths.lookup ("__init__" : Str) = some fk → Mk w.K (w.D.ca c) (w.D.fa fk)
  ne : ∀ fk, k.meths.lookup ("__eq__" : Str) = some fk → PySem.W.findIn w.K (.ref (w.D.ca c)) "__ne__" = some (some (.builtin "object.__ne__"))
  xf : k.exc ≠ none → XfC w.K (w.D.ca c)
def Wd.ClsAll (w : Wd) : Prop := ∀ c k, w.G.cls c = some k → ClsOk w c k
section
variable {w : Wd} {ax : Ax} {W : WX} {o : Orc} {P : Program} {wl : World} {base : Heap} {n : Nat} {N : List Str} {sc : Scope} {X : Cx} {a b c : Ex} {ea eb ec : Expr} {pos : Pos} {f : Str} {m : Mp} {h : VH} {H : Hp}
/-- behind a call's end at A', for a value -/
theorem run_at {A' : Around} {call : Str → List Vv → VH → Option (Re Vv)} {j : Nat} (hP : X.prog = P) (hw : X.w = wl) (hK : X.K = w.K) (hm : X.mg = w.mg) (hB : X.base = base) (O : OrcOk w P wl base j call) {pins : List (Addr × Obj)} {s : Shared} {σ : L2.St} {vs : List V} {us : List Value} {Q : VK} {E : XK} {vvs : List Vv} {r : Re Vv} {R' : Result → Shared → Prop}
    (hr : RoomU j A') (hd : A'.handled = none) (e0 : Env0 X.prog X.w X.K X.mg X.base A' X.stack s H) (hk : X.K.In s.heap) (ru : Vals vs us) (rl : RL w.D m vvs vs) (sm : SimW w none m h H) (e : call f vvs h = some r) (p : PRr w none (R w.D) E m Q r)
    (hR : ∀ r s', CR (L2.CX X.prog X.w) X.stack X.prog X.w H s Q E r s' → R' r s') : codeAny (model X.prog X.w) A' (.call (.ref (w.D.fa f)) ⟨us, []⟩) R' s := by
  obtain ⟨fi, h1, h2, h2k⟩ := O.some_ f vvs h r e
  obtain ⟨fd, ps, h3, F, _, hb⟩ := O.fn f fi h1 h2k
  have hl : us.length = ps.length := by rw [← ru.length, ← rl.length, h2, h3]
  have b1 := hb s us (by rw [← hK]; exact hk) (by rw [List.append_nil]; exact hl)
  rw [List.append_nil] at b1
  subst hP hw hB
  rw [hK, hm] at e0
  exact codeAny_mono (F.run A' X.stack s H ⟨us, []⟩ us vs Q E hr hd e0 b1 ru hl ⟨m, h, vvs, r, rl, sm, e, p⟩) fun r s' hq => hR r s' hq
/-- an own def is called with values, nothing being handled -/
theorem run_V {call : Str → List Vv → VH → Option (Re Vv)} (g : Good w ax P wl base n N sc true X) (O : OrcOk w P wl base n call) (tk : Takes X W) {pins : List (Addr × Obj)} {s : Shared} {σ : L2.St} {vs : List V} {us : List Value} {Q : VK} {vvs : List Vv} {r : Re Vv}
    (I : Inv X pins σ H s) (ru : Vals vs us) (rl : RL w.D m vvs vs) (sm : SimW w none m h H) (e : call f vvs h = some r) (p : PRr w none (R w.D) (ExW W σ) m Q r) : wpAny (model X.prog X.w) X.A (PySem.call (.ref (w.D.fa f)) us) (EP X pins σ Q) X.xe s := by
  refine wpAny_call (run_at (pins := pins) (σ := σ) g.hP g.hw g.hK g.hm g.hB O g.hr (g.hd rfl) I.env0 I.kIn ru rl sm e p fun r s' hq => ?_)
  cases r with
  | error e => exact passAt tk σ pins H s e s' I hq
  | ok fl =>
    cases fl with
    | ret u => exact I.after hq
    | next => exact False.elim hq
    | brk => exact False.elim hq
    | cont => exact False.elim hq
theorem PRr.toNone {α β : Type} {rel : Mp → α → β → Prop} {E : XK} {Q : β → Hp → Prop} {r : Re α} (e : ax = none) (p : PRr w ax rel E m Q r) : PRr w none rel E m Q r := by subst e; exact p
/-- f(..) -/
theorem e_call0 {p : Pos} (g : Good w ax P wl base n N sc true X) (O : OrcOk w P wl base n o.call) (tk : Takes X W) (hg : Gl X f) (hm : w.mg f = some (.ref (w.D.fa f))) (hk : PySem.W.keepIn w.K (.ref (w.D.fa f)) = true) (hdb : (f == ("__debug__" : Str)) = false) :
    PE X (.Call (.Name f p) [] [] pos) (tE w ax W o (.call f .nil)) := by
  refine ⟨fun pins s σ H Q I ⟨m, s', h, r, hs, sm, e, q⟩ => ?_⟩
  have ea := g.nx rfl
  subst ea
  refine wpAny_Call_Name_kw (ld_glob I hg (by rw [g.hm]; exact hm) ?_ hdb)
  exact PySem.W.callWith_K0 I.kIn (by rw [g.hK]; exact hk) (run_V (vs := []) (us := []) g O tk I .nil .nil sm e q)
theorem e_call {as : Exs} {e : Expr} {es : List Expr} {p : Pos} (g : Good w ax P wl base n N sc true X) (O : OrcOk w P wl base n o.call) (tk : Takes X W) (hg : Gl X f) (hm : w.mg f = some (.ref (w.D.fa f))) (hk : PySem.W.keepIn w.K (.ref (w.D.fa f)) = true) (hdb : (f == ("__debug__" : Str)) = false)
    (hn : (e :: es).all notStar = true) (ha : PA X (e :: es) (tEs w ax W o as)) : PE X (.Call (.Name f p) (e :: es) [] pos) (tE w ax W o (.call f as)) := by
  have ea := g.nx rfl
  subst ea
  refine ⟨fun pins s σ H Q I ⟨m, s', h, r, hs, sm, ev, q⟩ => ?_⟩
  rw [List.all_cons, Bool.and_eq_true] at hn
  refine wpAny_Call_Name_kw (ld_glob I hg (by rw [g.hm]; exact hm) ?_ hdb)
  refine PySem.W.callWith_K (h₀ := X.base) I.ok.mod.kin (by rw [g.hK]; exact hk) (thn (ha.run pos pins s σ H (fun vs H1 => ∃ m h vvs r, RL w.D m vvs vs ∧ SimW w none m h H1 ∧ o.call f vvs h = some r ∧ PRr w none (R w.D) (ExW W σ) m Q r) I ?_) fun us s1 ⟨vs, H1, I1, ru, q⟩ => ⟨I1.kIn, ?_⟩) (star_cons hn.1) (star_plain hn.2)
  · exact tEs_of hs sm ev q fun xs h1 m1 H1 ys e1 l1 s1 rx hs1 p1 => ⟨m1, h1, xs, r, rx, s1, e1, p1⟩
  · obtain ⟨m, h, vvs, r', rl, sm, e, p⟩ := q
    exact run_V g O tk I1 ru rl sm e p
/-- an instance called: what it keeps -/
theorem cw_ins {pl : Program} {wd : World} {A : Around} {E Qv : Value → Shared → Prop} {s : Shared} {env : Env} {x : Addr} {e : Expr} {es : List Expr} (k : wpAny (model pl wd) A (spliced (backTo pos (starEach (e :: es) env))) (fun us t => (∃ K C od ox, PySem.W.kco_P K x C ox od t.heap ∧ ox.data = .plain) ∧ wpAny (model pl wd) A (PySem.call (.ref x) us) Qv E t) E s)
    (h1 : starEach (e :: es) env = (false, eval e env) :: starEach es env) (h2 : (backTo pos (starEach es env)).any (·.1) = false) : wpAny (model pl wd) A (callWith pos (.ref x) [] (backTo pos (starEach (e :: es) env)) []) Qv E s := by
  rw [h1] at k ⊢
  have no : ((backTo pos ((false, eval e env) :: starEach es env)).any (·.1) || ([] : List (Option Str × Sem Value)).any (·.1.isNone)) = false := by
    show ((false || (backTo pos (starEach es env)).any (·.1)) || false) = false
    rw [h2]; rfl
  have k2 : wpAny (model pl wd) A (evalArgs (.ref x) true (backTo pos ((false, eval e env) :: starEach es env)) []) (fun a t => (∃ K C od ox, PySem.W.kco_P K x C ox od t.heap ∧ ox.data = .plain) ∧ wpAny (model pl wd) A (PySem.call (.ref x) ([] ++ a.pos) a.kw) Qv E t) E s := PySem.Calls.evalArgs_plain k
  unfold callWith
  refine wpAny_bind (wpAny_holding (wpAny_mono k2 (fun r t ht => wpAny_bind (wpAny_standAt ?_)) fun _ _ z => z))
  obtain ⟨⟨K, C, od, ox, kp, hd⟩, kc⟩ := ht
  simp only [no]
  refine wpAny_bind ((PySem.W.kco_keeper (M := model pl wd) kp.2 hd).here (wpAny_bind (wpAny_mono (wpAny_operateT kc) (fun r2 t2 h3 => wpAny_bind (wpAny_holding (wpAny_point (wpAny_pure h3)))) fun _ _ z => z)))
/-- a local name that holds a def, called -/
theorem e_cv {as : Exs} {e : Expr} {es : List Expr} {p : Pos} {i : Nat} {x : Str} (F : Fac w) (C : w.ClsAll) (g : Good w ax P wl base n N sc true X) (O : OrcOk w P wl base n o.call) (OL : OrcL w P wl base n o.callL) (tk : Takes X W) (hN : X.N[i]? = some x) (hv : Vis X.env.scope x) (hd : (x == ("__debug__" : Str)) = false) (hcd : (x == ("__classdict__" : Str)) = false)
    (hn : (e :: es).all notStar = true) (ha : PA X (e :: es) (tEs w ax W o as)) : PE X (.Call (.Name x p) (e :: es) [] pos) (tE w ax W o (.cv i as)) := by
  have ea := g.nx rfl
  subst ea
  refine ⟨fun pins s σ H Q I ⟨m, s', h, r, hs, sm, ev, q⟩ => ?_⟩
  rw [List.all_cons, Bool.and_eq_true] at hn
  simp only [evE] at ev
  split at ev
  · rename_i f q1
    obtain ⟨x', h1, rfl⟩ := hs.get q1
    split at ev
    · rename_i hf
      refine wpAny_Call_Name_kw (thn ((pe_var (X := X) (pos := p) (i := i) hN hv hd hcd).run pins s σ H (fun v H1 => v = .ref (w.D.fa f) ∧ H1 = H) I ⟨_, h1, rfl, rfl⟩) fun u s0 ⟨v, H0, I0, rv, ev0, eH⟩ => ?_)
      subst ev0 eH
      cases rv
      refine PySem.W.callWith_K (h₀ := X.base) I.ok.mod.kin (by rw [g.hK]; exact F.kp f hf) (thn (ha.run pos pins s0 σ H0 (fun vs H1 => ∃ m h vvs r, RL w.D m vvs vs ∧ SimW w none m h H1 ∧ o.call f vvs h = some r ∧ PRr w none (R w.D) (ExW W σ) m Q r) I0 ?_) fun us s1 ⟨vs, H1, I1, ru, q⟩ => ⟨I1.kIn, ?_⟩) (star_cons hn.1) (star_plain hn.2)
      · exact tEs_of hs sm ev q fun xs h1 m1 H1 ys e1 l1 s1 rx hs1 p1 => ⟨m1, h1, xs, r, rx, s1, e1, p1⟩
      · obtain ⟨m, h, vvs, r', rl, sm, e, p⟩ := q
        exact run_V g O tk I1 ru rl sm e p
    · cases ev
  · rename_i j q1
    obtain ⟨x', h1, h2⟩ := hs.get q1
    split at ev
    · rename_i k q3
      obtain ⟨a, rfl, ma, h3⟩ := sm.ref h2 q3
      obtain ⟨lm, c, hl, hcd', _⟩ := h3
      refine wpAny_Call_Name_kw (thn ((pe_var (X := X) (pos := p) (i := i) hN hv hd hcd).run pins s σ H (fun v H1 => v = .ref a ∧ H1 = H) I ⟨_, h1, rfl, rfl⟩) fun u s0 ⟨v, H0, I0, rv, ev0, eH⟩ => ?_)
      subst ev0 eH
      cases rv
      have fnat : ∀ {s' : Shared} {H' : Hp} {l : Lm} {c' : Addr}, Inv X pins σ H' s' → H' a = some (LamO a l c') → PySem.W.FnAt a s'.heap := fun I' e => by
        obtain ⟨⟨pm, ctv, z⟩, _, _⟩ := I'.hok a _ e
        exact ⟨_, _, _, _, z⟩
      refine PySem.W.callWith_F (fnat I0 hl) (thn (ha.run pos pins s0 σ H0 (fun vs H1 => ∃ m h vvs r k lm c, RL w.D m vvs vs ∧ SimW w none m h H1 ∧ H1 a = some (LamO a lm c) ∧ H1 c = some (LamX.CodeO c lm.qual) ∧ w.D.lok k lm ∧ o.callL k vvs h = some r ∧ PRr w none (R w.D) (ExW W σ) m Q r) I0 ?_) fun us s1 ⟨vs, H1, I1, ru, q⟩ => ?_) (star_cons hn.1) (star_plain hn.2)
      · refine tEs_of hs sm ev q fun xs h1 m1 H1 ys e1 l1 s1 rx hs1 p1 => ?_
        split at e1
        · rename_i k' q5
          obtain ⟨a', m', lm', c', k1, k2, k3⟩ := s1.at_ j _ q5
          have m'' := l1 _ _ ma
          rw [m''] at m'
          cases m'
          exact ⟨m1, h1, xs, r, k', lm', c', rx, s1, k1, k2, k3, e1, p1⟩
        · cases e1
      · obtain ⟨m, h, vvs, r', k', lm', c', rl, sm, k1, k2, k3, e, p⟩ := q
        refine ⟨fnat I1 k1, wpAny_call ?_⟩
        have e0 := I1.env0
        rw [g.hK, g.hm, g.hP, g.hw, g.hB] at e0
        have z := OL.run X.A X.stack s1 H1 a c' k' lm' us vs Q (ExW W σ) g.hr (g.hd rfl) e0 k1 k2 k3 ru ⟨m, h, vvs, r', rl, sm, e, p⟩
        rw [g.hP, g.hw]
        refine codeAny_mono z fun r s' hq => ?_
        cases r with
        | error e => exact passAt tk σ pins H1 s1 e s' I1 (by rw [g.hP, g.hw]; exact hq)
        | ok fl =>
          cases fl with
          | ret u => exact I1.after (by rw [g.hP, g.hw]; exact hq)
          | next => exact False.elim hq
          | brk => exact False.elim hq
          | cont => exact False.elim hq
    · rename_i c0 fs0 q3
      obtain ⟨a, rfl, ma, _⟩ := sm.ref h2 q3
      refine wpAny_Call_Name_kw (thn ((pe_var (X := X) (pos := p) (i := i) hN hv hd hcd).run pins s σ H (fun v H1 => v = .ref a ∧ H1 = H) I ⟨_, h1, rfl, rfl⟩) fun u s0 ⟨v, H0, I0, rv, ev0, eH⟩ => ?_)
      subst ev0 eH
      cases rv
      refine cw_ins (thn (ha.run pos pins s0 σ H0 (fun vs H1 => ∃ m h vvs r c fs k, RL w.D m (vvs) (.ref a :: vs) ∧ SimW w none m h H1 ∧ ObjR w.D w.K none m H1 a (.ins c fs) ∧ methOf w.G c "__call__" = some k ∧ (w.G.fns k).isSome = true ∧ o.call k vvs h = some r ∧ PRr w none (R w.D) (ExW W σ) m Q r) I0 ?_) fun us s1 ⟨vs, H1, I1, ru, q⟩ => ?_) (star_cons hn.1) (star_plain hn.2)
      · refine tEs_of hs sm ev q fun xs h1 m1 H1 ys e1 l1 s1 rx hs1 p1 => ?_
        split at e1
        · rename_i c fs q5
          split at e1
          · rename_i k q6
            split at e1
            · rename_i q7
              obtain ⟨a', m', k1⟩ := s1.at_ j _ q5
              have m'' := l1 _ _ ma
              rw [m''] at m'
              cases m'
              exact ⟨m1, h1, .ref j :: xs, r, c, fs, k, .cons ⟨a, m'', rfl⟩ rx, s1, k1, q6, q7, e1, p1⟩
            · cases e1
          · cases e1
        · cases e1
      · obtain ⟨m, h, vvs, r', cn, fs, k, rl, sm, ⟨dx, gs, k1, _⟩, k2, k3, e, p⟩ := q
        obtain ⟨mA, OA, _⟩ := ins_get I1.hok k1
        obtain ⟨od, J, _⟩ := OA.look
        obtain ⟨kc, q1, q2⟩ := Option.bind_eq_some_iff.mp k2
        obtain ⟨hx, M⟩ := (C cn kc q1).me _ k q2
        have kin : w.K.In s1.heap := by rw [← g.hK]; exact I1.kIn
        refine ⟨⟨w.K, w.D.ca cn, _, _, ⟨kin, J⟩, rfl⟩, wpAny_call (PySem.W.kco_code (a := ⟨us, []⟩) kin J rfl M.at_ M.fn (F.fi k k3) ?_)⟩
        refine run_at (pins := pins) (σ := σ) (Q := Q) (E := ExW W σ) g.hP g.hw g.hK g.hm g.hB O g.hr (g.hd rfl) I1.env0 I1.kIn (vs := .ref a :: vs) (us := .ref a :: us) (.cons rfl ru) rl sm e p fun r s' hq => ?_
        cases r with
        | error e => exact passAt tk σ pins H1 s1 e s' I1 hq
        | ok fl =>
          cases fl with
          | ret u => exact I1.after hq
          | next => exact False.elim hq
          | brk => exact False.elim hq
          | cont => exact False.elim hq
    · cases ev
  · cases ev
/-- e.m(..) of an instance of an own class -/
theorem e_meth {as : Exs} {e : Expr} {es : List Expr} {apos : Pos} {mn : Str} (F : Fac w) (C : w.ClsAll) (g : Good w ax P wl base n N sc true X) (O : OrcOk w P wl base n o.call) (tk : Takes X W) (hl : (apos.endLine == pos.line) = true) (hfew : methodCallForm (e :: es).length (backTo pos (starEach (e :: es) X.env)) (backToKw pos (keywordEach [] X.env)) = true)
    (hsu : noSuper ea = true) (hn : (e :: es).all notStar = true) (ho : PE X ea (tE w ax W o a)) (ha : PA X (e :: es) (tEs w ax W o as)) : PE X (.Call (.Attribute ea mn apos) (e :: es) [] pos) (tE w ax W o (.meth a mn as)) := by
  have eax := g.nx rfl
  subst eax
  refine ⟨fun pins s σ H Q I ⟨m, s', h, r, hs, sm, ev, q⟩ => ?_⟩
  rw [List.all_cons, Bool.and_eq_true] at hn
  refine PySem.W.methodCall_KW (pl := plainOf ea X.env) (thn (ho.run pins s σ H (fun x H1 => ∃ m h v fs c k, R w.D m v x ∧ SimW w none m h H1 ∧ SlR w.D m s' σ ∧ obj w.G h v = some (.ins c fs) ∧ methOf w.G c mn = some k ∧ fs.lookup mn = none ∧ (Rb (evEs w.G o as s' h) fun vs h2 => o.call k (v :: vs) h2) = some r ∧ PRr w none (R w.D) (ExW W σ) m Q r) I ?_) fun u s1 ⟨x, H1, I1, rx, m, h, v, fs, c, k, rv, sm, hs, ob, hm, hf, ev, q⟩ => ?_) ?_
  · refine tE_of hs sm ev q fun x h1 m1 H1 x' e1 l1 s1 rx hs1 p1 => ?_
    split at e1
    · rename_i c fs q1
      split at e1
      · rename_i k q2 q3
        exact ⟨m1, h1, x, fs, c, k, rx, s1, hs1, q1, q2, q3, e1, p1⟩
      · cases e1
    · cases e1
  · cases v with
    | ref i =>
      obtain ⟨p, rfl, _, dx, gs, h1, h2⟩ := sm.ref rv ob
      obtain rfl : u = Value.ref p := rx
      obtain ⟨kc, q1, q2⟩ := Option.bind_eq_some_iff.mp hm
      obtain ⟨hx, M⟩ := (C c kc q1).me mn k q2
      refine getmeth_ok I1 h1 (by rw [g.hK]; exact (C c kc q1).cl hx) (by rw [g.hK]; exact M) (RF.lookup_none h2 hf) ?_
      refine PySem.W.callWith_K (first := [.ref p]) (h₀ := X.base) I.ok.mod.kin (by rw [g.hK]; exact M.kp) (thn (ha.run pos pins s1 σ H1 (fun vs H1 => ∃ m h vvs r, RL w.D m (vvs) (.ref p :: vs) ∧ SimW w none m h H1 ∧ o.call k vvs h = some r ∧ PRr w none (R w.D) (ExW W σ) m Q r) I1 ?_) fun us s2 ⟨vs, H2, I2, ru, q⟩ => ⟨I2.kIn, ?_⟩) (star_cons hn.1) (star_plain hn.2)
      · exact tEs_of hs sm ev q fun xs h1 m1 H1 ys e1 l1 s1 rx hs1 p1 => ⟨m1, h1, .ref i :: xs, r, .cons (rv.mono l1) rx, s1, e1, p1⟩
      · obtain ⟨m, h, vvs, r', rl, sm, e, p'⟩ := q
        exact run_V (vs := .ref p :: vs) (us := .ref p :: us) g O tk I2 (.cons rfl ru) rl sm e p'
    | con k =>
      obtain ⟨xs, ys, e, _⟩ := F.con.only k _ ob
      cases e
    | _ => cases ob
  · show eval (.Call (.Attribute ea mn apos) (e :: es) [] pos) X.env = _
    rw [show eval (.Call (.Attribute ea mn apos) (e :: es) [] pos) X.env = (do
      let ov ← attributeBase ea mn X.env (eval ea X.env)
      standAt apos.atName
      methodCall ea mn apos pos X.env ov ((e :: es).length + ([] : List Keyword).length) (backTo pos (starEach (e :: es) X.env)) (backToKw pos (keywordEach [] X.env))) from rfl]
    rw [attr_base hsu]
    refine congrArg (fun k => eval ea X.env >>= k) (funext fun ov => ?_)
    refine congrArg (fun k => standAt apos.atName >>= k) (funext fun _ => ?_)
    exact mcall_line hfew hl
theorem e_meth0 {apos : Pos} {mn : Str} (F : Fac w) (C : w.ClsAll) (g : Good w ax P wl base n N sc true X) (O : OrcOk w P wl base n o.call) (tk : Takes X W) (hl : (apos.endLine == pos.line) = true)
    (hsu : noSuper ea = true) (ho : PE X ea (tE w ax W o a)) : PE X (.Call (.Attribute ea mn apos) [] [] pos) (tE w ax W o (.meth a mn .nil)) := by
  have eax := g.nx rfl
  subst eax
  refine ⟨fun pins s σ H Q I ⟨m, s', h, r, hs, sm, ev, q⟩ => ?_⟩
  refine PySem.W.methodCall_KW (pl := plainOf ea X.env) (thn (ho.run pins s σ H (fun x H1 => ∃ m h v fs c k, R w.D m v x ∧ SimW w none m h H1 ∧ obj w.G h v = some (.ins c fs) ∧ methOf w.G c mn = some k ∧ fs.lookup mn = none ∧ o.call k [v] h = some r ∧ PRr w none (R w.D) (ExW W σ) m Q r) I ?_) fun u s1 ⟨x, H1, I1, rx, m, h, v, fs, c, k, rv, sm, ob, hm, hf, ev, q⟩ => ?_) ?_
  · refine tE_of hs sm ev q fun x h1 m1 H1 x' e1 l1 s1 rx hs1 p1 => ?_
    split at e1
    · rename_i c fs q1
      split at e1
      · rename_i k q2 q3
        exact ⟨m1, h1, x, fs, c, k, rx, s1, q1, q2, q3, e1, p1⟩
      · cases e1
    · cases e1
  · cases v with
    | ref i =>
      obtain ⟨p, rfl, _, dx, gs, h1, h2⟩ := sm.ref rv ob
      obtain rfl : u = Value.ref p := rx
      obtain ⟨kc, q1, q2⟩ := Option.bind_eq_some_iff.mp hm
      obtain ⟨hx, M⟩ := (C c kc q1).me mn k q2
      refine getmeth_ok I1 h1 (by rw [g.hK]; exact (C c kc q1).cl hx) (by rw [g.hK]; exact M) (RF.lookup_none h2 hf) ?_
      exact PySem.W.callWith_K0 (first := [.ref p]) I1.kIn (by rw [g.hK]; exact M.kp) (run_V (vs := [.ref p]) (us := [.ref p]) g O tk I1 (.cons rfl .nil) (.cons rv .nil) sm ev q)
    | con k =>
      obtain ⟨xs, ys, e, _⟩ := F.con.only k _ ob
      cases e
    | _ => cases ob
  · show eval (.Call (.Attribute ea mn apos) [] [] pos) X.env = _
    rw [show eval (.Call (.Attribute ea mn apos) [] [] pos) X.env = (do
      let ov ← attributeBase ea mn X.env (eval ea X.env)
      standAt apos.atName
      methodCall ea mn apos pos X.env ov (([] : List Expr).length + ([] : List Keyword).length) (backTo pos (starEach [] X.env)) (backToKw pos (keywordEach [] X.env))) from rfl]
    rw [attr_base hsu]
    refine congrArg (fun k => eval ea X.env >>= k) (funext fun ov => ?_)
    refine congrArg (fun k => standAt apos.atName >>= k) (funext fun _ => ?_)
    exact mcall_line rfl hl
/-- C(..) -/
theorem run_mk {pins : List (Addr × Obj)} {s : Shared} {σ : L2.St} {vs : List V} {us : List Value} {Q : VK} {vvs : List Vv} {r : Re Vv} {cn k : Str} {j : Nat} (g : Good w ax P wl base (j + 1) N sc true X) (O : OrcOk w P wl base j o.call2) (tk : Takes X W) (M : Mk w.K (w.D.ca cn) (w.D.fa k))
    (I : Inv X pins σ H s) (ru : Vals vs us) (rl : RL w.D m vvs vs) (sm : SimW w none m h H)
    (e : (Rb (o.call2 k (.ref h.length :: vvs) (h ++ [.ins cn []])) fun r h2 => match r with | .non => some (.ok (.ref h.length) h2) | _ => none) = some r) (p : PRr w none (R w.D) (ExW W σ) m Q r) :
    wpAny (model X.prog X.w) X.A (PySem.call (.ref (w.D.ca cn)) us) (EP X pins σ Q) X.xe s := by
  have I2 := Inv.made (C := w.D.ca cn) I
  have f1 : H (s.heap.objs.size + 1) = none := I.hok.fresh (Nat.le_succ _)
  have f0 : H s.heap.objs.size = none := I.hok.fresh (Nat.le_refl _)
  have nd : s.heap.objs.size ≠ s.heap.objs.size + 1 := Nat.ne_of_lt (Nat.lt_succ_self _)
  have sm1 : SimW w none m h (upd H s.heap.objs.size (.own (s.heap.objs.size + 1))) := sm.fresh f0
  have f2 : upd H s.heap.objs.size (.own (s.heap.objs.size + 1)) (s.heap.objs.size + 1) = none := by rw [upd_ne nd.symm]; exact f1
  have sm2 := sm1.new (o := .ins cn []) (u := .ins (w.D.ca cn) s.heap.objs.size []) f2 ⟨_, [], upd_same, .nil⟩
  have l1 := sm1.le (s.heap.objs.size + 1)
  have rl2 : RL w.D (ext m h.length (s.heap.objs.size + 1)) (.ref h.length :: vvs) (.ref (s.heap.objs.size + 1) :: vs) := .cons ⟨_, ext_same, rfl⟩ (rl.mono l1)
  cases q : o.call2 k (.ref h.length :: vvs) (h ++ [.ins cn []]) with
  | none => rw [q] at e; cases e
  | some r0 =>
    rw [q] at e
    refine wpAny_call (make_map (f := w.D.fa k) I.kIn (by rw [g.hK]; exact M.makes) (by rw [g.hK]; exact M.init) (by rw [g.hK]; exact beq_iff_eq.mp M.fn)
      (run_at (pins := pins) (σ := σ) (Q := fun v H2 => v = .non ∧ Q (.ref (s.heap.objs.size + 1)) H2) (E := ExW W σ) g.hP g.hw g.hK g.hm g.hB O (g.hr.make _ us []) (g.hd rfl) (I2.env0.make _ us []) I2.kIn (vs := .ref (s.heap.objs.size + 1) :: vs) (.cons rfl ru) rl2 sm2 q ?_ fun r s' hq => ?_))
    · cases r0 with
      | ok v h2 =>
        intro m' H' x l s' rx
        cases v with
        | non =>
          cases rx
          cases e
          exact ⟨rfl, p m' H' _ (l1.trans l) s' ⟨_, l _ _ ext_same, rfl⟩⟩
        | _ => cases e
      | ex x h2 => cases e; exact p.mono l1
    · cases r with
      | error e => exact passAt tk σ pins _ _ e s' I2 hq
      | ok fl =>
        cases fl with
        | ret u =>
          obtain ⟨v, H', I3, rv, ev, q3⟩ := I2.after hq
          subst ev
          exact ⟨rv, ⟨V.ref (s.heap.objs.size + 1), H', I3, rfl, q3⟩⟩
        | next => exact False.elim hq
        | brk => exact False.elim hq
        | cont => exact False.elim hq
theorem e_mk {as : Exs} {e : Expr} {es : List Expr} {p : Pos} {cn : Str} {j : Nat} (C : w.ClsAll) (g : Good w ax P wl base (j + 1) N sc true X) (O : OrcOk w P wl base j o.call2) (tk : Takes X W) (hg : Gl X cn) (hm : w.mg cn = some (.ref (w.D.ca cn))) (hdb : (cn == ("__debug__" : Str)) = false)
    (hn : (e :: es).all notStar = true) (hin : (methOf w.G cn "__init__").isSome = true) (ha : PA X (e :: es) (tEs w ax W o as)) : PE X (.Call (.Name cn p) (e :: es) [] pos) (tE w ax W o (.mk cn as)) := by
  have ea := g.nx rfl
  subst ea
  refine ⟨fun pins s σ H Q I ⟨m, s', h, r, hs, sm, ev, q⟩ => ?_⟩
  rw [List.all_cons, Bool.and_eq_true] at hn
  obtain ⟨k, hk⟩ := Option.isSome_iff_exists.mp hin
  obtain ⟨kc, q1, q2⟩ := Option.bind_eq_some_iff.mp hk
  have M := (C cn kc q1).ini k q2
  refine wpAny_Call_Name_kw (ld_glob I hg (by rw [g.hm]; exact hm) ?_ hdb)
  refine PySem.W.callWith_K (h₀ := X.base) I.ok.mod.kin (by rw [g.hK]; exact M.kp) (thn (ha.run pos pins s σ H (fun vs H1 => ∃ m h vvs, RL w.D m vvs vs ∧ SimW w none m h H1 ∧ (Rb (o.call2 k (.ref h.length :: vvs) (h ++ [.ins cn []])) fun r h2 => match r with | .non => some (.ok (.ref h.length) h2) | _ => none) = some r ∧ PRr w none (R w.D) (ExW W σ) m Q r) I ?_) fun us s1 ⟨vs, H1, I1, ru, q⟩ => ⟨I1.kIn, ?_⟩) (star_cons hn.1) (star_plain hn.2)
  · refine tEs_of hs sm ev q fun xs h1 m1 H1 ys e1 l1 s1 rx hs1 p1 => ⟨m1, h1, xs, rx, s1, ?_, p1⟩
    rw [hk] at e1
    exact e1
  · obtain ⟨m, h, vvs, rl, sm, e, p⟩ := q
    exact run_mk g O tk M I1 ru rl sm e p
end
end Dv

set_option linter.all false
set_option autoImplicit false
set_option maxRecDepth 100000
set_option maxHeartbeats 1000000
namespace Dv
open PySem L2 PySem.Spec PyProof.Rows
theorem Paired.getD {α β : Type} {F : α → β → Prop} {z : α} {z' : β} (hz : F z z') : ∀ {xs : List α} {ys : List β} (i : Nat), Paired F xs ys → F (xs.getD i z) (ys.getD i z')
  | _, _, _, .nil => by simpa using hz
  | _, _, 0, .cons r _ => by simpa using r
  | _, _, i + 1, .cons _ t => by simpa using Paired.getD hz i t
theorem arr_P {α β : Type} {F : α → β → Prop} {z : α} {z' : β} (hz : F z z') {xs ds : List α} {ys es : List β} (r : Paired F xs ys) (r2 : Paired F ds es) : ∀ arr : List (Nat ⊕ Nat), Paired F (arrG z arr xs ds) (arrG z' arr ys es)
  | [] => .nil
  | .inl i :: l => .cons (Paired.getD hz i r) (arr_P hz r r2 l)
  | .inr i :: l => .cons (Paired.getD hz i r2) (arr_P hz r r2 l)
theorem arr_len {α : Type} {z : α} {arr : List (Nat ⊕ Nat)} {xs ds : List α} : (arrG z arr xs ds).length = arr.length := List.length_map _
theorem Paired.splitP {α β : Type} {F : α → β → Prop} : ∀ {xs xs' : List α} {ys : List β}, Paired F (xs ++ xs') ys → ∃ a b, ys = a ++ b ∧ Paired F xs a ∧ Paired F xs' b
  | [], _, _, h => ⟨[], _, rfl, .nil, h⟩
  | x :: xs, _, _, .cons r t => by
    obtain ⟨a, b, rfl, h1, h2⟩ := Paired.splitP (xs := xs) t
    exact ⟨_ :: a, b, rfl, .cons r h1, h2⟩
section
variable {w : Wd} {ax : Ax} {W : WX} {o : Orc} {P : Program} {wl : World} {base : Heap} {n : Nat} {N : List Str} {sc : Scope} {X : Cx} {a b c : Ex} {ea eb ec : Expr} {pos : Pos} {f : Str} {m : Mp} {h : VH} {H : Hp} {kp : Kp}
/-- a call by a def's form at A' -/
theorem run_atK {A' : Around} {call : Str → Kp → List Vv → VH → Option (Re Vv)} {j : Nat} (hP : X.prog = P) (hw : X.w = wl) (hK : X.K = w.K) (hm : X.mg = w.mg) (hB : X.base = base) (O : OrcK w P wl base j call) {pins : List (Addr × Obj)} {s : Shared} {σ : L2.St} {vs zs : List V} {us ws : List Value} {Q : VK} {E : XK} {vvs wvs : List Vv} {r : Re Vv} {R' : Result → Shared → Prop}
    (hr : RoomU j A') (hd : A'.handled = none) (e0 : Env0 X.prog X.w X.K X.mg X.base A' X.stack s H) (hk : X.K.In s.heap) (ru : Vals vs us) (rz : Vals zs ws) (rl : RL w.D m vvs vs) (rlz : RL w.D m wvs zs) (l1 : vvs.length = kp.n) (l2 : wvs.length = kp.ks.length) (sm : SimW w none m h H) (e : call f kp (vvs ++ wvs) h = some r) (p : PRr w none (R w.D) E m Q r)
    (hR : ∀ r s', CR (L2.CX X.prog X.w) X.stack X.prog X.w H s Q E r s' → R' r s') : codeAny (model X.prog X.w) A' (.call (.ref (w.D.fa f)) ⟨us, kp.ks.zip ws⟩) R' s := by
  obtain ⟨fd, ps, g, F, _, ⟨mv, mV, kb, rm, hl⟩, e1⟩ := O.fn f kp _ h r e
  have b1 := kb.to s us ws (by rw [← hK]; exact hk) (by rw [← ru.length, ← rl.length, l1]) (by rw [← rz.length, ← rlz.length, l2])
  subst hP hw hB
  rw [hK, hm] at e0
  exact codeAny_mono (F.run A' X.stack s H ⟨us, kp.ks.zip ws⟩ _ _ Q E hr hd e0 b1 (kb.rel ru rz) (by rw [arr_len]; exact hl) ⟨m, h, _, r, arr_P (F := R w.D m) (z := .non) (z' := .non) rfl (Paired.app rl rlz) (rm m) kp.arr, sm, e1, p⟩) fun r s' hq => hR r s' hq
theorem run_VK {call : Str → Kp → List Vv → VH → Option (Re Vv)} (g : Good w ax P wl base n N sc true X) (O : OrcK w P wl base n call) (tk : Takes X W) {pins : List (Addr × Obj)} {s : Shared} {σ : L2.St} {vs zs : List V} {us ws : List Value} {Q : VK} {vvs wvs : List Vv} {r : Re Vv}
    (I : Inv X pins σ H s) (ru : Vals vs us) (rz : Vals zs ws) (rl : RL w.D m vvs vs) (rlz : RL w.D m wvs zs) (l1 : vvs.length = kp.n) (l2 : wvs.length = kp.ks.length) (sm : SimW w none m h H) (e : call f kp (vvs ++ wvs) h = some r) (p : PRr w none (R w.D) (ExW W σ) m Q r) : wpAny (model X.prog X.w) X.A (PySem.call (.ref (w.D.fa f)) us (kp.ks.zip ws)) (EP X pins σ Q) X.xe s := by
  refine wpAny_call (run_atK (pins := pins) (σ := σ) g.hP g.hw g.hK g.hm g.hB O g.hr (g.hd rfl) I.env0 I.kIn ru rz rl rlz l1 l2 sm e p fun r s' hq => ?_)
  cases r with
  | error e => exact passAt tk σ pins H s e s' I hq
  | ok fl =>
    cases fl with
    | ret u => exact I.after hq
    | next => exact False.elim hq
    | brk => exact False.elim hq
    | cont => exact False.elim hq
structure PKt (X : Cx) (kws : List Keyword) (t : TA) : Prop extends PK X kws t
theorem k_nil : PK X [] (tEs w ax W o .nil) := by
  refine ⟨fun pos pins s σ H Q I ⟨m, s', h, r, hs, sm, e, p⟩ => pk_nil.run pos pins s σ H Q I ?_⟩
  cases e
  exact p m H [] (Le.refl m) sm .nil
theorem k_cons {as : Exs} {e : Expr} {kws : List Keyword} {nm : Option Str} {kpos : Pos} (ha : PE X e (tE w ax W o a)) (hr : PK X kws (tEs w ax W o as)) : PK X (⟨nm, e, kpos⟩ :: kws) (tEs w ax W o (.cons a as)) := by
  refine ⟨fun pos pins s σ H Q I ⟨m, s', h, r, hs, sm, e, p⟩ => (pk_cons ha hr).run pos pins s σ H Q I ?_⟩
  refine tE_of hs sm e p fun x h1 m1 H1 x' e1 l1 s1 rx hs1 p1 => ?_
  refine tEs_of hs1 s1 e1 p1 fun ys h2 m2 H2 ys' e2 l2 s2 ry hs2 p2 => ?_
  cases e2
  exact p2 m2 H2 _ (Le.refl _) s2 (.cons (rx.mono l2) ry)
/-- the names of a call's keywords -/
def kwNames : List Keyword → List Str → Bool
  | [], [] => true
  | ⟨some n, _, _⟩ :: r, k :: ks => decide (n = k) && kwNames r ks
  | _, _ => false
theorem kw_all {env : Env} {pos : Pos} : ∀ {kws : List Keyword} {ks : List Str}, kwNames kws ks = true → (backToKw pos (keywordEach kws env)).all (·.1.isSome) = true ∧ (backToKw pos (keywordEach kws env)).filterMap (·.1) = ks ∧ (backToKw pos (keywordEach kws env)).any (·.1.isNone) = false
  | [], [], _ => ⟨rfl, rfl, rfl⟩
  | ⟨some n, e, p⟩ :: r, k :: ks, h => by
    have h : (decide (n = k) && kwNames r ks) = true := h
    rw [Bool.and_eq_true] at h
    obtain rfl := of_decide_eq_true h.1
    obtain ⟨h1, h2, h3⟩ := kw_all (env := env) (pos := pos) h.2
    refine ⟨?_, ?_, ?_⟩
    · show (true && (backToKw pos (keywordEach r env)).all (·.1.isSome)) = true
      rw [h1]; rfl
    · show n :: (backToKw pos (keywordEach r env)).filterMap (·.1) = n :: ks
      rw [h2]
    · show (false || (backToKw pos (keywordEach r env)).any (·.1.isNone)) = false
      rw [h3]; rfl
  | ⟨some n, e, p⟩ :: r, [], h => by cases h
  | ⟨none, e, p⟩ :: r, ks, h => by cases ks <;> cases h
  | [], k :: ks, h => by cases h
/-- f(e, .., k = v, ..) -/
theorem e_callk {as ks : Exs} {e : Expr} {es : List Expr} {kws : List Keyword} {p : Pos} (g : Good w ax P wl base n N sc true X) (O : OrcK w P wl base n o.callk) (tk : Takes X W) (hg : Gl X f) (hm : w.mg f = some (.ref (w.D.fa f))) (hk : PySem.W.keepIn w.K (.ref (w.D.fa f)) = true) (hdb : (f == ("__debug__" : Str)) = false)
    (hn : (e :: es).all notStar = true) (hkn : kwNames kws kp.ks = true) (ha : PA X (e :: es) (tEs w ax W o as)) (hkw : PK X kws (tEs w ax W o ks)) : PE X (.Call (.Name f p) (e :: es) kws pos) (tE w ax W o (.callk f kp as ks)) := by
  have ea := g.nx rfl
  subst ea
  refine ⟨fun pins s σ H Q I ⟨m, s', h, r, hs, sm, ev, q⟩ => ?_⟩
  rw [List.all_cons, Bool.and_eq_true] at hn
  obtain ⟨k1, k2, k3⟩ := kw_all (env := X.env) (pos := pos) hkn
  refine wpAny_Call_Name_kw (ld_glob I hg (by rw [g.hm]; exact hm) ?_ hdb)
  refine PySem.W.callWith_KW (h₀ := X.base) I.ok.mod.kin (by rw [g.hK]; exact hk) k1 (thn (ha.run pos pins s σ H (fun vs H1 => ∃ m h vvs r, RL w.D m vvs vs ∧ SlR w.D m s' σ ∧ SimW w none m h H1 ∧ (Rb (evEs w.G o ks s' h) fun ws h2 => if vvs.length = kp.n ∧ ws.length = kp.ks.length then o.callk f kp (vvs ++ ws) h2 else none) = some r ∧ PRr w none (R w.D) (ExW W σ) m Q r) I ?_) fun us s1 ⟨vs, H1, I1, ru, q⟩ => ?_) (by rw [k3, Bool.or_false]; exact star_plain (by rw [List.all_cons, hn.1, hn.2]; rfl)) (star_cons hn.1)
  · exact tEs_of hs sm ev q fun xs h1 m1 H1 ys e1 l1 s1 rx hs1 p1 => ⟨m1, h1, xs, r, rx, hs1, s1, e1, p1⟩
  · obtain ⟨m, h, vvs, r', rl, hs, sm, e, p⟩ := q
    refine thn (hkw.run pos pins s1 σ H1 (fun zs H2 => ∃ m h wvs, RL w.D m vvs vs ∧ RL w.D m wvs zs ∧ SimW w none m h H2 ∧ (if vvs.length = kp.n ∧ wvs.length = kp.ks.length then o.callk f kp (vvs ++ wvs) h else none) = some r' ∧ PRr w none (R w.D) (ExW W σ) m Q r') I1 ?_) fun ws s2 ⟨zs, H2, I2, rz, q2⟩ => ⟨I2.kIn, ?_⟩
    · exact tEs_of hs sm e p fun xs h1 m1 H1 ys e1 l1 s1 rx hs1 p1 => ⟨m1, h1, xs, rl.mono l1, rx, s1, e1, p1⟩
    · obtain ⟨m, h, wvs, rl, rlz, sm, e, p⟩ := q2
      split at e
      · rename_i hl
        rw [k2]
        exact run_VK g O tk I2 ru rz rl rlz hl.1 hl.2 sm e p
      · cases e
/-- C(e, .., k = v, ..) -/
theorem run_mkk {pins : List (Addr × Obj)} {s : Shared} {σ : L2.St} {vs zs : List V} {us ws : List Value} {Q : VK} {vvs wvs : List Vv} {r : Re Vv} {cn k : Str} {j : Nat} (g : Good w ax P wl base (j + 1) N sc true X) (O : OrcK w P wl base j o.callk2) (tk : Takes X W) (M : Mk w.K (w.D.ca cn) (w.D.fa k))
    (I : Inv X pins σ H s) (ru : Vals vs us) (rz : Vals zs ws) (rl : RL w.D m vvs vs) (rlz : RL w.D m wvs zs) (l1 : vvs.length + 1 = kp.n) (l2 : wvs.length = kp.ks.length) (sm : SimW w none m h H)
    (e : (Rb (o.callk2 k kp (.ref h.length :: (vvs ++ wvs)) (h ++ [.ins cn []])) fun r h2 => match r with | .non => some (.ok (.ref h.length) h2) | _ => none) = some r) (p : PRr w none (R w.D) (ExW W σ) m Q r) :
    wpAny (model X.prog X.w) X.A (PySem.call (.ref (w.D.ca cn)) us (kp.ks.zip ws)) (EP X pins σ Q) X.xe s := by
  have I2 := Inv.made (C := w.D.ca cn) I
  have f1 : H (s.heap.objs.size + 1) = none := I.hok.fresh (Nat.le_succ _)
  have f0 : H s.heap.objs.size = none := I.hok.fresh (Nat.le_refl _)
  have nd : s.heap.objs.size ≠ s.heap.objs.size + 1 := Nat.ne_of_lt (Nat.lt_succ_self _)
  have sm1 : SimW w none m h (upd H s.heap.objs.size (.own (s.heap.objs.size + 1))) := sm.fresh f0
  have f2 : upd H s.heap.objs.size (.own (s.heap.objs.size + 1)) (s.heap.objs.size + 1) = none := by rw [upd_ne nd.symm]; exact f1
  have sm2 := sm1.new (o := .ins cn []) (u := .ins (w.D.ca cn) s.heap.objs.size []) f2 ⟨_, [], upd_same, .nil⟩
  have le1 := sm1.le (s.heap.objs.size + 1)
  have rl2 : RL w.D (ext m h.length (s.heap.objs.size + 1)) (.ref h.length :: vvs) (.ref (s.heap.objs.size + 1) :: vs) := .cons ⟨_, ext_same, rfl⟩ (rl.mono le1)
  cases q : o.callk2 k kp (.ref h.length :: (vvs ++ wvs)) (h ++ [.ins cn []]) with
  | none => rw [q] at e; cases e
  | some r0 =>
    rw [q] at e
    refine wpAny_call (make_map (f := w.D.fa k) I.kIn (by rw [g.hK]; exact M.makes) (by rw [g.hK]; exact M.init) (by rw [g.hK]; exact beq_iff_eq.mp M.fn)
      (run_atK (pins := pins) (σ := σ) (Q := fun v H2 => v = .non ∧ Q (.ref (s.heap.objs.size + 1)) H2) (E := ExW W σ) g.hP g.hw g.hK g.hm g.hB O (g.hr.make _ us (kp.ks.zip ws)) (g.hd rfl) (I2.env0.make _ us (kp.ks.zip ws)) I2.kIn (vs := .ref (s.heap.objs.size + 1) :: vs) (vvs := .ref h.length :: vvs) (.cons rfl ru) rz rl2 (rlz.mono le1) l1 l2 sm2 q ?_ fun r s' hq => ?_))
    · cases r0 with
      | ok v h2 =>
        intro m' H' x l s' rx
        cases v with
        | non =>
          cases rx
          cases e
          exact ⟨rfl, p m' H' _ (le1.trans l) s' ⟨_, l _ _ ext_same, rfl⟩⟩
        | _ => cases e
      | ex x h2 => cases e; exact p.mono le1
    · cases r with
      | error e => exact passAt tk σ pins _ _ e s' I2 hq
      | ok fl =>
        cases fl with
        | ret u =>
          obtain ⟨v, H', I3, rv, ev, q3⟩ := I2.after hq
          subst ev
          exact ⟨rv, ⟨V.ref (s.heap.objs.size + 1), H', I3, rfl, q3⟩⟩
        | next => exact False.elim hq
        | brk => exact False.elim hq
        | cont => exact False.elim hq
theorem e_mkk {as ks : Exs} {e : Expr} {es : List Expr} {kws : List Keyword} {p : Pos} {cn : Str} {j : Nat} (C : w.ClsAll) (g : Good w ax P wl base (j + 1) N sc true X) (O : OrcK w P wl base j o.callk2) (tk : Takes X W) (hg : Gl X cn) (hm : w.mg cn = some (.ref (w.D.ca cn))) (hdb : (cn == ("__debug__" : Str)) = false)
    (hn : (e :: es).all notStar = true) (hkn : kwNames kws kp.ks = true) (hin : (methOf w.G cn "__init__").isSome = true) (ha : PA X (e :: es) (tEs w ax W o as)) (hkw : PK X kws (tEs w ax W o ks)) : PE X (.Call (.Name cn p) (e :: es) kws pos) (tE w ax W o (.mkk cn kp as ks)) := by
  have ea := g.nx rfl
  subst ea
  refine ⟨fun pins s σ H Q I ⟨m, s', h, r, hs, sm, ev, q⟩ => ?_⟩
  rw [List.all_cons, Bool.and_eq_true] at hn
  obtain ⟨k, hk⟩ := Option.isSome_iff_exists.mp hin
  obtain ⟨kc, q1, q2⟩ := Option.bind_eq_some_iff.mp hk
  have M := (C cn kc q1).ini k q2
  obtain ⟨k1, k2, k3⟩ := kw_all (env := X.env) (pos := pos) hkn
  refine wpAny_Call_Name_kw (ld_glob I hg (by rw [g.hm]; exact hm) ?_ hdb)
  refine PySem.W.callWith_KW (h₀ := X.base) I.ok.mod.kin (by rw [g.hK]; exact M.kp) k1 (thn (ha.run pos pins s σ H (fun vs H1 => ∃ m h vvs r, RL w.D m vvs vs ∧ SlR w.D m s' σ ∧ SimW w none m h H1 ∧ (Rb (evEs w.G o ks s' h) fun ws h2 => if vvs.length + 1 = kp.n ∧ ws.length = kp.ks.length then Rb (o.callk2 k kp (.ref h2.length :: (vvs ++ ws)) (h2 ++ [.ins cn []])) fun r h3 => match r with
      | .non => some (.ok (.ref h2.length) h3)
      | _ => none else none) = some r ∧ PRr w none (R w.D) (ExW W σ) m Q r) I ?_) fun us s1 ⟨vs, H1, I1, ru, q⟩ => ?_) (by rw [k3, Bool.or_false]; exact star_plain (by rw [List.all_cons, hn.1, hn.2]; rfl)) (star_cons hn.1)
  · refine tEs_of hs sm ev q fun xs h1 m1 H1 ys e1 l1 s1 rx hs1 p1 => ⟨m1, h1, xs, r, rx, hs1, s1, ?_, p1⟩
    rw [hk] at e1
    exact e1
  · obtain ⟨m, h, vvs, r', rl, hs, sm, e, p⟩ := q
    refine thn (hkw.run pos pins s1 σ H1 (fun zs H2 => ∃ m h wvs, RL w.D m vvs vs ∧ RL w.D m wvs zs ∧ SimW w none m h H2 ∧ (if vvs.length + 1 = kp.n ∧ wvs.length = kp.ks.length then Rb (o.callk2 k kp (.ref h.length :: (vvs ++ wvs)) (h ++ [.ins cn []])) fun r h3 => match r with
      | .non => some (.ok (.ref h.length) h3)
      | _ => none else none) = some r' ∧ PRr w none (R w.D) (ExW W σ) m Q r') I1 ?_) fun ws s2 ⟨zs, H2, I2, rz, q2⟩ => ⟨I2.kIn, ?_⟩
    · exact tEs_of hs sm e p fun xs h1 m1 H1 ys e1 l1 s1 rx hs1 p1 => ⟨m1, h1, xs, rl.mono l1, rx, s1, e1, p1⟩
    · obtain ⟨m, h, wvs, rl, rlz, sm, e, p⟩ := q2
      split at e
      · rename_i hl
        rw [k2]
        exact run_mkk g O tk M I2 ru rz rl rlz hl.1 hl.2 sm e p
      · cases e
end
end Dv

set_option linter.all false
set_option autoImplicit false
set_option maxRecDepth 100000
set_option maxHeartbeats 1000000
namespace DvE
open PySem PySem.Spec PyProof.Rows PySem.SeqAt
section
variable {prog : Program} {w : World} {A : Around} {E : Value → Shared → Prop} {s : Shared} {K : PySem.W.Frag} {x C f : Addr} {ox : Obj} {od : Option Obj} {b tb : Value}
theorem ifBound_objNe {M : Model} {args : List Value} {Q : Option Value → Shared → Prop} (X : K.In s.heap) (I : PySem.W.InstAt s.heap x ox C od) (hs : PySem.W.findIn K (.ref C) "__ne__" = some (some (.builtin "object.__ne__")))
    (h : wpAny M A (call (.builtin "object.__ne__") (.ref x :: args)) (fun v => Q (some v)) E s) : wpAny M A (callSpecialIfBound? (.ref x) "__ne__" args) Q E s := by
  simp only [callSpecialIfBound?, bindSpecialIfBound?]
  refine wpAny_holding (wpAny_bind (wpAny_bind (wpAny_bind (I.type.here ((PySem.W.looks_findIn X hs).here ?_)))))
  refine wpAny_bind (wpAny_askSetting (wpAny_ite ?_))
  have fin : wpAny M A (call (.builtin "object.__ne__") ([.ref x] ++ args) >>= fun v => pure (some v)) Q E s := wpAny_bind (wpAny_mono h (fun v s' h' => wpAny_pure h') fun _ _ h' => h')
  split
  · exact wpAny_bind (wpAny_of_eq (F.cmp_object.ne.bind _) (wpAny_pure (by exact fin)))
  · exact wpAny_tryCatch (wpAny_bind (wpAny_of_eq (F.cmp_object.ne.bind _) (wpAny_pure (by exact fin))))
theorem call_objNe {Q : Value → Shared → Prop} (hu : A.in1.units < cLine) (X : K.In s.heap) (I : PySem.W.InstAt s.heap x ox C od) (hm : PySem.W.mroIn K C (.type "object") = some true) (hs : PySem.W.findIn K (.ref C) "__eq__" = some (some (.ref f))) (hf : PySem.W.isFn K (.ref f) = true)
    (h : wpAny (model prog w) A.in1 (call (.ref f) [.ref x, b]) (fun v s' => ∃ k, v = .bool k ∧ Q (.bool (!k)) s') E s) :
    wpAny (model prog w) A (call (.builtin "object.__ne__") [.ref x, b]) Q E s := by
  refine wpAny_call (codeAny_call_builtin F.cmp_object.ne.plain F.cmpEntry_ne (PySem.W.check_slot F.cmpKind_ne F.cmpSplit_ne (I.type.andThen (PySem.W.looks_mroIn X hm)) (F.cmpArgs_ne _ _) ?_))
  unfold Builtin.«object.__ne__»
  refine wpAny_bind (m := slotArgs "__ne__" 1 _) (wpAny_pure ?_)
  refine wpAny_bind (wpAny_cRoomFor hu ?_)
  refine wpAny_bind (m := callSpecialIfBound? (.ref x) "__eq__" [b]) (PySem.W.ifBound_K X I hs hf (wpAny_mono h (fun v s' z => ?_) fun _ _ e => e))
  obtain ⟨k, rfl, q⟩ := z
  refine wpAny_bind (m := truthy (.bool k)) (wpAny_truthy_bool ?_)
  exact wpAny_pure q
theorem cmpNe_K {Q : Value → Shared → Prop} (hu : A.in1.units < cLine) (hu0 : A.units < cLine) (X : K.In s.heap) (I : PySem.W.InstAt s.heap x ox C od) (hb : PySem.W.Looks (model prog w) s.heap (typeOf b) tb) (hn : PySem.W.notFirst K C tb = true)
    (hne : PySem.W.findIn K (.ref C) "__ne__" = some (some (.builtin "object.__ne__"))) (hm : PySem.W.mroIn K C (.type "object") = some true) (hs : PySem.W.findIn K (.ref C) "__eq__" = some (some (.ref f))) (hf : PySem.W.isFn K (.ref f) = true)
    (h : wpAny (model prog w) A.in1 (call (.ref f) [.ref x, b]) (fun v s' => ∃ k, v = .bool k ∧ Q (.bool (!k)) s') E s) : wpAny (model prog w) A (richCompare .NotEq (.ref x) b) Q E s := by
  have one : wpAny (model prog w) A (tryCompare (.ref x) "__ne__" b) (fun r s' => ∃ v, r = some v ∧ Q v s') E s := by
    unfold tryCompare
    refine wpAny_bind (ifBound_objNe X I hne (call_objNe hu X I hm hs hf (wpAny_mono h (fun v s' hv => ?_) fun _ _ e => e)))
    obtain ⟨k, rfl, q⟩ := hv
    exact ⟨k, rfl, wpAny_pure ⟨_, rfl, q⟩⟩
  simp only [richCompare, cmpInfo_NotEq, oneThing_ref]
  refine wpAny_holding (wpAny_bind (wpAny_cRoomFor hu0 ?_))
  refine wpAny_bind (I.type.here (wpAny_bind (hb.here ?_)))
  split
  · rename_i q
    have e : PySem.W.subIn K tb (.ref C) = some false := by
      rcases Bool.or_eq_true_iff.mp hn with e | e
      · rw [beq_iff_eq.mp e] at q; simp at q
      · exact beq_iff_eq.mp e
    refine wpAny_bind ((PySem.W.looks_subIn X e).here ?_)
    simp only [Bool.false_eq_true, if_false]
    refine wpAny_bind (wpAny_mono one (fun r s' z => ?_) fun _ _ e => e)
    obtain ⟨v, rfl, hq⟩ := z
    exact wpAny_pure hq
  · refine wpAny_bind (wpAny_pure ?_)
    simp only [Bool.false_eq_true, if_false]
    refine wpAny_bind (wpAny_mono one (fun r s' z => ?_) fun _ _ e => e)
    obtain ⟨v, rfl, hq⟩ := z
    exact wpAny_pure hq
end
end DvE
namespace Dv
open PySem L2 PySem.Spec PyProof.Rows
theorem RoomU.units0 {n : Nat} {A : Around} (r : RoomU n A) : A.units < cLine := by have := r.un; omega
theorem blR_ne {neg : Bool} {r : Option (Re Vv)} {e : Xv} {h' : VH} : blR neg r = some (.ex e h') → False := by
  intro q; unfold blR at q; split at q <;> cases q
theorem cmpoF_ne {G : Tx} {o : Orc} {op : CmpOp} {x y : Vv} {h h' : VH} {e : Xv} : cmpoF G o op x y h = some (.ex e h') → False := by
  intro q
  unfold cmpoF at q
  split at q
  · split at q
    · split at q <;> first | exact blR_ne q | cases q
    · cases q
  · exact cmpop_ne q
theorem blR_bl {neg : Bool} {r : Option (Re Vv)} {v : Vv} {h' : VH} (q : blR neg r = some (.ok v h')) : ∃ k, v = .bl k := by
  unfold blR at q; split at q <;> cases q; exact ⟨_, rfl⟩
section
variable {w : Wd} {W : WX} {o : Orc} {P : Program} {wl : World} {base : Heap} {n : Nat} {N : List Str} {sc : Scope} {X : Cx} {a b c : Ex} {ea eb ec : Expr} {pos : Pos} {f : Str} {m : Mp} {h : VH} {H : Hp} {op : CmpOp} {ax : Ax}
theorem cmpoF_bl {x y v : Vv} {h h' : VH} (q : cmpoF w.G o op x y h = some (.ok v h')) : ∃ k, v = .bl k := by
  unfold cmpoF at q
  split at q
  · split at q
    · split at q <;> first | exact blR_bl q | cases q
    · cases q
  · exact cmpop_bl q
theorem sub_ty {K : PySem.W.Frag} {C : Addr} {n : String} (hn : n ∈ ["NoneType", "int", "bool", "str", "list", "tuple", "dict"]) : PySem.W.subIn K (.type n) (.ref C) = some false := by
  have go : ∀ {l : List Value}, fastBuiltinMro n = some l → l.all (fun v => match v with | .type _ => true | _ => false) = true → PySem.W.subIn K (.type n) (.ref C) = some false := fun {l} e hl => by
    show (fastBuiltinMro n).map (·.contains (.ref C)) = some false
    rw [e]
    simp only [Option.map_some, Option.some.injEq]
    rw [Bool.eq_false_iff]
    intro z
    have := List.all_eq_true.mp hl _ (List.contains_iff_mem.mp z)
    cases this
  simp only [List.mem_cons, List.mem_singleton, List.not_mem_nil, or_false] at hn
  rcases hn with rfl | rfl | rfl | rfl | rfl | rfl | rfl
  · exact go (l := [.type "NoneType", .type "object"]) (by decide +kernel) rfl
  · exact go (l := [.type "int", .type "object"]) (by decide +kernel) rfl
  · exact go (l := [.type "bool", .type "int", .type "object"]) (by decide +kernel) rfl
  · exact go (l := [.type "str", .type "object"]) (by decide +kernel) rfl
  · exact go (l := [.type "list", .type "object"]) (by decide +kernel) rfl
  · exact go (l := [.type "tuple", .type "object"]) (by decide +kernel) rfl
  · exact go (l := [.type "dict", .type "object"]) (by decide +kernel) rfl
theorem op_cmpo (F : Fac w) (C : w.ClsAll) (g : Good w none P wl base (n + 1) N sc true X) (O : OrcOk w P wl base (n + 1) o.call) (O2 : OrcOk w P wl base n o.call2) (op : CmpOp) : OpR X (PySem.compareOp op) (rB w none (cmpoF w.G o op)) := by
  intro pins s σ H x y v u Q I rx ry ⟨m, h, a, b, c, h', ra, rb, sm, e, post⟩
  unfold cmpoF at e
  split at e
  · rename_i cn fs ob
    cases a with
    | ref i =>
      obtain ⟨p, rfl, _, dx, gs, h1, h2⟩ := sm.ref ra ob
      obtain rfl : v = Value.ref p := rx
      split at e
      · rename_i hs
        rw [Bool.and_eq_true] at hs
        obtain ⟨hs, hci⟩ := hs
        have CI := F.isi.inst cn hci
        obtain ⟨mA, OA, _⟩ := ins_get I.hok h1
        obtain ⟨od, J, _⟩ := OA.look
        have kin : w.K.In s.heap := by rw [← g.hK]; exact I.kIn
        have side : ∃ tb, PySem.W.Looks (model X.prog X.w) s.heap (typeOf u) tb ∧ PySem.W.notFirst w.K (w.D.ca cn) tb = true := by
          unfold sideOk at hs
          split at hs
          · rename_i n q
            obtain ⟨k1, k2⟩ := tyv_ok F.con sm F.isi rb q
            obtain ⟨Pk, k3, k4, _⟩ := kit_of I ry (by rw [g.hK]; exact k1)
            refine ⟨_, k3.ty _ _ I.kIn k4, ?_⟩
            unfold PySem.W.notFirst
            rw [Bool.or_eq_true_iff]
            exact .inr (beq_iff_eq.mpr (sub_ty (List.contains_iff_mem.mp k2)))
          · rename_i d q
            obtain rfl := of_decide_eq_true hs
            obtain ⟨k1, k2⟩ := tyv_ok F.con sm F.isi rb q
            obtain ⟨Pk, k3, k4, _⟩ := kit_of I ry (by rw [g.hK]; exact k1)
            refine ⟨_, k3.ty _ _ I.kIn k4, ?_⟩
            unfold PySem.W.notFirst
            rw [Bool.or_eq_true_iff]
            exact .inl (beq_iff_eq.mpr rfl)
          · cases hs
        obtain ⟨tb, hb, hn⟩ := side
        split at e
        · rename_i k hk
          obtain ⟨kc, q1, q2⟩ := Option.bind_eq_some_iff.mp hk
          obtain ⟨hx, M⟩ := (C cn kc q1).me _ k q2
          obtain ⟨mm, hF⟩ := I.fr
          unfold blR at e
          split at e
          · rename_i bb h3 q3
            cases e
            show wpAny (model X.prog X.w) X.A (richCompare .Eq (.ref p) u) (EP X pins σ Q) X.xe s
            refine PySem.W.cmp_K (op := .Eq) (K := X.K) (f := w.D.fa k) g.hr.units0 hF I.ok.mod.kin J hb (by rw [g.hK]; exact hn) (by rw [g.hK]; exact M.at_) (by rw [g.hK]; exact M.fn) ?_
            refine wpAny_call (run_at (pins := pins) (σ := σ) (Q := Q) (E := fun _ _ _ => False) g.hP g.hw g.hK g.hm g.hB O g.hr (g.hd rfl) I.env0 I.kIn (vs := [.ref p, y]) (us := [.ref p, u]) (.cons rfl (.cons ry .nil)) (.cons ra (.cons rb .nil)) sm q3 post fun r s' hq => ?_)
            cases r with
            | error er =>
              obtain ⟨_, _, _, _, _, _, _, _, _, _, _, _, z⟩ := hq
              exact z.elim
            | ok fl =>
              cases fl with
              | ret u' =>
                obtain ⟨v', H', I3, rv, q4⟩ := I.after hq
                exact SlX.cmpback rv ⟨v', H', I3, rv, q4⟩
              | next => exact False.elim hq
              | brk => exact False.elim hq
              | cont => exact False.elim hq
          · cases e
        · rename_i k hk
          obtain ⟨kc, q1, q2⟩ := Option.bind_eq_some_iff.mp hk
          obtain ⟨hx, M⟩ := (C cn kc q1).me _ k q2
          have hne := (C cn kc q1).ne k q2
          unfold blR at e
          split at e
          · rename_i bb h3 q3
            cases e
            show wpAny (model X.prog X.w) X.A (richCompare .NotEq (.ref p) u) (EP X pins σ Q) X.xe s
            refine DvE.cmpNe_K (K := w.K) (f := w.D.fa k) g.hr.in1.units0 g.hr.units0 kin J hb hn hne CI.hm M.at_ M.fn ?_
            refine wpAny_call (run_at (pins := pins) (σ := σ) (Q := fun v H' => v = .bl bb ∧ Q (.bl (!bb)) H') (E := fun _ _ _ => False) g.hP g.hw g.hK g.hm g.hB O2 g.hr.in1 (g.hd rfl) I.env0.in1 I.kIn (vs := [.ref p, y]) (us := [.ref p, u]) (.cons rfl (.cons ry .nil)) (.cons ra (.cons rb .nil)) sm q3 (fun m' H' x' l s' rx' => ?_) fun r s' hq => ?_)
            · cases rx'
              exact ⟨rfl, post m' H' _ l s' rfl⟩
            cases r with
            | error er =>
              obtain ⟨_, _, _, _, _, _, _, _, _, _, _, _, z⟩ := hq
              exact z.elim
            | ok fl =>
              cases fl with
              | ret u' =>
                obtain ⟨v', H', I3, rv, ev, q4⟩ := I.after hq
                subst ev
                cases rv
                exact ⟨bb, rfl, V.bl (!bb), H', I3, rfl, q4⟩
              | next => exact False.elim hq
              | brk => exact False.elim hq
              | cont => exact False.elim hq
          · cases e
        · cases e
      · cases e
    | con k =>
      obtain ⟨xs, ys, e', _⟩ := F.con.only k _ ob
      cases e'
    | _ => cases ob
  · exact op_cmp (ax := none) g.hK F.con (by have := g.hr.units; omega) o op pins s σ H x y v u Q I rx ry ⟨m, h, a, b, c, h', ra, rb, sm, e, post⟩
theorem rd_cmpo {σ : L2.St} {H : Hp} {Q : VK} (q : tE w ax W o (.cmpo op a b) σ H Q) : tOp (rB w ax (cmpoF w.G o op)) (tE w ax W o a) (tE w ax W o b) σ H Q := by
  obtain ⟨m, s, h, r, hs, sm, e, p⟩ := q
  refine tE_of hs sm e p fun x h1 m1 H1 x' e1 l1 s1 rx hs1 p1 => ?_
  refine tE_of hs1 s1 e1 p1 fun y h2 m2 H2 y' e2 l2 s2 ry hs2 p2 => ?_
  cases r with
  | ok v h3 => exact ⟨m2, h2, x, y, v, h3, rx.mono l2, ry, s2, e2, p2⟩
  | ex x h3 => exact (cmpoF_ne e2).elim
theorem e_cmpo (F : Fac w) (C : w.ClsAll) (g : Good w ax P wl base (n + 1) N sc true X) (O : OrcOk w P wl base (n + 1) o.call) (O2 : OrcOk w P wl base n o.call2) (hm : noSet eb = true) (ha : PE X ea (tE w ax W o a)) (hb : PE X eb (tE w ax W o b)) : PE X (.Compare ea [op] [eb] pos) (tE w ax W o (.cmpo op a b)) := by
  have ea := g.nx rfl
  subst ea
  exact PE.to (pe_cmpR (op_cmpo F C g O O2 op) ha hb (no_marks hm)) fun _ _ _ q => rd_cmpo q
theorem ev_cmpo_bl : ∀ s h v h', evE w.G o (.cmpo op a b) s h = some (.ok v h') → ∃ k, v = .bl k := fun s h v h' e => by
  obtain ⟨x, h1, _, e⟩ := Rb_some e
  obtain ⟨y, h2, _, e⟩ := Rb_some e
  exact cmpoF_bl e
theorem t_cmpo (F : Fac w) (C : w.ClsAll) (g : Good w ax P wl base (n + 1) N sc true X) (O : OrcOk w P wl base (n + 1) o.call) (O2 : OrcOk w P wl base n o.call2) (hm : noSet eb = true) (ha : PE X ea (tE w ax W o a)) (hb : PE X eb (tE w ax W o b)) : PT X (.Compare ea [op] [eb] pos) (tT w ax W o (.val (.cmpo op a b))) := by
  have ea := g.nx rfl
  subst ea
  exact PT.to (pt_cmpR (op_cmpo F C g O O2 op) ha hb (no_marks hm)) fun _ _ _ q => rd_cmpo (rd_tst ev_cmpo_bl q)
end
end Dv

set_option linter.all false
set_option autoImplicit false
set_option maxRecDepth 100000
set_option maxHeartbeats 1000000
namespace Dv
open PySem L2 PySem.Spec PyProof.Rows LamX
theorem clo_nil {cells : List (Str × Addr)} : ∀ {names : List (Str × NameKind)}, (∀ y ∈ names, y.2 ≠ .free) → cloFrom cells names [] = []
  | [], _ => rfl
  | (y, k) :: r, q => by
    have hk := q _ List.mem_cons_self
    have ih := clo_nil (cells := cells) fun z hz => q z (List.mem_cons_of_mem _ hz)
    cases k <;> first | exact ih | exact absurd rfl hk
theorem lamO_ne {a : Addr} {l : Lm} {c : Addr} (ps : Array Value) : LamO a l c ≠ .tbl ps := fun z => by unfold LamO at z; cases z
section
variable {X : Cx} {pins : List (Addr × Obj)} {σ : L2.St} {H : Hp} {s : Shared}
theorem inv_lam {l : Lm} {c : Addr} {u : Obj} {tk : Nat} {pm ctv : Value} (J : Inv X pins σ H s) (hu : u = PySem.W.kla_obj "<lambda>" l.qual l.params l.body l.scope [] pm c ctv) :
    Inv X pins σ (upd H s.heap.objs.size (LamO s.heap.objs.size l c)) { s with heap := s.heap.push u, toks := tk } := by
  subst hu
  have e : (s.heap.push (PySem.W.kla_obj "<lambda>" l.qual l.params l.body l.scope [] pm c ctv)).get? s.heap.objs.size = some (PySem.W.kla_obj "<lambda>" l.qual l.params l.body l.scope [] pm c ctv) := Heap.get?_push_size _ rfl
  exact J.laid (a := s.heap.objs.size) (fun b v q => Heap.get?_push_of_some _ q) (Nat.le_refl _) ⟨⟨pm, ctv, e⟩, ⟨_, e⟩, fun g1 g2 ⟨p, t, z⟩ st => ⟨p, t, st _ z⟩⟩
/-- a lambda that captures nothing is made -/
theorem lamd_make {T : List (Addr × Str)} {c P : Addr} {l : Lm} {pos : Pos} {E : Value → Shared → Prop} {Q : Value → Shared → Prop} (J : Inv X pins σ H s) (TB : TabB X.base X.mg c P) (hc : X.env.code = .ref c) (hq : l.qual = X.env.qual ++ "<lambda>")
    (hm : (P, l.qual) ∈ T) (hone : ∀ p ∈ T, p.1 = P → p.2 = l.qual) (hT : Tabs T H) (hdef : defaultsOf l.params X.env = ([], [])) (hfree : ∀ y ∈ l.scope.names, y.2 ≠ .free)
    (fin : ∀ (f c' : Addr) (H1 : Hp) (s' : Shared), Inv X pins σ H1 s' → ExtN H H1 → Tabs T H1 → H f = none → H1 f = some (LamO f l c') → H1 c' = some (CodeO c' l.qual) → Q (.ref f) s') :
    wpAny (model X.prog X.w) X.A (eval (.Lambda l.params l.body l.scope pos) X.env) Q E s := by
  obtain ⟨ps, tP, tr, tell⟩ := hT _ hm
  have bP := TB.bm.keeps J.bk
  have oP : s.heap.get? P = some { cls := .none, data := .fields ps } := J.hok P _ tP
  have hclo : closureFor l.scope X.env = pure [] := by
    have z := closure_ok (scope := l.scope) (env := X.env) fun y hy e => absurd e (hfree y hy)
    rw [clo_nil hfree] at z
    exact z
  refine PySem.W.kla_eval hdef ?_
  rw [← hq]
  cases hit : codeAmong pos ps.toList with
  | none =>
    refine PySem.W.kla_makeFunction (mg := X.mg) (c := c) (P := P) (ps := ps) hclo J.ok.glob (J.mod.glob.keeps J.bk) hc (TB.code.keeps J.bk) oP tr hit TB.gP bP fun c' ctv h' tk hx hge hlt hrec htb => ?_
    obtain ⟨c2, oc, fv, t, e2, hoc, hd, hv⟩ := hrec
    cases e2
    have nC : H c' = none := J.hok.fresh hge
    have J1 := inv_table (q := l.qual) (t' := tk) (more := #[rawInt pos.line, rawInt pos.col, .ref c']) (h' := h') J tP (fun b o hb e => hx b o hb e) htb hge ⟨oc, fv, t, hoc, hd, hv⟩
    generalize hH : upd (upd H P (.tbl (ps ++ #[rawInt pos.line, rawInt pos.col, .ref c']))) c' (CodeO c' l.qual) = H1 at J1
    have at_c : H1 c' = some (CodeO c' l.qual) := by rw [← hH]; exact upd_same
    have at_P : H1 P = some (.tbl (ps ++ #[rawInt pos.line, rawInt pos.col, .ref c'])) := by rw [← hH, upd_ne (ne_of_none tP nC)]; exact upd_same
    have grow : ExtN H H1 := fun b o e n => by
      have n1 : b ≠ P := fun z => n ps (by rw [z, tP] at e; exact (Option.some.inj e).symm)
      rw [← hH, upd_ne (ne_of_none e nC), upd_ne n1]
      exact e
    have T1 : Tabs T H1 := fun p hp => by
      by_cases hb : p.1 = P
      · rw [hone p hp hb, hb]
        have eL : (ps ++ #[rawInt pos.line, rawInt pos.col, .ref c']).toList = ps.toList ++ [rawInt pos.line, rawInt pos.col, .ref c'] := by simp
        refine ⟨_, at_P, by rw [eL]; exact PySem.TriplesOk_snoc _ _ _ _ tr, fun p' cv hcv => ?_⟩
        rw [eL] at hcv
        rcases among_app _ tr hcv with z | z
        · obtain ⟨c0, k1, k2⟩ := tell p' cv z
          exact ⟨c0, k1, grow _ _ k2 codeO_ne⟩
        · exact ⟨c', z, at_c⟩
      · obtain ⟨ps2, a1, a2, a3⟩ := hT p hp
        refine ⟨ps2, by rw [← hH, upd_ne (ne_of_none a1 nC), upd_ne hb]; exact a1, a2, fun p' cv hcv => ?_⟩
        obtain ⟨c0, k1, k2⟩ := a3 p' cv hcv
        exact ⟨c0, k1, grow _ _ k2 codeO_ne⟩
    have nF : H1 h'.objs.size = none := J1.hok.fresh (Nat.le_refl _)
    have J2 := inv_lam (l := l) (c := c') (tk := tk) (pm := (X.mg "__name__").getD .none) (ctv := ctv) J1 rfl
    have keep : ∀ b o, H1 b = some o → upd H1 h'.objs.size (LamO h'.objs.size l c') b = some o := fun b o e => by rw [upd_ne (ne_of_none e nF)]; exact e
    exact fin h'.objs.size c' _ _ J2 (fun b o e n => keep b o (grow b o e n)) (T1.ext keep) (J.hok.fresh (Nat.le_trans hge (Nat.le_of_lt hlt))) upd_same (keep _ _ at_c)
  | some cv =>
    obtain ⟨c', rfl, hco⟩ := tell pos cv hit
    refine PySem.W.kla_makeFunctionHit (mg := X.mg) (c := c) (P := P) (ps := ps) hclo J.ok.glob (J.mod.glob.keeps J.bk) hc (TB.code.keeps J.bk) oP tr hit bP fun ctv h' tk hx hsz => ?_
    have J1 : Inv X pins σ H { s with heap := h', toks := tk } := J.kept hx
    have nF : H h'.objs.size = none := J1.hok.fresh (Nat.le_refl _)
    have J2 := inv_lam (l := l) (c := c') (tk := tk) (pm := (X.mg "__name__").getD .none) (ctv := ctv) J1 rfl
    have keep : ∀ b o, H b = some o → upd H h'.objs.size (LamO h'.objs.size l c') b = some o := fun b o e => by rw [upd_ne (ne_of_none e nF)]; exact e
    exact fin h'.objs.size c' _ _ J2 (fun b o e _ => keep b o e) (hT.ext keep) nF upd_same (keep _ _ hco)
end
section
variable {D : Ad} {K : PySem.W.Frag} {ax : Ax} {m : Mp} {h : VH} {H H1 : Hp} {a : Addr} {o : Ho}
theorem ObjR.extN (r : ObjR D K ax m H a o) (e : ExtN H H1) : ObjR D K ax m H1 a o := by
  cases o with
  | lst xs => obtain ⟨ys, h1, h2⟩ := r; exact ⟨ys, e _ _ h1 (fun _ z => by cases z), h2⟩
  | tup xs => obtain ⟨ys, h1, h2⟩ := r; exact ⟨ys, e _ _ h1 (fun _ z => by cases z), h2⟩
  | dct xs => obtain ⟨ys, h1, h2⟩ := r; exact ⟨ys, e _ _ h1 (fun _ z => by cases z), h2⟩
  | ins c fs => obtain ⟨dx, gs, h1, h2⟩ := r; exact ⟨dx, gs, e _ _ h1 (fun _ z => by cases z), h2⟩
  | rol xs =>
    obtain ⟨ys, h1, h2⟩ := r
    refine ⟨ys, h1, ?_⟩
    rcases h2 with ⟨x, h2⟩ | h2
    · exact .inl ⟨x, e _ _ h2 (fun _ z => by cases z)⟩
    · exact .inr h2
  | exn c fs => obtain ⟨k, dd, gs, h1, h2, h3⟩ := r; exact ⟨k, dd, gs, h1, e _ _ h2 (fun _ z => by cases z), h3⟩
  | lam k => obtain ⟨lm, c, h1, h2, h3⟩ := r; exact ⟨lm, c, e _ _ h1 lamO_ne, e _ _ h2 codeO_ne, h3⟩
  | dead => trivial
theorem Sim.extN (sm : Sim D K ax m h H) (e : ExtN H H1) (t : Tabs D.tb H1) : Sim D K ax m h H1 :=
  ⟨fun i o q => by obtain ⟨a, h1, h2⟩ := sm.at_ i o q; exact ⟨a, h1, h2.extN e⟩, sm.dom, sm.inj, sm.one, t⟩
/-- a new entry for an object that is not ours alone -/
theorem Sim.put {f : Addr} (sm : Sim D K ax m h H) (ho : ObjR D K ax (ext m h.length f) H f o) (ow : own o = false) (hx : ∀ c fs, o ≠ .exn c fs) : Sim D K ax (ext m h.length f) (h ++ [o]) H := by
  have last : ∀ {i : Nat} {u : Ho}, (h ++ [o])[i]? = some u → (i < h.length ∧ h[i]? = some u) ∨ (i = h.length ∧ u = o) := fun {i u} q => by
    by_cases hi : i < h.length
    · rw [List.getElem?_append_left hi] at q; exact .inl ⟨hi, q⟩
    · have hi2 : i = h.length := by
        have := (List.getElem?_eq_some_iff.mp q).1
        rw [List.length_append, List.length_singleton] at this
        omega
      subst hi2
      rw [List.getElem?_append_right (Nat.le_refl _), Nat.sub_self] at q
      cases q
      exact .inr ⟨rfl, rfl⟩
  have far : ∀ {i : Nat} {a : Addr}, i < h.length → ext m h.length f i = some a → m i = some a := fun {i a} hi q => by
    unfold ext at q; rw [if_neg (by omega)] at q; exact q
  refine ⟨fun i u q => ?_, fun i a q => ?_, fun i j u u' a q1 q2 w1 w2 e1 e2 => ?_, fun i c fs q => ?_, sm.tab⟩
  · rcases last q with ⟨hi, q⟩ | ⟨rfl, rfl⟩
    · obtain ⟨a, h1, h2⟩ := sm.at_ i u q
      exact ⟨a, sm.le f _ _ h1, h2.mono (sm.le f)⟩
    · exact ⟨f, ext_same, ho⟩
  · rw [List.length_append, List.length_singleton]
    unfold ext at q
    by_cases hi : i = h.length
    · omega
    · rw [if_neg hi] at q
      have := sm.dom i a q
      omega
  · rcases last q1 with ⟨hi, q1⟩ | ⟨rfl, rfl⟩
    · rcases last q2 with ⟨hj, q2⟩ | ⟨rfl, rfl⟩
      · exact sm.inj i j u u' a q1 q2 w1 w2 (far hi e1) (far hj e2)
      · rw [ow] at w2; cases w2
    · rw [ow] at w1; cases w1
  · rcases last q with ⟨hi, q⟩ | ⟨rfl, rfl⟩
    · exact sm.one i c fs q
    · exact absurd rfl (hx c fs)
end
section
variable {w : Wd} {ax : Ax} {W : WX} {o : Orc} {P : Program} {wl : World} {base : Heap} {n : Nat} {N : List Str} {sc : Scope} {cm : Bool} {X : Cx}
theorem e_lam {Nl : List Str} {e : Ex} {params : Arguments} {body : Expr} {scope : Scope} {pos : Pos} {c Pt : Addr} {q : Str} (g : Good w ax P wl base n N sc cm X) (hcur : w.cur = some (c, Pt, q)) (hl : w.D.lok ⟨1, Nl.length, e⟩ ⟨q ++ "<lambda>", params, body, scope⟩) (hdef : params.defaults = [] ∧ params.kw_defaults = []) (hfree : ∀ y ∈ scope.names, y.2 ≠ .free) :
    PE X (.Lambda params body scope pos) (tE w ax W o (.lam Nl e)) := by
  refine ⟨fun pins s σ H Q I ⟨m, s', h, r, hs, sm, ev, p⟩ => ?_⟩
  obtain ⟨k1, k2, k3, k4, k5⟩ := g.cu c Pt q hcur
  have ev : new (.lam ⟨1, Nl.length, e⟩) h = some r := ev
  cases ev
  refine lamd_make (l := ⟨q ++ "<lambda>", params, body, scope⟩) I k3 k1 (by rw [k2]) k4 k5 sm.tab ?_ hfree fun f c' H1 s1 I1 eN T1 f0 f1 c1 => ?_
  · show defaultsOf params X.env = ([], [])
    rw [defaultsOf_eq, hdef.1, hdef.2]
    rfl
  · have sm1 := sm.extN eN T1
    have sm2 := sm1.put (o := .lam ⟨1, Nl.length, e⟩) (f := f) ⟨_, c', f1, c1, hl⟩ rfl (fun _ _ z => by cases z)
    exact ⟨.ref f, H1, I1, rfl, p _ H1 (.ref f) (sm.le f) sm2 ⟨f, ext_same, rfl⟩⟩
end
end Dv

set_option linter.all false
set_option autoImplicit false
set_option maxRecDepth 100000
set_option maxHeartbeats 1000000
namespace Dv
open PySem L2 PySem.Spec PyProof.Rows
theorem RoomU.in2 {n : Nat} {A : Around} (r : RoomU (n + 1) A) : RoomU n A.in1.in1 := ⟨r.gu, by have := r.dp; show A.depth + n + 40 < _; omega, by have := r.un; show A.units + 1 + 1 + 16 * n + 400 < _; omega⟩
section
variable {w : Wd} {ax : Ax} {W : WX} {o : Orc} {P : Program} {wl : World} {base : Heap} {n : Nat} {N : List Str} {sc : Scope} {X : Cx} {a : Ex} {ea : Expr} {pos : Pos} {m : Mp} {h : VH} {H : Hp}
theorem callb_str_ne {x : Vv} {e : Xv} {h' : VH} : callb w.G .str [x] h = some (.ex e h') → False := callb_ne
theorem stoF_ne {x : Vv} {e : Xv} {h' : VH} : stoF w.G o x h = some (.ex e h') → False := by
  intro q
  unfold stoF at q
  split at q
  · split at q
    · split at q <;> cases q
    · cases q
  · exact callb_ne q
def stoL (G : Tx) (o : Orc) (vs : List Vv) (h : VH) : Option (Re Vv) := match vs with
  | [x] => stoF G o x h
  | _ => none
theorem call_sto (F : Fac w) (C : w.ClsAll) (g : Good w none P wl base (n + 1) N sc true X) (O2 : OrcOk w P wl base n o.call2) : CallR X (.type "str") (rCB w none (stoL w.G o)) := by
  intro pins s σ H xs us Q I ru ⟨m, h, vs, c, h', rl, sm, e, post⟩
  unfold stoL at e
  split at e
  · rename_i x
    obtain ⟨y, rfl, ry⟩ := rl1 rl
    unfold stoF at e
    split at e
    · rename_i cn fs ob
      cases x with
      | ref i =>
        obtain ⟨p, rfl, _, dx, gs, h1, h2⟩ := sm.ref ry ob
        cases ru with
        | cons r1 r2 =>
          cases r2
          cases r1
          split at e
          · rename_i k hk
            split at e
            · rename_i z h3 q3
              cases e
              obtain ⟨kc, q1, q2⟩ := Option.bind_eq_some_iff.mp hk
              obtain ⟨hx, M⟩ := (C cn kc q1).me _ k q2
              obtain ⟨mA, OA, _⟩ := ins_get I.hok h1
              obtain ⟨od, J, _⟩ := OA.look
              have kin : w.K.In s.heap := by rw [← g.hK]; exact I.kIn
              refine PySem.W.kso_call (K := w.K) (f := w.D.fa k) g.hr.in2.units0 kin J M.at_ M.fn ?_
              refine wpAny_call (run_at (pins := pins) (σ := σ) (Q := fun v H' => v = .str z ∧ Q (.str z) H') (E := fun _ _ _ => False) g.hP g.hw g.hK g.hm g.hB O2 g.hr.in2 (g.hd rfl) I.env0.in1.in1 I.kIn (vs := [.ref p]) (us := [.ref p]) (.cons rfl .nil) (.cons ry .nil) sm q3 (fun m' H' x' l s' rx' => ?_) fun r s' hq => ?_)
              · cases rx'
                exact ⟨rfl, post m' H' _ l s' rfl⟩
              cases r with
              | error er =>
                obtain ⟨_, _, _, _, _, _, _, _, _, _, _, _, y⟩ := hq
                exact y.elim
              | ok fl =>
                cases fl with
                | ret u' =>
                  obtain ⟨v', H', I3, rv, ev, q4⟩ := I.after hq
                  subst ev
                  obtain ⟨tk, rfl⟩ := rv
                  exact ⟨.str z, H', I3, ⟨tk, rfl⟩, q4⟩
                | next => exact False.elim hq
                | brk => exact False.elim hq
                | cont => exact False.elim hq
            · cases e
          · cases e
      | con k =>
        obtain ⟨xs, ys, e', _⟩ := F.con.only k _ ob
        cases e'
      | _ => cases ob
    · exact call_bf (ax := none) g.hK F.con F.isi g.hr.gu (by have := g.hr.units; omega) .str (fun z => by cases z) pins s σ H _ us Q I ru ⟨m, h, [x], c, h', .cons ry .nil, sm, e, post⟩
  · cases e
theorem e_sto {p : Pos} (F : Fac w) (C : w.ClsAll) (g : Good w ax P wl base (n + 1) N sc true X) (O2 : OrcOk w P wl base n o.call2) (hg : Gl X "str") (hm : X.mg "str" = none) (hn : notStar ea = true) (ha : PE X ea (tE w ax W o a)) : PE X (.Call (.Name "str" p) [ea] [] pos) (tE w ax W o (.sto a)) := by
  have eax := g.nx rfl
  subst eax
  have pa : PA X [ea] (tEs w none W o (.cons a .nil)) := as_cons hn ha as_nil
  refine PE.to (pe_callTy (call_sto F C g O2) hg hm (by decide +kernel) pa (hn := by decide +kernel) (hdb := by decide +kernel) (he := star_cons hn) (hpl := rfl)) fun σ H Q ⟨m, s, h, r, hs, sm, e, p⟩ => ?_
  have e' : Rb (evE w.G o a s h) (fun x h1 => stoF w.G o x h1) = some r := e
  cases q : evE w.G o a s h with
  | none => rw [q] at e'; cases e'
  | some r0 =>
    rw [q] at e'
    cases r0 with
    | ok v h1 =>
      refine ⟨m, s, h, .ok [v] h1, hs, sm, by simp only [evEs, q, Rb_ok], fun m1 H1 ys l1 s1 rl => ?_⟩
      cases r with
      | ok u h2 => exact ⟨m1, h1, [v], u, h2, rl, s1, e', p.mono l1⟩
      | ex x h2 => exact (stoF_ne e').elim
    | ex x h1 =>
      cases e'
      exact ⟨m, s, h, .ex x h1, hs, sm, by simp only [evEs, q, Rb_ex], p⟩
end
end Dv

set_option linter.all false
set_option autoImplicit false
set_option maxRecDepth 100000
set_option maxHeartbeats 1000000
namespace Dv
open PySem L2 PySem.Spec PyProof.Rows
section
variable {w : Wd} {ax : Ax} {W : WX} {o : Orc} {P : Program} {wl : World} {base : Heap} {n : Nat} {N : List Str} {sc : Scope} {cm : Bool} {X : Cx} {a b c : Ex} {ea eb ec : Expr} {pos : Pos} {f : Str} {m : Mp} {h : VH} {H : Hp}
theorem fld_some {G : Tx} {c f : Str} (e : fldOf G c f = true) : ∃ k, G.cls c = some k ∧ k.exc = none ∧ k.flds.contains f = true := by
  unfold fldOf at e
  split at e
  · rename_i k hk
    rw [Bool.and_eq_true] at e
    exact ⟨k, hk, Option.isNone_iff_eq_none.mp e.1, e.2⟩
  · cases e
theorem fldX_some {G : Tx} {c f : Str} (e : fldX G c f = true) : ∃ k, G.cls c = some k ∧ k.exc ≠ none ∧ k.flds.contains f = true := by
  unfold fldX at e
  split at e
  · rename_i k hk
    rw [Bool.and_eq_true] at e
    exact ⟨k, hk, fun z => (by rw [z] at e; cases e.1), e.2⟩
  · cases e
theorem prop_some {G : Tx} {c f k : Str} (e : propOf G c f = some k) : ∃ kc, G.cls c = some kc ∧ kc.exc = none ∧ kc.props.lookup f = some k := by
  obtain ⟨kc, k1, k2⟩ := Option.bind_eq_some_iff.mp e
  split at k2
  · rename_i h
    exact ⟨kc, k1, Option.isNone_iff_eq_none.mp h, k2⟩
  · cases k2
theorem run_prop {pins : List (Addr × Obj)} {s : Shared} {σ : L2.St} {Q : VK} {v r : Vv} {h1 : VH} {E' : Value → Shared → Prop} {bb : Bool} {C pa a : Addr} {k : Str} {j : Nat} {dx : Addr} {gs : List (Str × V)} (g : Good w ax P wl base (j + 1) N sc cm X) (hd : X.A.handled = none) (O : OrcOk w P wl base j o.call2) (cl : Cls w.K C) (hp : PropOf w.K C f pa (w.D.fa k))
    (I : Inv X pins σ H s) (ea : H a = some (.ins C dx gs)) (rv : R w.D m v (.ref a)) (sm : SimW w none m h H) (e : o.call2 k [v] h = some (.ok r h1)) (p : PRr w none (R w.D) (fun _ _ _ => False) m Q (.ok r h1)) :
    wpAny (model X.prog X.w) X.A (getAttr (.ref a) f bb) (EP X pins σ Q) E' s := by
  obtain ⟨mA, O1, _, _, _, _⟩ := ins_get I.hok ea
  obtain ⟨od, J, _⟩ := O1.look
  obtain ⟨rest, hrec⟩ := hp.rec_
  have I1 := I.tok (s.toks + 1)
  have kin : w.K.In s.heap := by rw [← g.hK]; exact I.kIn
  have hc : (PySem.W.clsIn w.K C).isSome = true := by
    obtain ⟨cd, h1, _⟩ := PySem.W.any_some cl.hd
    rw [h1]; rfl
  refine PySem.W.get_bind kin J (PySem.W.plainGet_of (cl.get f)).1 (PySem.W.findObj_data hc hp.at_ hp.get hp.tak) (PySem.W.plainGet_of (cl.get f)).2 (wpAny_call (PySem.W.prop_get (s := { s with toks := s.toks + 1 }) kin hrec ?_))
  refine run_at (pins := pins) (σ := σ) (Q := Q) (E := fun _ _ _ => False) g.hP g.hw g.hK g.hm g.hB O g.hr.in1 hd I1.env0.in1 I1.kIn (vs := [.ref a]) (.cons rfl .nil) (.cons rv .nil) sm e p fun r s' hq => ?_
  cases r with
  | error er =>
    obtain ⟨_, _, _, _, _, _, _, _, _, _, _, _, z⟩ := hq
    exact z.elim
  | ok fl =>
    cases fl with
    | ret u =>
      obtain ⟨v, H', I3, rv, q3⟩ := I1.after hq
      show wpAny _ _ (handedOut u) _ _ _
      rw [PySem.W.handedOut_of (handed_of rv)]
      exact wpAny_pure ⟨v, H', I3, rv, q3⟩
    | next => exact False.elim hq
    | brk => exact False.elim hq
    | cont => exact False.elim hq
/-- e.f -/
theorem e_attr {j : Nat} (F : Fac w) (C : w.ClsAll) (g : Good w ax P wl base (j + 1) N sc cm X) (O : OrcOk w P wl base j o.call2) (hsu : noSuper ea = true) (hpr : cm = false → ∀ c, propOf w.G c f = none) (ho : PE X ea (tE w ax W o a)) : PE X (.Attribute ea f pos) (tE w ax W o (.attr a f)) := by
  refine ⟨fun pins s σ H Q I ⟨m, s', h, r, hs, sm, ev, q⟩ => ?_⟩
  refine attr_of (attr_base hsu) (thn (ho.run pins s σ H (fun x H1 => ∃ m h v, R w.D m v x ∧ SimW w ax m h H1 ∧ getattr w.G o v f h = some r ∧ PRr w ax (R w.D) (ExW W σ) m Q r) I ?_) fun u s1 ⟨x, H1, I1, rx, m, h, v, rv, sm, ev, q⟩ => ?_)
  · exact tE_of hs sm ev q fun x h1 m1 H1 x' e1 l1 s1 rx hs1 p1 => ⟨m1, h1, x, rx, s1, e1, p1⟩
  · unfold getattr at ev
    split at ev
    · rename_i cn fs ob
      cases v with
      | ref i =>
        obtain ⟨p, rfl, _, dx, gs, h1, h2⟩ := sm.ref rv ob
        obtain rfl : u = Value.ref p := rx
        split at ev
        · rename_i hf
          obtain ⟨vv, k1, k2⟩ := Option.bind_eq_some_iff.mp ev
          cases k2
          obtain ⟨kc, hk, hx, hf⟩ := fld_some hf
          have CC := C cn kc hk
          obtain ⟨z, k3, k4⟩ := RF.lookup h2 k1
          exact getattr_ok I1 h1 (by rw [g.hK]; exact CC.cl hx) (by rw [g.hK]; exact CC.fl f hf) k3 fun u' s2 I2 ru => ⟨z, H1, I2, ru, q m H1 z (Le.refl _) sm k4⟩
        · split at ev
          · rename_i k hk
            split at ev
            · rename_i r1 h3 q1
              cases ev
              cases cm with
              | false => rw [hpr rfl cn] at hk; cases hk
              | true =>
                have eax := g.nx rfl
                subst eax
                obtain ⟨kc, k1, hx, k2⟩ := prop_some hk
                have CC := C cn kc k1
                obtain ⟨pa, hp⟩ := CC.pr f k k2
                exact run_prop g (g.hd rfl) O (CC.cl hx) hp I1 h1 rv sm q1 q
            · cases ev
          · cases ev
      | con k =>
        obtain ⟨xs, ys, e, _⟩ := F.con.only k _ ob
        cases e
      | _ => cases ob
    · rename_i cn fs ob
      cases v with
      | ref i =>
        obtain ⟨p, rfl, _, kk, dd, gs, h0, h1, h2⟩ := sm.ref rv ob
        obtain rfl : u = Value.ref p := rx
        split at ev
        · rename_i hf
          obtain ⟨vv, k1, k2⟩ := Option.bind_eq_some_iff.mp ev
          cases k2
          · obtain ⟨kc, hk, hx0, hf⟩ := fldX_some hf
            have CC := C cn kc hk
            obtain ⟨z, k3, k4⟩ := RF.lookup h2 k1
            obtain ⟨oe, hpn, hz, vs, hd⟩ := g.pin kk p _ _ h0
            obtain ⟨ha, _⟩ := I1.pin (p, oe) (List.mem_append_left _ hpn)
            have hx : ObjOk X.prog X.w H1 s1.heap dd (.xd gs) := I1.hok dd _ h1
            obtain ⟨mA, hns, hr⟩ := hx
            obtain ⟨od, ho', hl⟩ := lookIn_ns hns
            obtain ⟨u, hu, ru⟩ := RelO.some_of (v := z) (o := mA f) (by rw [← k3]; exact hr f)
            have J : PySem.W.InstAt s1.heap p oe (w.D.ca cn) (some od) := ⟨ha, hz.1, by unfold PySem.W.notCls; rw [hd] <;> rfl, by rw [hz.2]; exact ho'⟩
            have T := CC.xf hx0
            have kin : w.K.In s1.heap := by rw [← g.hK]; exact I1.kIn
            exact HandSPX.exc_get kin J T.ga T.gg T.exC (PySem.W.findObj_own T.hdC (CC.fl f hf) rfl (by rw [hl, hu])) (handed_of ru) ⟨z, H1, I1.tok _, ru, q m H1 z (Le.refl _) sm k4⟩
        · cases ev
      | con k =>
        obtain ⟨xs, ys, e, _⟩ := F.con.only k _ ob
        cases e
      | _ => cases ob
    · cases ev
end
end Dv

set_option linter.all false
set_option autoImplicit false
set_option maxRecDepth 100000
set_option maxHeartbeats 1000000
namespace Dv
open PySem L2 PySem.Spec PyProof.Rows
def Mf.name : Mf → Str
  | .append => "append" | .split => "split" | .join => "join" | .pop => "pop" | .extend => "extend" | .get => "get" | .items => "items" | .keys => "keys" | .values => "values" | .setdefault => "setdefault" | .index => "index" | .find => "find" | .startswith => "startswith" | .endswith => "endswith"
def rMt (w : Wd) (ax : Ax) (f : Vv → List Vv → VH → Option (Re Vv)) : V → List V → Hp → VK → Prop := fun x xs H Q => ∃ m h v vs c h', R w.D m v x ∧ RL w.D m vs xs ∧ SimW w ax m h H ∧ f v vs h = some (.ok c h') ∧ PV w ax m Q c h'
section
variable {w : Wd} {ax : Ax} {W : WX} {o : Orc} {P : Program} {wl : World} {base : Heap} {n : Nat} {N : List Str} {sc : Scope} {cm : Bool} {X : Cx} {a b c : Ex} {ea eb ec : Expr} {pos : Pos} {f : Str} {m : Mp} {h : VH} {H : Hp}
theorem bmeth_ne {G : Tx} {x : Vv} {k : Mf} {vs : List Vv} {e : Xv} {h' : VH} : bmeth G x k vs h = some (.ex e h') → False := by
  unfold bmeth ok1 new
  intro q
  split at q
  · split at q
    · split at q <;> cases q
    · cases q
  · split at q <;> cases q
  · obtain ⟨b, _, q⟩ := Option.bind_eq_some_iff.mp q
    obtain ⟨b, _, q⟩ := Option.bind_eq_some_iff.mp q
    split at q <;> cases q
  · split at q
    · obtain ⟨b, _, q⟩ := Option.bind_eq_some_iff.mp q
      cases q
    · cases q
  · split at q
    · obtain ⟨b, _, q⟩ := Option.bind_eq_some_iff.mp q
      obtain ⟨b, _, q⟩ := Option.bind_eq_some_iff.mp q
      cases q
    · cases q
  · cases q
theorem Paired.upds {α β : Type} {F : α → β → Prop} {xs : List α} {ys : List β} {x : α} {y : β} (p : Paired F xs ys) (q : F x y) : Paired F (xs ++ [x]) (ys ++ [y]) := Paired.app p (.cons q .nil)
theorem mt_app (hK : X.K = w.K) (F : Fac w) : MtR X "list.append" (rMt w ax fun x vs h => bmeth w.G x .append vs h) := by
  intro pins s σ H x xs v us Q I rx rs ⟨m, h, vv, vs, c, h', rv, rl, sm, e, post⟩
  have e : bmeth w.G vv .append vs h = some (.ok c h') := e
  unfold bmeth at e
  split at e
  · rename_i i u q1
    split at e
    · rename_i ys q2
      split at e
      · rename_i hz
        cases e
        obtain ⟨p, rfl, hm, zs, h1, h2⟩ := sm.ref rv q2
        obtain ⟨y, rfl, ry⟩ := rl1 rl
        refine mt_append pins s σ H _ _ v us Q I rx rs ⟨p, zs, y, rfl, rfl, h1, by rw [← h2.length, ← sz_eq]; exact hz, ?_⟩
        refine post m _ _ (Le.refl m) (sm.set q2 rfl rfl hm ⟨_, upd_same, Paired.upds h2 ry⟩) rfl
      · cases e
    · cases e
  all_goals first | contradiction | cases e
theorem mt_spl (hK : X.K = w.K) (F : Fac w) : MtR X "str.split" (rMt w ax fun x vs h => bmeth w.G x .split vs h) := by
  intro pins s σ H x xs v us Q I rx rs ⟨m, h, vv, vs, c, h', rv, rl, sm, e, post⟩
  have e : bmeth w.G vv .split vs h = some (.ok c h') := e
  unfold bmeth at e
  split at e
  · contradiction
  · rename_i a b _ _
    split at e
    · rename_i hz
      cases e
      obtain ⟨y, rfl, ry⟩ := rl1 rl
      cases rv
      cases ry
      refine mt_split pins s σ H _ _ v us Q I rx rs ⟨a, b, rfl, rfl, hz.1, by rw [← sz_eq]; exact hz.2, fun p hp => post.new sm hp ⟨_, upd_same, ?_⟩⟩
      exact (Paired.mapL (F := fun (x y : Str) => x = y) (xs := Txt.split a b) (ys := Txt.split a b) (by induction Txt.split a b with | nil => exact .nil | cons x r ih => exact .cons rfl ih) fun x y z => by cases z; rfl)
    · cases e
  all_goals first | contradiction | cases e
theorem mt_joi (hK : X.K = w.K) (F : Fac w) : MtR X "str.join" (rMt w ax fun x vs h => bmeth w.G x .join vs h) := by
  intro pins s σ H x xs v us Q I rx rs ⟨m, h, vv, vs, c, h', rv, rl, sm, e, post⟩
  have e : bmeth w.G vv .join vs h = some (.ok c h') := e
  unfold bmeth at e
  split at e
  · contradiction
  · contradiction
  · rename_i a y _ _
    obtain ⟨xs1, e1, e⟩ := Option.bind_eq_some_iff.mp e
    obtain ⟨ys, e2, e⟩ := Option.bind_eq_some_iff.mp e
    split at e
    · rename_i hz
      cases e
      obtain ⟨y', rfl, ry⟩ := rl1 rl
      cases rv
      obtain ⟨p, zs, rfl, h1, h2⟩ := seq_ok F.con sm ry e1
      have e3 := txts_ok h2 e2
      subst e3
      exact mt_join pins s σ H _ _ v us Q I rx rs ⟨a, p, ys, rfl, rfl, by rw [hK]; exact h1, hz, post.here sm rfl⟩
    · cases e
  all_goals first | contradiction | cases e
theorem lessK_ok {D : Ad} {k : Key} : ∀ {xs : List (Key × Vv)} {ys : List (Key × V)}, RK D m xs ys → RK D m (lessK xs k) (dropK ys k)
  | _, _, .nil => .nil
  | _, _, .cons (a := p) (b := q) ⟨e, r⟩ t => by
    have ih := lessK_ok (k := k) t
    by_cases z : p.1 = k
    · have z2 : q.1 = k := e ▸ z
      simp only [lessK, dropK, List.filter_cons, z, z2, ne_eq, not_true_eq_false, decide_false, Bool.false_eq_true, if_false]
      exact ih
    · have z2 : ¬ q.1 = k := fun w => z (e.trans w)
      simp only [lessK, dropK, List.filter_cons, z, z2, ne_eq, not_false_eq_true, decide_true, if_true]
      exact .cons ⟨e, r⟩ ih
theorem mt_get (hu : X.A.units + 1 < cLine) (F : Fac w) : MtR X "dict.get" (rMt w ax fun x vs h => bmeth w.G x .get vs h) := by
  intro pins s σ H x xs v us Q I rx rs ⟨m, h, vv, vs, c, h', rv, rl, sm, e, post⟩
  have e : bmeth w.G vv .get vs h = some (.ok c h') := e
  unfold bmeth at e
  split at e
  any_goals first | contradiction | (cases e; done)
  rename_i i y _ _
  split at e
  · rename_i kvs q2
    obtain ⟨k, e1, e2⟩ := Option.bind_eq_some_iff.mp e
    cases e2
    obtain ⟨p, rfl, hm, zs, h1, h2⟩ := sm.ref rv q2
    obtain ⟨y', rfl, ry⟩ := rl1 rl
    have ey := keyOf_ok e1 ry
    subst ey
    obtain rfl : v = Value.ref p := rx
    obtain ⟨u, rfl, ru⟩ := vals1 rs
    refine d_get1 hu I (DGet.k h1) ru fun w' s3 I3 rw' => ⟨_, H, I3, rw', ?_⟩
    rcases valK_ok (k := k) h2 with ⟨a, b⟩ | ⟨v2, y2, a, b, r⟩
    · rw [b]; rw [a] at post; exact post.here sm rfl
    · rw [b]; rw [a] at post; exact post.here sm r
  · cases e
theorem mt_pop (F : Fac w) : MtR X "dict.pop" (rMt w ax fun x vs h => bmeth w.G x .pop vs h) := by
  intro pins s σ H x xs v us Q I rx rs ⟨m, h, vv, vs, c, h', rv, rl, sm, e, post⟩
  have e : bmeth w.G vv .pop vs h = some (.ok c h') := e
  unfold bmeth at e
  split at e
  any_goals first | contradiction | (cases e; done)
  rename_i i y _ _
  split at e
  · rename_i kvs q2
    obtain ⟨k, e1, e2⟩ := Option.bind_eq_some_iff.mp e
    obtain ⟨v1, e3, e4⟩ := Option.bind_eq_some_iff.mp e2
    cases e4
    obtain ⟨p, rfl, hm, zs, h1, h2⟩ := sm.ref rv q2
    obtain ⟨y', rfl, ry⟩ := rl1 rl
    have ey := keyOf_ok e1 ry
    subst ey
    obtain rfl : v = Value.ref p := rx
    obtain ⟨u, rfl, ru⟩ := vals1 rs
    rcases valK_ok (k := k) h2 with ⟨a, b⟩ | ⟨v2, y2, a, b, r⟩
    · rw [a] at e3; cases e3
    · rw [a] at e3; cases e3
      exact d_pop I h1 ru b (.inl rfl) fun w' s3 I3 rw' => ⟨_, _, I3, rw', post m _ _ (Le.refl m) (sm.set q2 rfl rfl hm ⟨_, upd_same, lessK_ok h2⟩) r⟩
  · cases e
/-- o.m(..), m of a built-in type -/
def Mf.here : Mf → Bool
  | .append => true
  | .split => true
  | .join => true
  | .get => true
  | .pop => true
  | _ => false
theorem e_bm {e : Expr} {es : List Expr} {apos : Pos} {k : Mf} {as : Exs} (hk : k.here = true) (F : Fac w) (hK : X.K = w.K) (hu : X.A.units + 100 < cLine) (hl : (apos.endLine == pos.line) = true) (hsu : noSuper ea = true) (hn : (e :: es).all notStar = true) (hlen : decide ((e :: es).length < 30) = true) (ho : PE X ea (tE w ax W o a)) (ha : PA X (e :: es) (tEs w ax W o as)) :
    PE X (.Call (.Attribute ea k.name apos) (e :: es) [] pos) (tE w ax W o (.bm a k as)) := by
  have hfew : ((backTo pos (starEach (e :: es) X.env)).all (fun x => !x.1) && (backToKw pos (keywordEach [] X.env)).all (fun x => x.1.isSome)
      && decide ((e :: es).length + ([] : List Keyword).length + (if ([] : List Keyword).isEmpty then 0 else 1) < 30)) = true := by
    rw [star_few hn]
    exact hlen
  have hs := star_cons (es := es) (env := X.env) (by rw [List.all_cons, Bool.and_eq_true] at hn; exact hn.1)
  have hp : (backTo pos (starEach es X.env)).any (·.1) = false := star_plain (by rw [List.all_cons, Bool.and_eq_true] at hn; exact hn.2)
  have key : ∀ {T id : String}, PlainAttrs T → Slot T k.name id → typeOf (.builtin id) = pure (.type "method_descriptor") → MtR X id (rMt w ax fun x vs h => bmeth w.G x k vs h) → (∀ x h m H y, brecv x k h = true → R w.D m x y → SimW w ax m h H → tyV X.K T y H) →
      PE X (.Call (.Attribute ea k.name apos) (e :: es) [] pos) (tE w ax W o (.bm a k as)) := fun {T id} pa sl ty mt hr => by
    refine PE.to (pe_bm pa sl ty mt ho ha (attr_base hsu) hfew hl hs hp) fun σ H Q ⟨m, s, h, r, hs, sm, ev, p⟩ => ?_
    refine tE_of hs sm ev p fun x h1 m1 H1 x' e1 l1 s1 rx hs1 p1 => ?_
    split at e1
    · rename_i hb
      refine ⟨hr _ _ _ _ _ hb rx s1, ?_⟩
      refine tEs_of hs1 s1 e1 p1 fun ys h2 m2 H2 ys' e2 l2 s2 ry hs2 p2 => ?_
      cases r with
      | ok v h3 => exact ⟨m2, h2, x, ys, v, h3, rx.mono l2, ry, s2, e2, p2⟩
      | ex x h3 => exact (bmeth_ne e2).elim
    · cases e1
  have str : ∀ (x : Vv) h m H y, (match x with | .str _ => true | _ => false) = true → R w.D m x y → SimW w ax m h H → tyV X.K "str" y H := fun x h m H y hb r _ => by
    cases x with
    | str z => cases r; rfl
    | _ => cases hb
  have dct : ∀ (x : Vv) (h : VH) m H y, (match x with | .ref i => (match h[i]? with | some (.dct _) => true | _ => false) | _ => false) = true → R w.D m x y → SimW w ax m h H → tyV X.K "dict" y H := fun x h m H y hb r sm => by
    cases x with
    | ref i =>
      dsimp only at hb
      split at hb
      · rename_i xs q
        obtain ⟨p, rfl, _, ys, h1, h2⟩ := sm.ref r q
        exact .inr (.inr (.inl ⟨rfl, .inl ⟨_, h1⟩⟩))
      · cases hb
    | _ => cases hb
  cases k with
  | get => exact key PySem.F.plainAttrs_dict PySem.F.slot_dict_get PySem.F.type_dict_get (mt_get (by omega) F) fun x h m H y hb r sm => dct x h m H y (by cases x <;> first | exact hb | cases hb) r sm
  | pop => exact key PySem.F.plainAttrs_dict PySem.F.slot_dict_pop PySem.F.type_dict_pop (mt_pop F) fun x h m H y hb r sm => dct x h m H y (by cases x <;> first | exact hb | cases hb) r sm
  | append =>
    refine key PySem.F.plainAttrs_list PySem.F.slot_list_append PySem.F.type_list_append (mt_app hK F) fun x h m H y hb r sm => ?_
    cases x with
    | ref i =>
      unfold brecv at hb
      dsimp only at hb
      split at hb
      · rename_i xs q
        obtain ⟨p, rfl, _, ys, h1, h2⟩ := sm.ref r q
        exact .inl ⟨rfl, ys, by exact SqL.of h1⟩
      · cases hb
    | _ => cases hb
  | split => exact key PySem.F.plainAttrs_str PySem.F.slot_str_split PySem.F.type_str_split (mt_spl hK F) fun x h m H y hb r sm => str x h m H y (by cases x <;> first | rfl | cases hb) r sm
  | join => exact key PySem.F.plainAttrs_str PySem.F.slot_str_join PySem.F.type_str_join (mt_joi hK F) fun x h m H y hb r sm => str x h m H y (by cases x <;> first | rfl | cases hb) r sm
  | _ => cases hk
def rSl (w : Wd) (ax : Ax) : V → Option Int → Option Int → Hp → VK → Prop := fun x lo hi H Q => ∃ m h v c h', R w.D m v x ∧ SimW w ax m h H ∧ slice v lo hi h = some (.ok c h') ∧ PV w ax m Q c h'
theorem slice_ne {x : Vv} {lo hi : Option Int} {e : Xv} {h' : VH} : slice x lo hi h = some (.ex e h') → False := by
  unfold slice ok1 new
  intro q
  repeat' split at q
  all_goals first | cases q | contradiction
theorem Paired.cut {α β : Type} {F : α → β → Prop} {xs : List α} {ys : List β} (p : Paired F xs ys) (lo hi : Option Int) : Paired F (cut xs lo hi) (cut ys lo hi) := by
  unfold Dv.cut
  rw [p.length]
  exact Paired.takeP _ (Paired.dropP _ p)
theorem sl_D (hK : X.K = w.K) : L2.SlR X (rSl w ax) := by
  intro pins s σ H x v vl vu lo hi sl Q I rx hs pl pu ⟨m, h, vv, c, h', rv, sm, e, post⟩
  unfold slice at e
  split at e
  · rename_i z
    split at e
    · rename_i hz
      cases e
      cases rv
      exact sl_str pins s σ H _ v vl vu lo hi sl Q I rx hs pl pu ⟨z, rfl, by rw [← sz_eq]; exact hz, post.here sm (by unfold R cut cutS; rw [Array.length_toList]; rfl)⟩
    · cases e
  · rename_i i
    split at e
    · rename_i xs q
      cases e
      obtain ⟨p, rfl, _, ys, h1, h2⟩ := sm.ref rv q
      exact sl_list pins s σ H _ v vl vu lo hi sl Q I rx hs pl pu ⟨p, ys, rfl, SqL.of h1, fun q hq => post.new sm hq ⟨_, upd_same, Paired.cut (h2.mono (sm.le q)) lo hi⟩⟩
    · rename_i xs q
      obtain ⟨p, rfl, hm, ys, h1, h2⟩ := sm.ref rv q
      refine sl_tupA pins s σ H _ v vl vu lo hi sl Q I rx hs pl pu ⟨p, ys, rfl, by rw [hK]; exact SqT.of h1, fun hz => ?_, fun hz q hq => ?_⟩
      · rw [← h2.length] at hz
        rw [if_pos hz] at e
        cases e
        exact post.here sm ⟨p, hm, rfl⟩
      · rw [← h2.length] at hz
        rw [if_neg hz] at e
        cases e
        exact post.new sm hq ⟨_, upd_same, Paired.cut (h2.mono (sm.le q)) lo hi⟩
    · cases e
  · cases e
/-- a bound as written -/
def partO : Option Expr → Ex → Bool
  | none, .noe => true
  | none, _ => false
  | some _, .noe => false
  | some _, _ => true
def tP (w : Wd) (ax : Ax) (W : WX) (o : Orc) (a : Ex) : TO := fun σ H Q => tE w ax W o a σ H fun x H1 => (a = .noe ∧ Q none H1) ∨ (a ≠ .noe ∧ ∃ i, x = .int i ∧ Q (some i) H1)
theorem part_none : PO X none (tP w ax W o .noe) := by
  refine ⟨fun pins s σ H Q I ⟨m, s', h, r, hs, sm, e, p⟩ => po_none.run pins s σ H Q I ?_⟩
  cases e
  rcases p m H _ (Le.refl m) sm rfl with ⟨_, q⟩ | ⟨q, _⟩
  · exact q
  · exact (q rfl).elim
theorem tE_imp {σ : L2.St} {Q Q' : VK} (t : tE w ax W o a σ H Q) (k : ∀ x H, Q x H → Q' x H) : tE w ax W o a σ H Q' := by
  obtain ⟨m, s, h, r, hs, sm, e, p⟩ := t
  refine ⟨m, s, h, r, hs, sm, e, ?_⟩
  cases r with
  | ok v h => exact fun m' H' x l s r => k _ _ (p m' H' x l s r)
  | ex x h => exact p
theorem part_some (ha : PE X ea (tE w ax W o a)) (hn : a ≠ .noe) : PO X (some ea) (tP w ax W o a) := by
  refine ⟨fun pins s σ H Q I t => (po_some ha).run pins s σ H Q I (tE_imp t fun x H q => ?_)⟩
  rcases q with ⟨z, _⟩ | ⟨_, q⟩
  · exact (hn z).elim
  · exact q
theorem bnd_ok {v : Vv} {x : V} {k : Option Int} (e : bnd a v = some k) (r : R w.D m v x) {Q : Option Int → Hp → Prop} (q : Q k H) : (a = .noe ∧ Q none H) ∨ (a ≠ .noe ∧ ∃ i, x = .int i ∧ Q (some i) H) := by
  unfold bnd at e
  split at e
  · cases e; exact .inl ⟨rfl, q⟩
  · rename_i i hn
    cases e
    cases r
    exact .inr ⟨hn, i, rfl, q⟩
  · cases e
theorem e_slc {lo hi : Option Expr} {p2 : Pos} {l u : Ex} (hK : X.K = w.K) (ha : PE X ea (tE w ax W o a)) (hl : PO X lo (tP w ax W o l)) (hu : PO X hi (tP w ax W o u)) : PE X (.Subscript ea (.Slice lo hi none p2) pos) (tE w ax W o (.slc a l u)) := by
  refine PE.to (pe_slice (sl_D (ax := ax) hK) ha hl hu) fun σ H Q ⟨m, s, h, r, hs, sm, ev, p⟩ => ?_
  refine tE_of hs sm ev p fun x h1 m1 H1 x' e1 l1 s1 rx hs1 p1 => ?_
  refine tE_of hs1 s1 e1 p1 fun y h2 m2 H2 y' e2 l2 s2 ry hs2 p2 => ?_
  split at e2
  · cases e2
  · rename_i i1 q1
    refine bnd_ok q1 ry (Q := fun i H => tP w ax W o u σ H fun i2 H3 => rSl w ax x' i i2 H3 Q) ?_
    refine tE_of hs2 s2 e2 p2 fun z h3 m3 H3 z' e3 l3 s3 rz hs3 p3 => ?_
    split at e3
    · cases e3
    · rename_i i2 q2
      refine bnd_ok q2 rz (Q := fun i H => rSl w ax x' i1 i H Q) ?_
      cases r with
      | ok v h4 => exact ⟨m3, h3, x, v, h4, (rx.mono l2).mono l3, s3, e3, p3⟩
      | ex x h4 => exact (slice_ne e3).elim
end
end Dv

set_option linter.all false
set_option autoImplicit false
set_option maxRecDepth 100000
set_option maxHeartbeats 1000000
namespace Dv
open PySem L2 PySem.Spec PyProof.Rows
def gT : List Nat → TGs
  | [] => gNil
  | i :: r => gCons (gName i) (gT r)
def gTg (K : PySem.W.Frag) (tg : List Nat) : TG := match tg with
  | [i] => gName i
  | _ => gTup K tg.length (gT tg)
/-- an item as it comes -/
def ItR (w : Wd) (m : Mp) (H : Hp) (n : Nat) (it : List Vv) (x : V) : Prop := if n = 1 then ∃ v, it = [v] ∧ R w.D m v x else ∃ a xs, x = .ref a ∧ SqT w.K H a xs ∧ RL w.D m it xs
/-- an iterator serves a source -/
structure JOk (w : Wd) (ax : Ax) (n : Nat) (S : Src) (J : L2.It) (m0 : Mp) : Prop where
  go : ∀ i m h H, Le m0 m → SimW w ax m h H → keeps w.G S h = true → i < S.items.length → J.go i H
  stop : ∀ i m h H, Le m0 m → SimW w ax m h H → keeps w.G S h = true → S.items.length ≤ i → J.stop i H
  yld : ∀ i m h H x H' it, Le m0 m → SimW w ax m h H → keeps w.G S h = true → S.items[i]? = some it → J.yld i H x H' → SimW w ax m h H' ∧ ItR w m H' n it x
def tI (w : Wd) (ax : Ax) (W : WX) (o : Orc) (n : Nat) (e : It) : TI := fun σ H Q => ∃ m s h r, SlR w.D m s σ ∧ SimW w ax m h H ∧ evI w.G o e n s h = some r ∧ PRr w ax (fun m S J => JOk w ax n S J m) (ExW W σ) m Q r
section
variable {w : Wd} {ax : Ax} {W : WX} {o : Orc} {P : Program} {wl : World} {base : Heap} {n : Nat} {N : List Str} {sc : Scope} {cm : Bool} {X : Cx} {a b c : Ex} {ea eb ec tg : Expr} {pos : Pos} {f : Str} {m : Mp} {h : VH} {H : Hp} {s : Sl} {σ : L2.St}
theorem gT_ok : ∀ {tg : List Nat} {it : List Vv} {xs : List V} {s s1 : Sl} {σ : L2.St} {vs : List Nat} {Q : L2.St → Hp → Prop}, SlR w.D m s σ → setT tg s it = some s1 → RL w.D m it xs → (∀ i ∈ tg, i ∈ vs) → (∀ σ1, SlR w.D m s1 σ1 → wipe σ1 vs = wipe σ vs → Q σ1 H) → gT tg xs σ H Q
  | [], it, xs, s, s1, σ, vs, Q, hs, e, rl, hv, k => by
    cases it with
    | nil => cases e; cases rl; exact ⟨rfl, k σ hs rfl⟩
    | cons v r => cases e
  | i :: tr, it, xs, s, s1, σ, vs, Q, hs, e, rl, hv, k => by
    cases it with
    | nil => cases e
    | cons v r =>
      cases rl with
      | cons rv rr =>
        refine ⟨_, _, rfl, gT_ok (vs := vs) (hs.set i rv) e rr (fun j hj => hv j (List.mem_cons_of_mem _ hj)) fun σ1 h1 h2 => k σ1 h1 (h2.trans ?_)⟩
        exact wipe_at (hv i List.mem_cons_self)
where
  wipe_at {σ : L2.St} {i : Nat} {x : Option V} : ∀ {vs : List Nat}, i ∈ vs → wipe (σ.set i x) vs = wipe σ vs
  | [], h => by cases h
  | v :: vs, h => by
    show (wipe (σ.set i x) vs).set v none = (wipe σ vs).set v none
    by_cases hv : i ∈ vs
    · rw [wipe_at hv]
    · have e : i = v := by
        rcases List.mem_cons.mp h with z | z
        · exact z
        · exact (hv z).elim
      subst e
      have c : ∀ {us : List Nat}, (wipe (σ.set i x) us).set i none = (wipe σ us).set i none := fun {us} => by
        induction us with
        | nil => exact List.set_set ..
        | cons u us ih =>
          show (((wipe (σ.set i x) us).set u none).set i none) = ((wipe σ us).set u none).set i none
          by_cases hu : u = i
          · subst hu
            rw [List.set_set, List.set_set, ih]
          · rw [List.set_comm _ _ hu, ih, List.set_comm _ _ (Ne.symm hu)]
      exact c
theorem tg_ok {tg : List Nat} {it : List Vv} {x : V} {s1 : Sl} {vs : List Nat} {Q : L2.St → Hp → Prop} (hs : SlR w.D m s σ) (e : setT tg s it = some s1) (r : ItR w m H tg.length it x) (hv : ∀ i ∈ tg, i ∈ vs) (k : ∀ σ1, SlR w.D m s1 σ1 → wipe σ1 vs = wipe σ vs → Q σ1 H) : gTg w.K tg x σ H Q := by
  have len : ∀ {tg : List Nat} {s : Sl} {it : List Vv} {s1 : Sl}, setT tg s it = some s1 → it.length = tg.length := fun {tg} => by
    induction tg with
    | nil => intro s it s1 e; cases it with
      | nil => rfl
      | cons _ _ => cases e
    | cons i r ih => intro s it s1 e; cases it with
      | nil => cases e
      | cons v t => exact congrArg (· + 1) (ih e)
  unfold gTg
  split
  · rename_i i
    unfold ItR at r
    rw [if_pos (show [i].length = 1 from rfl)] at r
    obtain ⟨v, rfl, rv⟩ := r
    have e' : some (s.set i (some v)) = some s1 := e
    cases e'
    exact k _ (hs.set i rv) (gT_ok.wipe_at (hv i List.mem_cons_self))
  · rename_i hn
    unfold ItR at r
    rw [if_neg (by intro z; match tg, z with | [i], _ => exact hn i rfl)] at r
    obtain ⟨p, xs, rfl, h1, rl⟩ := r
    exact ⟨p, xs, rfl, h1, by rw [← rl.length]; exact len e, gT_ok hs e rl hv k⟩
theorem untup_at : ∀ {h : VH} {xs : List Vv} {its : List (List Vv)} {i : Nat} {it : List Vv}, untup w.G h xs = some its → its[i]? = some it → ∃ v, xs[i]? = some v ∧ obj w.G h v = some (.tup it)
  | h, [], its, i, it, e, q => by cases e; simp at q
  | h, v :: r, its, i, it, e, q => by
    unfold untup at e
    split at e
    · rename_i ys q1
      obtain ⟨its', e1, rfl⟩ := Option.map_eq_some_iff.mp e
      cases i with
      | zero => simp at q; subst q; exact ⟨v, rfl, q1⟩
      | succ j => simpa using untup_at e1 (by simpa using q)
    · cases e
theorem untup_len : ∀ {h : VH} {xs : List Vv} {its : List (List Vv)}, untup w.G h xs = some its → its.length = xs.length
  | h, [], its, e => by cases e; rfl
  | h, v :: r, its, e => by
    unfold untup at e
    split at e
    · obtain ⟨its', e1, rfl⟩ := Option.map_eq_some_iff.mp e
      exact congrArg (· + 1) (untup_len e1)
    · cases e
/-- a sequence of a kind -/
theorem seq_kind (g : w.ConOk) (sm : SimW w ax m h H) {v : Vv} {x : V} (r : R w.D m v x) {xs : List Vv} (e : seqOf w.G h v = some xs) : ∃ p ys, x = .ref p ∧ (isL w.G h v = true → SqL w.K H p ys) ∧ (isL w.G h v = false → SqT w.K H p ys) ∧ RL w.D m xs ys := by
  unfold seqOf at e
  unfold isL
  cases v with
  | ref i =>
    simp only [obj] at e ⊢
    cases q : h[i]? with
    | none => rw [q] at e; cases e
    | some o =>
      rw [q] at e
      obtain ⟨a, rfl, h1, h2⟩ := sm.ref r q
      cases o with
      | lst ys => cases e; obtain ⟨zs, h3, h4⟩ := h2; exact ⟨a, zs, rfl, fun _ => SqL.of h3, (fun z => by cases z), h4⟩
      | tup ys => cases e; obtain ⟨zs, h3, h4⟩ := h2; exact ⟨a, zs, rfl, (fun z => by cases z), fun _ => SqT.of h3, h4⟩
      | rol ys =>
        cases e
        obtain ⟨zs, h3, h4⟩ := h2
        refine ⟨a, zs, rfl, fun _ => ?_, (fun z => by cases z), h3⟩
        rcases h4 with ⟨o, h4⟩ | h4
        · exact .inl (.inr ⟨o, h4⟩)
        · exact h4 H
      | _ => cases e
  | con k =>
    simp only [obj] at e ⊢
    cases q : w.G.cons k with
    | none => rw [q] at e; cases e
    | some o =>
      rw [q] at e
      obtain ⟨zs, ys, rfl, h1, h2⟩ := g.only k o q
      cases e
      exact ⟨_, ys, r, (fun z => by cases z), fun _ => h1 H, h2 m⟩
  | _ => cases e
theorem tup_at (g : w.ConOk) (sm : SimW w ax m h H) {v : Vv} {x : V} (r : R w.D m v x) {it : List Vv} (e : obj w.G h v = some (.tup it)) : ∃ p ys, x = .ref p ∧ SqT w.K H p ys ∧ RL w.D m it ys := by
  have e1 : seqOf w.G h v = some it := by unfold seqOf; rw [e]
  have e2 : isL w.G h v = false := by unfold isL; rw [e]
  obtain ⟨p, ys, h1, _, h2, h3⟩ := seq_kind g sm r e1
  exact ⟨p, ys, h1, h2 e2, h3⟩
theorem keeps_at {S : Src} {v : Vv} (hv : S.at_ = some v) (k : keeps w.G S h = true) : seqOf w.G h v = some S.seq ∧ isL w.G h v = S.lst ∧ (S.prs = true → untup w.G h S.seq = some S.items) := by
  unfold keeps at k
  rw [hv] at k
  simp only [Bool.and_eq_true, decide_eq_true_eq, beq_iff_eq, Bool.or_eq_true, Bool.not_eq_true'] at k
  refine ⟨k.1.1, k.1.2, fun z => ?_⟩
  rcases k.2 with q | q
  · rw [z] at q; cases q
  · exact q
/-- the items of a source that walks a value's own -/
def SrcV (w : Wd) (n : Nat) (S : Src) : Prop := S.items.length = S.seq.length ∧ ((S.prs = false ∧ n = 1 ∧ S.items = S.seq.map fun v => [v]) ∨ (S.prs = true ∧ n ≠ 1))
theorem item_V (g : w.ConOk) (sm : SimW w ax m h H) {S : Src} {v : Vv} (hv : S.at_ = some v) (sv : SrcV w n S) (k : keeps w.G S h = true) {i : Nat} {it : List Vv} (hi : S.items[i]? = some it) {ys : List V} (rl : RL w.D m S.seq ys) {x : V} (hx : ys[i]? = some x) : ItR w m H n it x := by
  obtain ⟨k1, k2, k3⟩ := keeps_at hv k
  unfold ItR
  rcases sv.2 with ⟨p1, rfl, p3⟩ | ⟨p1, p2⟩
  · rw [if_pos rfl]
    rw [p3, List.getElem?_map] at hi
    obtain ⟨u, h1, rfl⟩ := Option.map_eq_some_iff.mp hi
    obtain ⟨y, h2, h3⟩ := Paired.get rl h1
    rw [hx] at h2; cases h2
    exact ⟨u, rfl, h3⟩
  · rw [if_neg p2]
    obtain ⟨u, h1, h4⟩ := untup_at (k3 p1) hi
    obtain ⟨y, h2, h3⟩ := Paired.get rl h1
    rw [hx] at h2; cases h2
    exact tup_at g sm h3 h4
theorem JOk_list (g : w.ConOk) {S : Src} {v : Vv} {p : Addr} (hv : S.at_ = some v) (sv : SrcV w n S) (hl : S.lst = true) (r : R w.D m v (.ref p)) : JOk w ax n S (Itl w.K p) m where
  go := fun i m' h H l sm k hi => by
    obtain ⟨k1, k2, _⟩ := keeps_at hv k
    obtain ⟨q, ys, e, h1, _, h3⟩ := seq_kind g sm (r.mono l) k1
    cases e
    have hlt : i < ys.length := by rw [← h3.length, ← sv.1]; exact hi
    exact ⟨ys, ys[i], h1 (k2.trans hl), List.getElem?_eq_getElem hlt⟩
  stop := fun i m' h H l sm k hi => by
    obtain ⟨k1, k2, _⟩ := keeps_at hv k
    obtain ⟨q, ys, e, h1, _, h3⟩ := seq_kind g sm (r.mono l) k1
    cases e
    exact ⟨ys, h1 (k2.trans hl), by rw [← h3.length, ← sv.1]; exact hi⟩
  yld := fun i m' h H x H' it l sm k hi y => by
    obtain ⟨k1, k2, _⟩ := keeps_at hv k
    obtain ⟨q, ys, e, h1, _, h3⟩ := seq_kind g sm (r.mono l) k1
    cases e
    obtain ⟨rfl, y2⟩ := y
    exact ⟨sm, item_V g sm hv sv k hi h3 (y2 ys (h1 (k2.trans hl)))⟩
theorem JOk_tup (g : w.ConOk) {S : Src} {v : Vv} {p : Addr} (hv : S.at_ = some v) (sv : SrcV w n S) (hl : S.lst = false) (r : R w.D m v (.ref p)) : JOk w ax n S (Itt w.K p) m where
  go := fun i m' h H l sm k hi => by
    obtain ⟨k1, k2, _⟩ := keeps_at hv k
    obtain ⟨q, ys, e, _, h1, h3⟩ := seq_kind g sm (r.mono l) k1
    cases e
    have hlt : i < ys.length := by rw [← h3.length, ← sv.1]; exact hi
    exact ⟨ys, ys[i], h1 (k2.trans hl), List.getElem?_eq_getElem hlt⟩
  stop := fun i m' h H l sm k hi => by
    obtain ⟨k1, k2, _⟩ := keeps_at hv k
    obtain ⟨q, ys, e, _, h1, h3⟩ := seq_kind g sm (r.mono l) k1
    cases e
    exact ⟨ys, h1 (k2.trans hl), by rw [← h3.length, ← sv.1]; exact hi⟩
  yld := fun i m' h H x H' it l sm k hi y => by
    obtain ⟨k1, k2, _⟩ := keeps_at hv k
    obtain ⟨q, ys, e, _, h1, h3⟩ := seq_kind g sm (r.mono l) k1
    cases e
    obtain ⟨rfl, y2⟩ := y
    exact ⟨sm, item_V g sm hv sv k hi h3 (y2 ys (h1 (k2.trans hl)))⟩
theorem JOk_str {z : Str} : JOk w ax 1 ⟨z.cps.toList.map fun c => [.str ⟨#[c]⟩], none, [], false, false⟩ (Its z) m where
  go := fun i m' h H l sm k hi => show i < z.cps.size by simpa using hi
  stop := fun i m' h H l sm k hi => show z.cps.size ≤ i by simpa using hi
  yld := fun i m' h H x H' it l sm k hi y => by
    obtain ⟨rfl, c, hc, rfl⟩ := y
    refine ⟨sm, ?_⟩
    unfold ItR
    rw [if_pos rfl]
    rw [List.getElem?_map] at hi
    obtain ⟨d, h1, rfl⟩ := Option.map_eq_some_iff.mp hi
    rw [Array.getElem?_toList, hc] at h1
    cases h1
    exact ⟨_, rfl, rfl⟩
/-- the iterator of a value -/
theorem it_src (g : w.ConOk) (hK : X.K = w.K) {pins : List (Addr × Obj)} {s' : Shared} {v : Vv} {x : V} {u : Value} {S : Src} {E : Value → Shared → Prop} {Q : L2.It → Hp → Prop} (I : Inv X pins σ H s') (rx : RelV x u) (rv : R w.D m v x) (sm : SimW w ax m h H) (e : srcOf w.G n v h = some S) (k : ∀ J, JOk w ax n S J m → Q J H) :
    wpAny (model X.prog X.w) X.A (pyIter u) (PIE X pins σ tg Q) E s' := by
  have fromSeq : ∀ {xs : List Vv}, seqOf w.G h v = some xs → S.at_ = some v → S.seq = xs → S.lst = isL w.G h v → SrcV w n S → wpAny (model X.prog X.w) X.A (pyIter u) (PIE X pins σ tg Q) E s' := fun {xs} e1 hv hs hl sv => by
    obtain ⟨p, ys, rfl, h1, h2, h3⟩ := seq_kind g sm rv e1
    cases rx
    cases hb : isL w.G h v with
    | true =>
      have hq := h1 hb
      rw [← hK] at hq
      obtain ⟨its, ri, pl, hz⟩ := I.list hq
      refine wpAny_pyIter_list pl.isList ?_
      exact pi_one (tk := s'.toks) I _ (turn_list p _) ⟨_, Heap.get?_push_size _ rfl, rfl, rfl⟩ (by rw [hK]; exact k _ (JOk_list g hv sv (hl.trans hb) rv))
    | false =>
      have hq := h2 hb
      rw [← hK] at hq
      obtain ⟨its, ri, pl, hz⟩ := I.tuple hq
      refine wpAny_pyIter_tuple (show s'.heap.IsTuple p its.toArray from pl) ?_
      exact pi_one (tk := s'.toks) I _ (turn_tuple p _) ⟨_, Heap.get?_push_size _ rfl, rfl, rfl⟩ (by rw [hK]; exact k _ (JOk_tup g hv sv (hl.trans hb) rv))
  unfold srcOf at e
  split at e
  · rename_i hn
    split at e
    · rename_i z
      cases e
      subst hn
      cases rv
      obtain ⟨t, rfl⟩ := rx
      have q := k _ (JOk_str (z := z))
      cases ha : z.cps.all (· < 128)
      · exact wpAny_pyIter_wide ha (pi_one (tk := s'.toks) I _ (turn_str _ z t "str_iterator" (.inr rfl)) ⟨_, Heap.get?_push_size _ rfl, rfl, rfl⟩ q)
      · exact wpAny_pyIter_ascii ha (pi_one (tk := s'.toks) I _ (turn_str _ z t "str_ascii_iterator" (.inl rfl)) ⟨_, Heap.get?_push_size _ rfl, rfl, rfl⟩ q)
    · obtain ⟨xs, e1, rfl⟩ := Option.map_eq_some_iff.mp e
      exact fromSeq e1 rfl rfl rfl ⟨by simp, .inl ⟨rfl, hn, rfl⟩⟩
  · rename_i hn
    obtain ⟨xs, e1, e2⟩ := Option.bind_eq_some_iff.mp e
    obtain ⟨its, e3, rfl⟩ := Option.map_eq_some_iff.mp e2
    exact fromSeq e1 rfl rfl rfl ⟨untup_len e3, .inr ⟨rfl, hn⟩⟩
theorem i_val (F : Fac w) (hK : X.K = w.K) (ha : PE X ea (tE w ax W o a)) : PI X tg ea (tI w ax W o n (.val a)) := by
  refine ⟨fun pins s' σ H Q I ⟨m, s, h, r, hs, sm, e, p⟩ => ?_⟩
  simp only [evI] at e
  refine thn (ha.run pins s' σ H (fun x H1 => ∃ m h v S, R w.D m v x ∧ SimW w ax m h H1 ∧ srcOf w.G n v h = some S ∧ ∀ J, JOk w ax n S J m → Q J H1) I ?_) fun u s1 ⟨x, H1, I1, rx, m, h, v, S, rv, sm, e, k⟩ => it_src F.con hK I1 rx rv sm e k
  refine tE_of hs sm e p fun x h1 m1 H1 x' e1 l1 s1 rx hs1 p1 => ?_
  obtain ⟨S, e2, rfl⟩ := Option.map_eq_some_iff.mp e1
  exact ⟨m1, h1, x, S, rx, s1, e2, fun J j => p1 m1 H1 J (Le.refl _) s1 j⟩
theorem JOk_range {lo c : Int} {k : Nat} {its : List (List Vv)} {J : L2.It} (hi : its = (List.range k).map fun (i : Nat) => [.int (lo + (i : Int) * c)]) (hg : ∀ i H, J.go i H ↔ i < k) (hs : ∀ i H, J.stop i H ↔ k ≤ i) (hy : ∀ i H x H', J.yld i H x H' → H' = H ∧ x = .int (lo + (i : Int) * c)) : JOk w ax 1 ⟨its, none, [], false, false⟩ J m where
  go := fun i m' h H l sm _ q => (hg i H).mpr (by simpa [hi] using q)
  stop := fun i m' h H l sm _ q => (hs i H).mpr (by simpa [hi] using q)
  yld := fun i m' h H x H' it l sm _ q y => by
    obtain ⟨rfl, rfl⟩ := hy i H x H' y
    refine ⟨sm, ?_⟩
    unfold ItR
    rw [if_pos rfl]
    subst hi
    rw [List.getElem?_map] at q
    obtain ⟨d, h1, rfl⟩ := Option.map_eq_some_iff.mp q
    rw [List.getElem?_range (by have := (List.getElem?_eq_some_iff.mp h1).1; simpa using this)] at h1
    cases h1
    exact ⟨_, rfl, rfl⟩
theorem rng_up (a b : Int) : rngItems a b 1 = (List.range (b - a).toNat).map fun (i : Nat) => [.int (a + (i : Int) * 1)] := by
  unfold rngItems
  rw [if_pos (by decide), Int.ediv_one]
  congr 3
  omega
theorem rng_down (a b : Int) : rngItems a b (-1) = (List.range (a - b).toNat).map fun (i : Nat) => [.int (a + (i : Int) * (-1))] := by
  unfold rngItems
  rw [if_neg (by decide)]
  have e : (a - b - -1 - 1) / (- -1 : Int) = a - b := by
    rw [show (- -1 : Int) = 1 by decide, Int.ediv_one]; omega
  rw [e]
theorem JOk_up {lo hi : Int} : JOk w ax 1 ⟨rngItems lo hi 1, none, [], false, false⟩ (Itr lo (hi - lo).toNat) m :=
  JOk_range (lo := lo) (c := 1) (k := (hi - lo).toNat) (rng_up lo hi) (fun _ _ => Iff.rfl) (fun _ _ => Iff.rfl) fun i H x H' y => ⟨y.1, by rw [y.2, Int.mul_one]⟩
theorem JOk_down {lo hi : Int} : JOk w ax 1 ⟨rngItems lo hi (-1), none, [], false, false⟩ (Itc lo (-1) (lo - hi).toNat) m :=
  JOk_range (lo := lo) (c := -1) (k := (lo - hi).toNat) (rng_down lo hi) (fun _ _ => Iff.rfl) (fun _ _ => Iff.rfl) fun i H x H' y => ⟨y.1, y.2⟩
def Exs.len : Exs → Nat
  | .nil => 0
  | .cons _ r => r.len + 1
theorem exs_len : ∀ {as : Exs} {s : Sl} {h : VH} {vs : List Vv} {h' : VH}, evEs w.G o as s h = some (.ok vs h') → vs.length = as.len
  | .nil, s, h, vs, h', e => by cases e; rfl
  | .cons a r, s, h, vs, h', e => by
    obtain ⟨x, h1, _, e1⟩ := Rb_some e
    obtain ⟨y, h2, e2, e3⟩ := Rb_some e1
    cases e3
    exact congrArg (· + 1) (exs_len e2)
theorem rd_rng {as : Exs} {Q : L2.It → Hp → Prop} (q : tI w ax W o n (.rng as) σ H Q) : tEs w ax W o as σ H fun ys H1 => ∃ m h vs S, n = 1 ∧ vs.length = as.len ∧ RL w.D m vs ys ∧ SimW w ax m h H1 ∧ rngOf vs = some S ∧ ∀ J, JOk w ax n S J m → Q J H1 := by
  obtain ⟨m, s, h, r, hs, sm, e, p⟩ := q
  simp only [evI] at e
  split at e
  · rename_i hn
    cases q : evEs w.G o as s h with
    | none => rw [q] at e; cases e
    | some r0 =>
      rw [q] at e
      refine ⟨m, s, h, r0, hs, sm, q, ?_⟩
      cases r0 with
      | ok vs h1 =>
        obtain ⟨S, e2, rfl⟩ := Option.map_eq_some_iff.mp (show (rngOf vs).map _ = some r from e)
        exact fun m1 H1 x l s1 r1 => ⟨m1, h1, vs, S, hn, exs_len q, r1, s1, e2, fun J j => p m1 H1 J l s1 j⟩
      | ex x h1 => cases e; exact p
  · cases e
theorem tEs_imp {as : Exs} {Q Q' : List V → Hp → Prop} (t : tEs w ax W o as σ H Q) (k : ∀ x H, Q x H → Q' x H) : tEs w ax W o as σ H Q' := by
  obtain ⟨m, s, h, r, hs, sm, e, p⟩ := t
  refine ⟨m, s, h, r, hs, sm, e, ?_⟩
  cases r with
  | ok v h => exact fun m' H' x l s r => k _ _ (p m' H' x l s r)
  | ex x h => exact p
theorem PI.to {X : Cx} {e : Expr} {t t' : TI} (p : PI X tg e t) (k : ∀ σ H Q, t' σ H Q → t σ H Q) : PI X tg e t' := ⟨fun pins s σ H Q I h => p.run pins s σ H Q I (k _ _ _ h)⟩
theorem i_rng1 {e1 : Expr} {a1 : Ex} {p : Pos} (hg : Gl X "range") (hm : X.mg "range" = none) (hn : notStar e1 = true) (ha : PA X [e1] (tEs w ax W o (.cons a1 .nil))) : PI X tg (.Call (.Name "range" p) [e1] [] pos) (tI w ax W o n (.rng (.cons a1 .nil))) := by
  refine PI.to (pi_range1 hg hm ha (hs := star_cons hn)) fun σ H Q q => tEs_imp (rd_rng q) fun ys H1 ⟨m, h, vs, S, hn, hl, rl, sm, e, k⟩ => ?_
  subst hn
  unfold rngOf at e
  split at e
  · rename_i j
    split at e
    · rename_i hb
      cases e
      obtain ⟨y, rfl, ry⟩ := rl1 rl
      cases ry
      refine ⟨j, rfl, hb.1, hb.2, k _ ?_⟩
      have := JOk_up (w := w) (ax := ax) (m := m) (lo := 0) (hi := j)
      rwa [Int.sub_zero] at this
    · cases e
  · cases hl
  · cases hl
  · cases e
theorem i_rng2 {e1 e2 : Expr} {a1 a2 : Ex} {p : Pos} (hg : Gl X "range") (hm : X.mg "range" = none) (hn : notStar e1 = true) (hn2 : notStar e2 = true) (ha : PA X [e1, e2] (tEs w ax W o (.cons a1 (.cons a2 .nil)))) : PI X tg (.Call (.Name "range" p) [e1, e2] [] pos) (tI w ax W o n (.rng (.cons a1 (.cons a2 .nil)))) := by
  refine PI.to (pi_range2 hg hm ha (hs := by rw [star_cons hn, star_cons hn2]; rfl) (hs2 := star_cons hn2)) fun σ H Q q => tEs_imp (rd_rng q) fun ys H1 ⟨m, h, vs, S, hn, hl, rl, sm, e, k⟩ => ?_
  subst hn
  unfold rngOf at e
  split at e
  · cases hl
  · rename_i i j
    split at e
    · rename_i hb
      cases e
      obtain ⟨y, z, rfl, ry, rz⟩ := rl2 rl
      cases ry
      cases rz
      exact ⟨i, j, rfl, hb, k _ JOk_up⟩
    · cases e
  · cases hl
  · cases e
theorem i_rng3 {e1 e2 e3 : Expr} {a1 a2 a3 : Ex} {p : Pos} (hg : Gl X "range") (hm : X.mg "range" = none) (hn : notStar e1 = true) (hn2 : [e2, e3].all notStar = true) (ha : PA X [e1, e2, e3] (tEs w ax W o (.cons a1 (.cons a2 (.cons a3 .nil))))) :
    PI X tg (.Call (.Name "range" p) [e1, e2, e3] [] pos) (tI w ax W o n (.rng (.cons a1 (.cons a2 (.cons a3 .nil))))) := by
  refine PI.to (pi_range3 hg hm ha (hs := star_cons hn) (hpl := star_plain hn2)) fun σ H Q q => tEs_imp (rd_rng q) fun ys H1 ⟨m, h, vs, S, hn, hl, rl, sm, e, k⟩ => ?_
  subst hn
  unfold rngOf at e
  split at e
  · cases hl
  · cases hl
  · rename_i i j c
    split at e
    · rename_i hb
      cases e
      obtain ⟨b1, b2, b3, b4, rfl⟩ := hb
      cases rl with
      | cons r1 rl =>
        obtain ⟨y, z, rfl, ry, rz⟩ := rl2 rl
        cases r1
        cases ry
        cases rz
        exact ⟨i, j, -1, (i - j).toNat, rfl, RgC.neg b1 b2 b3 b4, k _ JOk_down⟩
    · cases e
  · cases e
theorem JOk_enum (g : w.ConOk) {xs : List Vv} {i : Nat} {p : Addr} (r : R w.D m (.ref i) (.ref p)) : JOk w ax 2 ⟨xs.mapIdx fun (j : Nat) v => [.int j, v], some (.ref i), xs, true, false⟩ (Ite w.K p) m where
  go := fun i m' h H l sm k hi => by
    obtain ⟨k1, k2, _⟩ := keeps_at rfl k
    obtain ⟨q, ys, e, h1, _, h3⟩ := seq_kind g sm (r.mono l) k1
    cases e
    have hlt : i < ys.length := by rw [← h3.length]; simpa using hi
    exact ⟨ys, ys[i], h1 k2, List.getElem?_eq_getElem hlt⟩
  stop := fun i m' h H l sm k hi => by
    obtain ⟨k1, k2, _⟩ := keeps_at rfl k
    obtain ⟨q, ys, e, h1, _, h3⟩ := seq_kind g sm (r.mono l) k1
    cases e
    exact ⟨ys, h1 k2, by rw [← h3.length]; simpa using hi⟩
  yld := fun j m' h H x H' it l sm k hi y => by
    obtain ⟨k1, k2, _⟩ := keeps_at rfl k
    obtain ⟨q, ys, e, h1, _, h3⟩ := seq_kind g sm (r.mono l) k1
    cases e
    obtain ⟨T, x', rfl, hT, rfl, hy⟩ := y
    refine ⟨sm.fresh hT, ?_⟩
    unfold ItR
    rw [if_neg (by decide)]
    rw [List.getElem?_mapIdx] at hi
    obtain ⟨u, h4, rfl⟩ := Option.map_eq_some_iff.mp hi
    obtain ⟨y', h5, h6⟩ := Paired.get h3 h4
    have := hy ys (h1 k2)
    rw [h5] at this
    cases this
    exact ⟨T, _, rfl, SqT.of upd_same, .cons rfl (.cons h6 .nil)⟩
theorem i_enm {e1 : Expr} {p tpos : Pos} {elts : List Expr} {kk : Nat} (F : Fac w) (hK : X.K = w.K) (hg : Gl X "enumerate") (hm : X.mg "enumerate" = none) (hn : notStar e1 = true) (ha : PE X e1 (tE w ax W o a)) : PI X (.Tuple elts kk tpos) (.Call (.Name "enumerate" p) [e1] [] pos) (tI w ax W o n (.enm a)) := by
  refine PI.to (pi_enum hg hm (pa_cons ha pa_nil (star_cons hn)) (hs := star_cons hn)) fun σ H Q ⟨m, s, h, r, hs, sm, e, p⟩ => ?_
  simp only [evI] at e
  split at e
  · rename_i hn2
    subst hn2
    refine tE_of hs sm e p fun x h1 m1 H1 x' e1 l1 s1 rx hs1 p1 => ?_
    obtain ⟨S, e2, rfl⟩ := Option.map_eq_some_iff.mp e1
    unfold enumOf at e2
    split at e2
    · rename_i i
      have key : ∀ {xs : List Vv}, seqOf w.G h1 (.ref i) = some xs → isL w.G h1 (.ref i) = true → S = ⟨xs.mapIdx fun (j : Nat) v => [.int j, v], some (.ref i), xs, true, false⟩ → ∃ a ys, [x'] = [V.ref a] ∧ SqL X.K H1 a ys ∧ Q (Ite X.K a) H1 := fun {xs} q1 q2 q3 => by
        obtain ⟨q, ys, rfl, k1, _, k3⟩ := seq_kind F.con s1 rx q1
        refine ⟨q, ys, rfl, by rw [hK]; exact k1 q2, ?_⟩
        rw [hK]
        refine p1 m1 H1 _ (Le.refl _) s1 ?_
        subst q3
        exact JOk_enum F.con rx
      split at e2
      · rename_i xs q
        cases e2
        exact key (by unfold seqOf obj; dsimp only; rw [q]) (by unfold isL obj; dsimp only; rw [q]) rfl
      · rename_i xs q
        cases e2
        exact key (by unfold seqOf obj; dsimp only; rw [q]) (by unfold isL obj; dsimp only; rw [q]) rfl
      · cases e2
    · cases e2
  · cases e
end
end Dv

set_option linter.all false
set_option autoImplicit false
set_option maxRecDepth 100000
set_option maxHeartbeats 1000000
namespace Dv
open PySem L2 PySem.Spec PyProof.Rows
/-- nothing is raised -/
abbrev WF : WX := fun _ _ _ _ => False
/-- any block of a context -/
def blkX (X : Cx) (scope : Scope) (Y : Cx) : Prop := ∃ (s : Shared) (H : Hp) (C : Addr) (cl : List (Str × Addr)) (fp : List Addr), Y = X.blk s H scope (compEnvC scope cl C X.env) fp
def noSetI : Expr → Bool
  | .Set _ _ _ => false
  | _ => true
section
variable {w : Wd} {ax : Ax} {W : WX} {o : Orc} {P : Program} {wl : World} {base : Heap} {n : Nat} {N : List Str} {sc scope : Scope} {cm : Bool} {X : Cx} {a b c : Ex} {ea eb ec tg : Expr} {pos : Pos} {f : Str} {m : Mp} {h : VH} {H : Hp} {s : Sl} {σ : L2.St}
theorem Good.blk {Y : Cx} (g : Good w ax P wl base n N sc true X) (hy : blkX X scope Y) : Good w none P wl base n N (relS scope sc) true Y := by
  obtain ⟨s, H, C, cl, fp, rfl⟩ := hy
  exact ⟨g.hP, g.hw, g.hK, g.hm, g.hB, g.hN, g.nd, by rw [← g.hs]; rfl, g.hr, g.hd, g.hc, fun _ => rfl, (fun _ _ _ _ z => by cases z), g.cu, g.mkr⟩
theorem takes_blk {Y : Cx} (hy : blkX X scope Y) : Takes Y WF := fun _ _ ⟨_, _, _, _, _, _, _, _, _, _, _, _, _, _, _, _, w⟩ => w.elim
theorem fold_ok {e : Expr} (h : noSetI e = true) {env : Env} : ∀ x, foldedSetIterable e env x = pure x := fun x => by
  unfold foldedSetIterable
  cases e <;> first | rfl | cases h
theorem wipe_wipe : ∀ {vs us : List Nat}, (∀ i ∈ us, i ∈ vs) → wipe (wipe σ us) vs = wipe σ vs
  | vs, [], _ => rfl
  | vs, u :: us, h => by
    show wipe ((wipe σ us).set u none) vs = wipe σ vs
    rw [gT_ok.wipe_at (h u List.mem_cons_self)]
    exact wipe_wipe fun i hi => h i (List.mem_cons_of_mem _ hi)
theorem lcF_ne {e : Sl → VH → Option (Re Vv)} {cd : Sl → VH → Option (Re Bool)} {tgl : List Nat} {kp : VH → Bool} {d : Nat} : ∀ {its : List (List Vv)} {h : VH} {x : Xv} {h' : VH}, lcF e cd s tgl kp d its h = some (.ex x h') → False
  | [], h, x, h', q => by unfold lcF at q; split at q <;> cases q
  | it :: r, h, x, h', q => by
    unfold lcF at q
    split at q
    · split at q
      · split at q
        · split at q
          · split at q
            · split at q
              · exact lcF_ne q
              · cases q
            · cases q
          · cases q
        · exact lcF_ne q
        · cases q
      · cases q
    · cases q
theorem lcF_ref {e : Sl → VH → Option (Re Vv)} {cd : Sl → VH → Option (Re Bool)} {tgl : List Nat} {kp : VH → Bool} {d : Nat} {v : Vv} : ∀ {its : List (List Vv)} {h : VH} {h' : VH}, lcF e cd s tgl kp d its h = some (.ok v h') → v = .ref d
  | [], h, h', q => by
    unfold lcF at q
    split at q
    · cases q; rfl
    · cases q
  | it :: r, h, h', q => by
    unfold lcF at q
    split at q
    · split at q
      · split at q
        · split at q
          · split at q
            · split at q
              · exact lcF_ref q
              · cases q
            · cases q
          · cases q
        · exact lcF_ref q
        · cases q
      · cases q
    · cases q
/-- the reading of a comprehension -/
theorem rd_lc {e cd : _} {own tgl : List Nat} {it : It} {Q : VK} (htg : ∀ i ∈ tgl, i ∈ own) (q : tE w none W o (.lc e own tgl it cd) σ H Q) :
    tLc (tI w none W o tgl.length it) (gTg w.K tgl) (tT w none WF o cd) (tE w none WF o e) own σ H Q := by
  obtain ⟨m, s, h, r, hs, sm, ev, p⟩ := q
  simp only [evE] at ev
  cases q0 : evI w.G o it tgl.length s h with
  | none => rw [q0] at ev; cases ev
  | some r0 =>
    rw [q0] at ev
    refine ⟨m, s, h, r0, hs, sm, q0, ?_⟩
    cases r0 with
    | ex x h1 => cases ev; exact p
    | ok S h1 =>
      intro m1 H1 J l1 s1 jo D hD
      have ev : lcF (evE w.G o e) (evT w.G o cd) (wipeV s own) tgl (keeps w.G S) h1.length S.items (h1 ++ [.lst []]) = some r := ev
      refine ⟨fun i k H => k = S.items.length - i ∧ i ≤ S.items.length ∧ ∃ m h, Le m1 m ∧ SimW w none m h H ∧ m h1.length = some D ∧ lcF (evE w.G o e) (evT w.G o cd) (wipeV s own) tgl (keeps w.G S) h1.length (S.items.drop i) h = some r,
        ⟨_, rfl, Nat.zero_le _, _, _, s1.le D, s1.new (o := .lst []) hD ⟨_, upd_same, .nil⟩, ext_same, ev⟩, ?_⟩
      rintro i k H2 ⟨rfl, hi, m2, h2, l2, s2, hd, e2⟩
      by_cases hlt : i < S.items.length
      · rw [List.drop_eq_getElem_cons hlt] at e2
        generalize hit : S.items[i] = itm at e2
        have hit : S.items[i]? = some itm := by rw [List.getElem?_eq_getElem hlt, hit]
        unfold lcF at e2
        split at e2
        · rename_i kp
          split at e2
          · rename_i sl1 q1
            refine .inr ⟨jo.go i m2 h2 H2 l2 s2 kp hlt, fun H3 => ∃ m h, Le m1 m ∧ SimW w none m h H3 ∧ m h1.length = some D ∧ lcF (evE w.G o e) (evT w.G o cd) (wipeV s own) tgl (keeps w.G S) h1.length (S.items.drop (i + 1)) h = some r,
              fun H3 q3 => ⟨S.items.length - (i + 1), by omega, rfl, hlt, q3⟩, fun x H3 y => ?_⟩
            obtain ⟨s3, ir⟩ := jo.yld i m2 h2 H2 x H3 itm l2 s2 kp hit y
            refine tg_ok ((hs.mono (l1.trans l2)).wipe own) q1 ir htg fun σ2 hs2 hw2 => ⟨hw2.trans (wipe_wipe fun _ z => z), ?_⟩
            split at e2
            · rename_i h3 q4
              refine ⟨m2, sl1, h2, _, hs2, s3, q4, fun m4 H4 b l4 s4 rb => ?_⟩
              subst rb
              rw [if_pos rfl]
              split at e2
              · rename_i v h5 q5
                refine ⟨m4, sl1, h3, _, hs2.mono l4, s4, q5, fun m5 H5 y l5 s5 ry => ?_⟩
                split at e2
                · rename_i acc q6
                  obtain ⟨p6, hp6, hr6⟩ := s5.at_ _ _ q6
                  have hd5 := l5 _ _ (l4 _ _ hd)
                  rw [hd5] at hp6
                  cases hp6
                  obtain ⟨ys, k6, k7⟩ := hr6
                  split at e2
                  · rename_i hz
                    refine ⟨ys, k6, by rw [← k7.length, ← sz_eq]; exact hz, m5, _, (l2.trans l4).trans l5, s5.set (o' := .lst (acc ++ [v])) q6 rfl rfl hd5 ⟨_, upd_same, Paired.upds k7 ry⟩, hd5, e2⟩
                  · cases e2
                · cases e2
              · cases e2
            · rename_i h3 q4
              refine ⟨m2, sl1, h2, _, hs2, s3, q4, fun m4 H4 b l4 s4 rb => ?_⟩
              subst rb
              rw [if_neg Bool.false_ne_true]
              exact ⟨m4, h3, l2.trans l4, s4, l4 _ _ hd, e2⟩
            · cases e2
          · cases e2
        · cases e2
      · have he : i = S.items.length := by omega
        subst he
        rw [List.drop_length] at e2
        unfold lcF at e2
        split at e2
        · rename_i kp
          cases e2
          exact .inl ⟨jo.stop _ m2 h2 H2 l2 s2 kp (Nat.le_refl _), p m2 H2 _ (l1.trans l2) s2 ⟨D, hd, rfl⟩⟩
        · cases e2
theorem e_lc {e : Ex} {cd : Tt} {elt iter : Expr} {ifs : List Expr} {own : List (Str × Nat)} {tgl : List Nat} {it : It} (g : Good w ax P wl base n N sc true X) (hb : blkC N sc scope own = true) (htg : ∀ i ∈ tgl, i ∈ own.map (·.2)) (hn : noSetI iter = true) (hi : PI X tg iter (tI w ax W o tgl.length it))
    (hg : ∀ Y, blkX X scope Y → PG Y tg (gTg w.K tgl)) (ht : ∀ Y, blkX X scope Y → PTs Y ifs (tT w none WF o cd)) (he : ∀ Y, blkX X scope Y → PE Y elt (tE w none WF o e)) :
    PE X (.ListComp elt [⟨tg, iter, ifs, 0⟩] scope pos) (tE w ax W o (.lc e (own.map (·.2)) tgl it cd)) := by
  have ea := g.nx rfl
  subst ea
  have hN := g.hN
  have hs := g.hs
  subst hN hs
  exact PE.to (pe_lc (g.hc rfl) g.nd hi (blkOk_by hb) (fun s H C cl fp => hg _ ⟨s, H, C, cl, fp, rfl⟩) (fun s H C cl fp => ht _ ⟨s, H, C, cl, fp, rfl⟩) (fun s H C cl fp => he _ ⟨s, H, C, cl, fp, rfl⟩) (fold_ok hn)) fun σ H Q q => rd_lc htg q
theorem lc2F_ne {e : Sl → VH → Option (Re Vv)} {cd : Sl → VH → Option (Re Bool)} {tgl : List Nat} {kp : VH → Bool} {d : Nat} : ∀ {its : List (List Vv)} {h : VH} {x : Xv} {h' : VH}, lc2F e cd s tgl kp d its h = some (.ex x h') → False
  | [], h, x, h', q => by unfold lc2F at q; split at q <;> cases q
  | it :: r, h, x, h', q => by
    unfold lc2F at q
    split at q
    · split at q
      · split at q
        · split at q
          · exact lc2F_ne q
          · cases q
        · exact lc2F_ne q
        · cases q
      · cases q
    · cases q
/-- the reading of a comprehension of two clauses -/
theorem rd_lc2 {e cd cd1 : _} {own tgl tg1 : List Nat} {it it1 : It} {Q : VK} (htg : ∀ i ∈ tgl, i ∈ own) (q : tE w none W o (.lc2 e own tgl it cd tg1 it1 cd1) σ H Q) :
    tLc2 (tI w none W o tgl.length it) (gTg w.K tgl) (tT w none WF o cd) (tI w none WF o tg1.length it1) (gTg w.K tg1) (tT w none WF o cd1) (tE w none WF o e) own tg1 σ H Q := by
  obtain ⟨m, s, h, r, hs, sm, ev, p⟩ := q
  simp only [evE] at ev
  cases q0 : evI w.G o it tgl.length s h with
  | none => rw [q0] at ev; cases ev
  | some r0 =>
    rw [q0] at ev
    refine ⟨m, s, h, r0, hs, sm, q0, ?_⟩
    cases r0 with
    | ex x h1 => cases ev; exact p
    | ok S h1 =>
      intro m1 H1 J l1 s1 jo D hD
      rw [Rb_ok] at ev
      generalize hin : (fun s1 h2 => Rb (evI w.G o it1 tg1.length s1 h2) fun S1 h3 => lcF (evE w.G o e) (evT w.G o cd1) (wipeV s1 tg1) tg1 (keeps w.G S1) h1.length S1.items h3) = inn at ev
      have ev : lc2F inn (evT w.G o cd) (wipeV s own) tgl (keeps w.G S) h1.length S.items (h1 ++ [.lst []]) = some r := ev
      refine ⟨fun i k H => k = S.items.length - i ∧ i ≤ S.items.length ∧ ∃ m h, Le m1 m ∧ SimW w none m h H ∧ m h1.length = some D ∧ lc2F inn (evT w.G o cd) (wipeV s own) tgl (keeps w.G S) h1.length (S.items.drop i) h = some r,
        ⟨_, rfl, Nat.zero_le _, _, _, s1.le D, s1.new (o := .lst []) hD ⟨_, upd_same, .nil⟩, ext_same, ev⟩, ?_⟩
      rintro i k H2 ⟨rfl, hi, m2, h2, l2, s2, hd, e2⟩
      by_cases hlt : i < S.items.length
      · rw [List.drop_eq_getElem_cons hlt] at e2
        generalize hit : S.items[i] = itm at e2
        have hit : S.items[i]? = some itm := by rw [List.getElem?_eq_getElem hlt, hit]
        unfold lc2F at e2
        split at e2
        · rename_i kp
          split at e2
          · rename_i sl1 q1
            refine .inr ⟨jo.go i m2 h2 H2 l2 s2 kp hlt, fun H3 => ∃ m h, Le m1 m ∧ SimW w none m h H3 ∧ m h1.length = some D ∧ lc2F inn (evT w.G o cd) (wipeV s own) tgl (keeps w.G S) h1.length (S.items.drop (i + 1)) h = some r,
              fun H3 q3 => ⟨S.items.length - (i + 1), by omega, rfl, hlt, q3⟩, fun x H3 y => ?_⟩
            obtain ⟨s3, ir⟩ := jo.yld i m2 h2 H2 x H3 itm l2 s2 kp hit y
            refine tg_ok ((hs.mono (l1.trans l2)).wipe own) q1 ir htg fun σ2 hs2 hw2 => ⟨hw2.trans (wipe_wipe fun _ z => z), ?_⟩
            split at e2
            · rename_i h3 q4
              refine ⟨m2, sl1, h2, _, hs2, s3, q4, fun m4 H4 b l4 s4 rb => ?_⟩
              subst rb
              rw [if_pos rfl]
              split at e2
              · rename_i v h5 q5
                rw [← hin] at q5
                dsimp only at q5
                cases q6 : evI w.G o it1 tg1.length sl1 h3 with
                | none => rw [q6] at q5; cases q5
                | some r6 =>
                  rw [q6] at q5
                  cases r6 with
                  | ex x h6 => cases q5
                  | ok S1 h6 =>
                    refine ⟨m4, sl1, h3, _, hs2.mono l4, s4, q6, fun m6 H6 J1 l6 s6 jo1 => ?_⟩
                    have q5 : lcF (evE w.G o e) (evT w.G o cd1) (wipeV sl1 tg1) tg1 (keeps w.G S1) h1.length S1.items h6 = some (.ok v h5) := q5
                    refine ⟨fun j k H => k = S1.items.length - j ∧ j ≤ S1.items.length ∧ ∃ m h, Le m6 m ∧ SimW w none m h H ∧ lcF (evE w.G o e) (evT w.G o cd1) (wipeV sl1 tg1) tg1 (keeps w.G S1) h1.length (S1.items.drop j) h = some (.ok v h5),
                      ⟨_, rfl, Nat.zero_le _, m6, h6, Le.refl _, s6, q5⟩, ?_⟩
                    have hd6 : m6 h1.length = some D := l6 _ _ (l4 _ _ hd)
                    have le6 : Le m1 m6 := (l2.trans l4).trans l6
                    rintro j k H7 ⟨rfl, hj, m7, h7, l7, s7, e7⟩
                    by_cases hlj : j < S1.items.length
                    · rw [List.drop_eq_getElem_cons hlj] at e7
                      generalize hjt : S1.items[j] = jtm at e7
                      have hjt : S1.items[j]? = some jtm := by rw [List.getElem?_eq_getElem hlj, hjt]
                      unfold lcF at e7
                      split at e7
                      · rename_i kp1
                        split at e7
                        · rename_i sl2 q8
                          refine .inr ⟨jo1.go j m7 h7 H7 l7 s7 kp1 hlj, fun H8 => ∃ m h, Le m6 m ∧ SimW w none m h H8 ∧ lcF (evE w.G o e) (evT w.G o cd1) (wipeV sl1 tg1) tg1 (keeps w.G S1) h1.length (S1.items.drop (j + 1)) h = some (.ok v h5),
                            fun H8 q9 => ⟨S1.items.length - (j + 1), by omega, rfl, hlj, q9⟩, fun x H8 y => ?_⟩
                          obtain ⟨s8, ir1⟩ := jo1.yld j m7 h7 H7 x H8 jtm l7 s7 kp1 hjt y
                          have hs6 := ((hs2.mono l4).mono l6).mono l7
                          refine tg_ok (hs6.wipe tg1) q8 ir1 (fun _ z => z) fun σ3 hs3 hw3 => ⟨hw3.trans (wipe_wipe fun _ z => z), ?_⟩
                          split at e7
                          · rename_i h9 q10
                            refine ⟨m7, sl2, h7, _, hs3, s8, q10, fun m10 H10 b l10 s10 rb => ?_⟩
                            subst rb
                            rw [if_pos rfl]
                            split at e7
                            · rename_i v11 h11 q11
                              refine ⟨m10, sl2, h9, _, hs3.mono l10, s10, q11, fun m11 H11 y l11 s11 ry => ?_⟩
                              split at e7
                              · rename_i acc q12
                                obtain ⟨p12, hp12, hr12⟩ := s11.at_ _ _ q12
                                have hd11 := l11 _ _ (l10 _ _ (l7 _ _ hd6))
                                rw [hd11] at hp12
                                cases hp12
                                obtain ⟨ys, k12, k13⟩ := hr12
                                split at e7
                                · rename_i hz
                                  exact ⟨ys, k12, by rw [← k13.length, ← sz_eq]; exact hz, m11, _, (l7.trans l10).trans l11, s11.set (o' := .lst (acc ++ [v11])) q12 rfl rfl hd11 ⟨_, upd_same, Paired.upds k13 ry⟩, e7⟩
                                · cases e7
                              · cases e7
                            · cases e7
                          · rename_i h9 q10
                            refine ⟨m7, sl2, h7, _, hs3, s8, q10, fun m10 H10 b l10 s10 rb => ?_⟩
                            subst rb
                            rw [if_neg Bool.false_ne_true]
                            exact ⟨m10, h9, l7.trans l10, s10, e7⟩
                          · cases e7
                        · cases e7
                      · cases e7
                    · have hj2 : j = S1.items.length := by omega
                      subst hj2
                      rw [List.drop_length] at e7
                      unfold lcF at e7
                      split at e7
                      · rename_i kp1
                        cases e7
                        exact .inl ⟨jo1.stop _ m7 _ H7 l7 s7 kp1 (Nat.le_refl _), m7, _, le6.trans l7, s7, l7 _ _ hd6, e2⟩
                      · cases e7
              · cases e2
            · rename_i h3 q4
              refine ⟨m2, sl1, h2, _, hs2, s3, q4, fun m4 H4 b l4 s4 rb => ?_⟩
              subst rb
              rw [if_neg Bool.false_ne_true]
              exact ⟨m4, h3, l2.trans l4, s4, l4 _ _ hd, e2⟩
            · cases e2
          · cases e2
        · cases e2
      · have he : i = S.items.length := by omega
        subst he
        rw [List.drop_length] at e2
        unfold lc2F at e2
        split at e2
        · rename_i kp
          cases e2
          exact .inl ⟨jo.stop _ m2 h2 H2 l2 s2 kp (Nat.le_refl _), p m2 H2 _ (l1.trans l2) s2 ⟨D, hd, rfl⟩⟩
        · cases e2
theorem e_lc2 {e : Ex} {cd cd1 : Tt} {elt iter iter1 tgt1 : Expr} {ifs ifs1 : List Expr} {own : List (Str × Nat)} {tgl tg1 : List Nat} {it it1 : It} (g : Good w ax P wl base n N sc true X) (hb : blkC N sc scope own = true) (htg : ∀ i ∈ tgl, i ∈ own.map (·.2)) (htg1 : ∀ i ∈ tg1, i ∈ own.map (·.2)) (hn : noSetI iter = true) (hn1 : noSetI iter1 = true) (hi : PI X tg iter (tI w ax W o tgl.length it))
    (hg : ∀ Y, blkX X scope Y → PG Y tg (gTg w.K tgl)) (ht : ∀ Y, blkX X scope Y → PTs Y ifs (tT w none WF o cd)) (hi1 : ∀ Y, blkX X scope Y → PI Y tgt1 iter1 (tI w none WF o tg1.length it1)) (hg1 : ∀ Y, blkX X scope Y → PG Y tgt1 (gTg w.K tg1)) (ht1 : ∀ Y, blkX X scope Y → PTs Y ifs1 (tT w none WF o cd1)) (he : ∀ Y, blkX X scope Y → PE Y elt (tE w none WF o e)) :
    PE X (.ListComp elt [⟨tg, iter, ifs, 0⟩, ⟨tgt1, iter1, ifs1, 0⟩] scope pos) (tE w ax W o (.lc2 e (own.map (·.2)) tgl it cd tg1 it1 cd1)) := by
  have ea := g.nx rfl
  subst ea
  have hN := g.hN
  have hs := g.hs
  subst hN hs
  exact PE.to (pe_lc2 (g.hc rfl) g.nd hi (blkOk_by hb) htg1 (fun s H C cl fp => hg _ ⟨s, H, C, cl, fp, rfl⟩) (fun s H C cl fp => ht _ ⟨s, H, C, cl, fp, rfl⟩) (fun s H C cl fp => hi1 _ ⟨s, H, C, cl, fp, rfl⟩) (fun s H C cl fp => hg1 _ ⟨s, H, C, cl, fp, rfl⟩) (fun s H C cl fp => ht1 _ ⟨s, H, C, cl, fp, rfl⟩) (fun s H C cl fp => he _ ⟨s, H, C, cl, fp, rfl⟩) (fold_ok hn) fun _ => fold_ok hn1) fun σ H Q q => rd_lc2 htg q
end
end Dv

set_option linter.all false
set_option autoImplicit false
set_option maxRecDepth 100000
set_option maxHeartbeats 1000000
namespace Dv
open PySem L2 PySem.Spec PyProof.Rows
/-- behind a statement's result -/
def PSr (w : Wd) (ax : Ax) (W : WX) (m : Mp) (D : Ends) : Sr → Prop
  | .nx s h => ∀ m' H' σ', Le m m' → SimW w ax m' h H' → SlR w.D m' s σ' → D.nx σ' H'
  | .rt v h => ∀ m' H' x, Le m m' → SimW w ax m' h H' → R w.D m' v x → D.rt x H'
  | .bk s h => ∀ m' H' σ', Le m m' → SimW w ax m' h H' → SlR w.D m' s σ' → D.bk σ' H'
  | .ct s h => ∀ m' H' σ', Le m m' → SimW w ax m' h H' → SlR w.D m' s σ' → D.ct σ' H'
  | .ex x s h => ∀ m' H' σ' dd gs, Le m m' → SimW w ax m' h H' → SlR w.D m' s σ' → H' dd = some (.xd gs) → RF w.D m' x.fs gs → W (.ref (w.D.ca x.c)) (some dd) σ' H'
def tS (w : Wd) (ax : Ax) (W : WX) (o : Orc) (st : St) : TS := fun D σ H => ∃ m s h r, SlR w.D m s σ ∧ SimW w ax m h H ∧ evS w.G o st s h = some r ∧ PSr w ax W m D r
section
variable {w : Wd} {ax : Ax} {W : WX} {o : Orc} {P : Program} {wl : World} {base : Heap} {n : Nat} {N : List Str} {sc scope : Scope} {cm : Bool} {X : Cx} {a b c : Ex} {ea eb ec tg : Expr} {pos : Pos} {f : Str} {m m1 : Mp} {h : VH} {H : Hp} {s : Sl} {σ : L2.St} {D : Ends} {r : Sr}
theorem PSr.mono (p : PSr w ax W m D r) (l : Le m m1) : PSr w ax W m1 D r := by
  cases r with
  | nx s h => exact fun m' H' σ' k => p m' H' σ' (l.trans k)
  | rt v h => exact fun m' H' x k => p m' H' x (l.trans k)
  | bk s h => exact fun m' H' σ' k => p m' H' σ' (l.trans k)
  | ct s h => exact fun m' H' σ' k => p m' H' σ' (l.trans k)
  | ex x s h => exact fun m' H' σ' dd gs k => p m' H' σ' dd gs (l.trans k)
theorem ex_of {α β : Type} {rel : Mp → α → β → Prop} {Q : β → Hp → Prop} {x : Xv} {h1 : VH} (hs : SlR w.D m s σ) (p : PSr w ax W m D (.ex x s h1)) : PRr w ax rel (ExW W σ) m Q (.ex x h1) :=
  fun m' H' dd gs l sm hd rf => p m' H' σ dd gs l sm (hs.mono l) hd rf
theorem sE_of {a : Ex} {k : Vv → VH → Option Sr} {Q0 : VK} (hs : SlR w.D m s σ) (sm : SimW w ax m h H) (e : Sb (evE w.G o a s h) s k = some r) (p : PSr w ax W m D r)
    (c : ∀ v h1 m1 H1 x, k v h1 = some r → Le m m1 → SimW w ax m1 h1 H1 → R w.D m1 v x → SlR w.D m1 s σ → PSr w ax W m1 D r → Q0 x H1) : tE w ax W o a σ H Q0 := by
  cases q : evE w.G o a s h with
  | none => rw [q] at e; cases e
  | some r0 =>
    rw [q] at e
    refine ⟨m, s, h, r0, hs, sm, q, ?_⟩
    cases r0 with
    | ok v h1 => exact fun m1 H1 x l s1 r1 => c v h1 m1 H1 x e l s1 r1 (hs.mono l) (p.mono l)
    | ex x h1 => cases e; exact ex_of hs p
theorem sT_of {a : Tt} {k : Bool → VH → Option Sr} {Q0 : Bool → Hp → Prop} (hs : SlR w.D m s σ) (sm : SimW w ax m h H) (e : Sb (evT w.G o a s h) s k = some r) (p : PSr w ax W m D r)
    (c : ∀ v h1 m1 H1, k v h1 = some r → Le m m1 → SimW w ax m1 h1 H1 → SlR w.D m1 s σ → PSr w ax W m1 D r → Q0 v H1) : tT w ax W o a σ H Q0 := by
  cases q : evT w.G o a s h with
  | none => rw [q] at e; cases e
  | some r0 =>
    rw [q] at e
    refine ⟨m, s, h, r0, hs, sm, q, ?_⟩
    cases r0 with
    | ok v h1 => intro m1 H1 x l s1 r1; cases r1; exact c v h1 m1 H1 e l s1 (hs.mono l) (p.mono l)
    | ex x h1 => cases e; exact ex_of hs p
theorem sEs_of {a : Exs} {k : List Vv → VH → Option Sr} {Q0 : List V → Hp → Prop} (hs : SlR w.D m s σ) (sm : SimW w ax m h H) (e : Sb (evEs w.G o a s h) s k = some r) (p : PSr w ax W m D r)
    (c : ∀ v h1 m1 H1 x, k v h1 = some r → Le m m1 → SimW w ax m1 h1 H1 → RL w.D m1 v x → SlR w.D m1 s σ → PSr w ax W m1 D r → Q0 x H1) : tEs w ax W o a σ H Q0 := by
  cases q : evEs w.G o a s h with
  | none => rw [q] at e; cases e
  | some r0 =>
    rw [q] at e
    refine ⟨m, s, h, r0, hs, sm, q, ?_⟩
    cases r0 with
    | ok v h1 => exact fun m1 H1 x l s1 r1 => c v h1 m1 H1 x e l s1 r1 (hs.mono l) (p.mono l)
    | ex x h1 => cases e; exact ex_of hs p
theorem sI_of {a : It} {j : Nat} {k : Src → VH → Option Sr} {Q0 : L2.It → Hp → Prop} (hs : SlR w.D m s σ) (sm : SimW w ax m h H) (e : Sb (evI w.G o a j s h) s k = some r) (p : PSr w ax W m D r)
    (c : ∀ S h1 m1 H1 J, k S h1 = some r → Le m m1 → SimW w ax m1 h1 H1 → JOk w ax j S J m1 → SlR w.D m1 s σ → PSr w ax W m1 D r → Q0 J H1) : tI w ax W o j a σ H Q0 := by
  cases q : evI w.G o a j s h with
  | none => rw [q] at e; cases e
  | some r0 =>
    rw [q] at e
    refine ⟨m, s, h, r0, hs, sm, q, ?_⟩
    cases r0 with
    | ok v h1 => exact fun m1 H1 x l s1 r1 => c v h1 m1 H1 x e l s1 r1 (hs.mono l) (p.mono l)
    | ex x h1 => cases e; exact ex_of hs p
theorem st_nil : PSs X [] (tS w ax W o .skip) := by
  refine PSs.to pss_nil fun D σ H ⟨m, s, h, r, hs, sm, e, p⟩ => ?_
  cases e
  exact p m H σ (Le.refl m) sm hs
theorem st_cons {st : Stmt} {rest : List Stmt} {a b : St} (h1 : PS X st (tS w ax W o a)) (h2 : PSs X rest (tS w ax W o b)) : PSs X (st :: rest) (tS w ax W o (.seq a b)) := by
  refine PSs.to (pss_cons h1 h2) fun D σ H ⟨m, s, h, r, hs, sm, e, p⟩ => ?_
  simp only [evS] at e
  cases q : evS w.G o a s h with
  | none => rw [q] at e; cases e
  | some r0 =>
    rw [q] at e
    refine ⟨m, s, h, r0, hs, sm, q, ?_⟩
    cases r0 with
    | nx s1 h1 => exact fun m' H' σ' l sm' hs' => ⟨m', s1, h1, r, hs', sm', e, p.mono l⟩
    | rt v h1 => cases e; exact p
    | bk s1 h1 => cases e; exact p
    | ct s1 h1 => cases e; exact p
    | ex x s1 h1 => cases e; exact p
theorem st_pass : PS X (.Pass pos) (tS w ax W o .skip) := by
  refine PS.to ps_pass fun D σ H ⟨m, s, h, r, hs, sm, e, p⟩ => ?_
  cases e
  exact p m H σ (Le.refl m) sm hs
theorem st_doc {x : Str} {j : _} {p0 pos' : Pos} : PS X (.Expr (.Constant (.str x) j p0) pos') (tS w ax W o .skip) := by
  refine PS.to ps_doc fun D σ H ⟨m, s, h, r, hs, sm, e, p⟩ => ?_
  cases e
  exact p m H σ (Le.refl m) sm hs
/-- no comprehension -/
def noComp : Expr → Bool
  | .ListComp _ _ _ _ => false
  | .SetComp _ _ _ _ => false
  | .DictComp _ _ _ _ _ => false
  | _ => true
theorem no_swap {e : Expr} {t : Option Expr} {l : Nat} {env : Env} (h : noComp e = true) : swapsWith e t l env = pure false := by
  cases e <;> first | rfl | cases h
theorem st_expr (hn : noComp ea = true) (ha : PE X ea (tE w ax W o a)) : PS X (.Expr ea pos) (tS w ax W o (.expr a)) := by
  refine PS.to (ps_expr ha (no_swap hn)) fun D σ H ⟨m, s, h, r, hs, sm, e, p⟩ => ?_
  refine sE_of hs sm e p fun x h1 m1 H1 x' e1 l1 s1 rx hs1 p1 => ?_
  cases e1
  exact p1 m1 H1 σ (Le.refl _) s1 hs1
theorem st_ret (ha : PE X ea (tE w ax W o a)) : PS X (.Return (some ea) pos) (tS w ax W o (.ret a)) := by
  refine PS.to (ps_ret ha) fun D σ H ⟨m, s, h, r, hs, sm, e, p⟩ => ?_
  refine sE_of hs sm e p fun x h1 m1 H1 x' e1 l1 s1 rx hs1 p1 => ?_
  cases e1
  exact p1 m1 H1 x' (Le.refl _) s1 rx
theorem st_retN : PS X (.Return none pos) (tS w ax W o (.ret (.cst .non))) := by
  refine PS.to ps_retN fun D σ H ⟨m, s, h, r, hs, sm, e, p⟩ => ?_
  cases e
  exact p m H _ (Le.refl m) sm rfl
theorem st_if {t : Tt} {xs ys : List Stmt} {b1 b2 : St} (hc : PT X ec (tT w ax W o t)) (ha : PSs X xs (tS w ax W o b1)) (hb : PSs X ys (tS w ax W o b2)) : PS X (.If ec xs ys pos) (tS w ax W o (.ifs t b1 b2)) := by
  refine PS.to (ps_if hc ha hb) fun D σ H ⟨m, s, h, r, hs, sm, e, p⟩ => ?_
  refine sT_of hs sm e p fun k h1 m1 H1 e1 l1 s1 hs1 p1 => ?_
  cases k with
  | true => rw [if_pos rfl]; exact ⟨m1, s, h1, r, hs1, s1, e1, p1⟩
  | false => rw [if_neg Bool.false_ne_true]; exact ⟨m1, s, h1, r, hs1, s1, e1, p1⟩
theorem st_brk : PS X (.Break pos) (tS w ax W o .brk) := by
  refine PS.to ps_break fun D σ H ⟨m, s, h, r, hs, sm, e, p⟩ => ?_
  cases e
  exact p m H σ (Le.refl m) sm hs
theorem st_cnt : PS X (.Continue pos) (tS w ax W o .cnt) := by
  refine PS.to ps_continue fun D σ H ⟨m, s, h, r, hs, sm, e, p⟩ => ?_
  cases e
  exact p m H σ (Le.refl m) sm hs
theorem st_set {i : Nat} {x : Str} {p' : Pos} (hN : X.N.Nodup) (hi : X.N[i]? = some x) (hx : Loc X.env.scope x) (hf : X.fn x = true ∨ X.env.scope.names.lookup x = some .local) (hn : swapsWith ea (some (.Name x p')) pos.line X.env = pure false) (ha : PE X ea (tE w ax W o a)) : PS X (.Assign [.Name x p'] ea pos) (tS w ax W o (.asg (.one i) a)) := by
  refine PS.to (ps_set hN hi hx ha hn hf) fun D σ H ⟨m, s, h, r, hs, sm, e, p⟩ => ?_
  refine sE_of hs sm e p fun x h1 m1 H1 x' e1 l1 s1 rx hs1 p1 => ?_
  cases e1
  exact p1 m1 H1 _ (Le.refl _) s1 (hs1.set i rx)
/-- .. a comprehension on one line, the name a local that the block does not have -/
theorem st_setLc {i : Nat} {x : Str} {p' : Pos} {e : Ex} {cd : Tt} {elt iter : Expr} {ifs : List Expr} {own : List (Str × Nat)} {tgl : List Nat} {it : It} (g : Good w ax P wl base n N sc true X) (hb : blkC N sc scope own = true) (htg : ∀ i ∈ tgl, i ∈ own.map (·.2)) (hn : noSetI iter = true) (hi : PI X tg iter (tI w ax W o tgl.length it))
    (hg : ∀ Y, blkX X scope Y → PG Y tg (gTg w.K tgl)) (ht : ∀ Y, blkX X scope Y → PTs Y ifs (tT w none WF o cd)) (he : ∀ Y, blkX X scope Y → PE Y elt (tE w none WF o e)) (hy : N[i]? = some x) (hyl : sc.names.lookup x = some .local)
    {p0 : Pos} (hsw : swapsWith (.ListComp elt [⟨tg, iter, ifs, 0⟩] scope p0) (some (.Name x p')) pos.line X.env = pure true) : PS X (.Assign [.Name x p'] (.ListComp elt [⟨tg, iter, ifs, 0⟩] scope p0) pos) (tS w ax W o (.asg (.one i) (.lc e (own.map (·.2)) tgl it cd))) := by
  have ea := g.nx rfl
  subst ea
  have hN := g.hN
  have hs := g.hs
  subst hN hs
  refine PS.to (ps_setLc (i := i) (g.hc rfl) g.nd hy hyl hsw hi (blkOk_by hb) (fun s H C cl fp => hg _ ⟨s, H, C, cl, fp, rfl⟩) (fun s H C cl fp => ht _ ⟨s, H, C, cl, fp, rfl⟩) (fun s H C cl fp => he _ ⟨s, H, C, cl, fp, rfl⟩) (fold_ok hn)) fun D σ H ⟨m, s, h, r, hs, sm, e, p⟩ => ?_
  refine rd_lc (Q := fun x H1 => gName i x σ H1 D.nx) htg (sE_of hs sm e p fun x h1 m1 H1 x' e1 l1 s1 rx hs1 p1 => ?_)
  cases e1
  exact p1 m1 H1 _ (Le.refl _) s1 (hs1.set i rx)
theorem st_setLc2 {i : Nat} {x : Str} {p' : Pos} {e : Ex} {cd cd1 : Tt} {elt iter iter1 tgt1 : Expr} {ifs ifs1 : List Expr} {own : List (Str × Nat)} {tgl tg1 : List Nat} {it it1 : It} (g : Good w ax P wl base n N sc true X) (hb : blkC N sc scope own = true) (htg : ∀ i ∈ tgl, i ∈ own.map (·.2)) (htg1 : ∀ i ∈ tg1, i ∈ own.map (·.2)) (hn : noSetI iter = true) (hn1 : noSetI iter1 = true) (hi : PI X tg iter (tI w ax W o tgl.length it))
    (hg : ∀ Y, blkX X scope Y → PG Y tg (gTg w.K tgl)) (ht : ∀ Y, blkX X scope Y → PTs Y ifs (tT w none WF o cd)) (hi1 : ∀ Y, blkX X scope Y → PI Y tgt1 iter1 (tI w none WF o tg1.length it1)) (hg1 : ∀ Y, blkX X scope Y → PG Y tgt1 (gTg w.K tg1)) (ht1 : ∀ Y, blkX X scope Y → PTs Y ifs1 (tT w none WF o cd1)) (he : ∀ Y, blkX X scope Y → PE Y elt (tE w none WF o e)) (hy : N[i]? = some x) (hyl : sc.names.lookup x = some .local)
    {p0 : Pos} (hsw : swapsWith (.ListComp elt [⟨tg, iter, ifs, 0⟩, ⟨tgt1, iter1, ifs1, 0⟩] scope p0) (some (.Name x p')) pos.line X.env = pure true) : PS X (.Assign [.Name x p'] (.ListComp elt [⟨tg, iter, ifs, 0⟩, ⟨tgt1, iter1, ifs1, 0⟩] scope p0) pos) (tS w ax W o (.asg (.one i) (.lc2 e (own.map (·.2)) tgl it cd tg1 it1 cd1))) := by
  have ea := g.nx rfl
  subst ea
  have hN := g.hN
  have hs := g.hs
  subst hN hs
  refine PS.to (ps_setLc2 (i := i) (g.hc rfl) g.nd hy hyl hsw hi (blkOk_by hb) htg1 (fun s H C cl fp => hg _ ⟨s, H, C, cl, fp, rfl⟩) (fun s H C cl fp => ht _ ⟨s, H, C, cl, fp, rfl⟩) (fun s H C cl fp => hi1 _ ⟨s, H, C, cl, fp, rfl⟩) (fun s H C cl fp => hg1 _ ⟨s, H, C, cl, fp, rfl⟩) (fun s H C cl fp => ht1 _ ⟨s, H, C, cl, fp, rfl⟩) (fun s H C cl fp => he _ ⟨s, H, C, cl, fp, rfl⟩) (fold_ok hn) fun _ => fold_ok hn1) fun D σ H ⟨m, s, h, r, hs, sm, e, p⟩ => ?_
  refine rd_lc2 (Q := fun x H1 => gName i x σ H1 D.nx) htg (sE_of hs sm e p fun x h1 m1 H1 x' e1 l1 s1 rx hs1 p1 => ?_)
  cases e1
  exact p1 m1 H1 _ (Le.refl _) s1 (hs1.set i rx)
theorem st_many {es : List Expr} {k : Nat} {p' : Pos} {tgl : List Nat} (F : Fac w) (hg : PG X (.Tuple es k p') (gTg w.K tgl)) (hsw : swappedStores [.Tuple es k p'] ea X.env = pure none) (hn : noComp ea = true) (ha : PE X ea (tE w ax W o a)) : PS X (.Assign [.Tuple es k p'] ea pos) (tS w ax W o (.asg (.many tgl) a)) := by
  refine PS.to (ps_asg ha hg (no_swap (l := pos.line) (t := some (.Tuple es k p')) (env := X.env) hn) hsw) fun D σ H ⟨m, s, h, r, hs, sm, e, p⟩ => ?_
  refine sE_of hs sm e p fun x h1 m1 H1 x' e1 l1 s1 rx hs1 p1 => ?_
  have e1 : (if tgl.length = 1 then none else (match obj w.G h1 x with | some (.tup xs) => (setT tgl s xs).map fun s1 => Sr.nx s1 h1 | _ => none)) = some r := e1
  split at e1
  · cases e1
  · rename_i hne
    split at e1
    · rename_i xs q
      obtain ⟨s2, q2, rfl⟩ := Option.map_eq_some_iff.mp e1
      refine tg_ok (vs := tgl) hs1 q2 ?_ (fun _ z => z) fun σ1 h2 _ => p1 m1 H1 σ1 (Le.refl _) s1 h2
      unfold ItR
      rw [if_neg hne]
      obtain ⟨pp, ys, q3, q4, q5⟩ := tup_at F.con s1 rx q
      exact ⟨pp, ys, q3, q4, q5⟩
    · cases e1
theorem st_par2 {i j : Nat} {x y : Str} {px py pt : Pos} {kt k2 : Nat} {pt2 : Pos} {as : Exs} (hc : X.calm = true) (hN : X.N.Nodup) (hi : X.N[i]? = some x) (hj : X.N[j]? = some y) (hij : i ≠ j)
    (hx : X.env.scope.names.lookup x = some .local) (hy : X.env.scope.names.lookup y = some .local) (hw : swappedStores [.Tuple [.Name x px, .Name y py] kt pt] (.Tuple [ea, eb] k2 pt2) X.env = pure (some [x, y])) (ha : PA X [ea, eb] (tEs w ax W o as)) :
    PS X (.Assign [.Tuple [.Name x px, .Name y py] kt pt] (.Tuple [ea, eb] k2 pt2) pos) (tS w ax W o (.par [i, j] as)) := by
  refine PS.to (ps_par hc hN hi hj hij hx hy ha hw) fun D σ H ⟨m, s, h, r, hs, sm, e, p⟩ => ?_
  refine sEs_of hs sm e p fun xs h1 m1 H1 ys e1 l1 s1 rx hs1 p1 => ?_
  obtain ⟨s2, q2, rfl⟩ := Option.map_eq_some_iff.mp e1
  match xs, q2 with
  | [u, v], q2 =>
    obtain ⟨u', v', rfl, ru, rv⟩ := rl2 rx
    cases q2
    exact ⟨u', v', rfl, p1 m1 H1 _ (Le.refl _) s1 ((hs1.set i ru).set j rv)⟩
theorem st_par3 {i j l : Nat} {x y z : Str} {px py pz pt : Pos} {kt k2 : Nat} {pt2 : Pos} {as : Exs} (hc : X.calm = true) (hN : X.N.Nodup) (hi : X.N[i]? = some x) (hj : X.N[j]? = some y) (hl : X.N[l]? = some z) (hij : i ≠ j) (hil : i ≠ l) (hjl : j ≠ l)
    (hx : X.env.scope.names.lookup x = some .local) (hy : X.env.scope.names.lookup y = some .local) (hz : X.env.scope.names.lookup z = some .local) (hw : swappedStores [.Tuple [.Name x px, .Name y py, .Name z pz] kt pt] (.Tuple [ea, eb, ec] k2 pt2) X.env = pure (some [x, y, z])) (ha : PA X [ea, eb, ec] (tEs w ax W o as)) :
    PS X (.Assign [.Tuple [.Name x px, .Name y py, .Name z pz] kt pt] (.Tuple [ea, eb, ec] k2 pt2) pos) (tS w ax W o (.par [i, j, l] as)) := by
  refine PS.to (ps_par3 hc hN hi hj hl hij hil hjl hx hy hz ha hw) fun D σ H ⟨m, s, h, r, hs, sm, e, p⟩ => ?_
  refine sEs_of hs sm e p fun xs h1 m1 H1 ys e1 l1 s1 rx hs1 p1 => ?_
  obtain ⟨s2, q2, rfl⟩ := Option.map_eq_some_iff.mp e1
  match xs, q2 with
  | [u, v, t], q2 =>
    cases rx with
    | cons ru rx =>
      obtain ⟨v', t', rfl, rv, rt⟩ := rl2 rx
      cases q2
      exact ⟨_, v', t', rfl, p1 m1 H1 _ (Le.refl _) s1 (((hs1.set i ru).set j rv).set l rt)⟩
/-- what a pair's store does, by its syntax -/
def swA (sc : Scope) (ts vs : List Expr) : Bool := !(ts.length == 2 || ts.length == 3) || vs.length != ts.length || (if sc.kind.isAnnotationScope then ScopeKind.function else sc.kind) != .function
def swB (sc : Scope) (t v : Expr) : Option (Option (List Str)) := match t, v with
  | .Tuple ts _ _, .Tuple vs _ _ =>
    if swA sc ts vs then some none
    else if (vs.any fun | .Starred .. => true | _ => false) then some none
    else
      let line := (ts.head?.map (·.pos.line)).getD 0
      let names := ts.filterMap fun
        | .Name id pos => if sc.names.lookup id == some .local && pos.line == line then some id else none
        | _ => none
      if names.length != ts.length || names.eraseDups.length != names.length then some none
      else if vs.all (foldedForSure 8) then some none
      else if vs.all (constantsAlone 8) then none
      else some (some names)
  | .Tuple _ _ _, _ => some none
  | _, _ => none
theorem sw_ok {t v : Expr} {env : Env} {z : Option (List Str)} (h : swB env.scope t v = some z) : swappedStores [t] v env = pure z := by
  unfold swB at h
  split at h
  · rename_i ts k1 p1 vs k2 p2
    unfold swappedStores
    dsimp only
    split at h
    · rename_i h1
      cases h
      rw [if_pos (by exact h1)]
    · rename_i h1
      rw [if_neg (by exact h1)]
      split at h
      · rename_i h2
        cases h
        rw [if_pos (by exact h2)]
      · rename_i h2
        rw [if_neg (by exact h2)]
        dsimp only at h
        split at h
        · rename_i h3
          cases h
          rw [if_pos (by exact h3)]
        · rename_i h3
          rw [if_neg (by exact h3)]
          split at h
          · rename_i h4
            cases h
            rw [if_pos (by exact h4)]
          · rename_i h4
            rw [if_neg (by exact h4)]
            split at h
            · cases h
            · rename_i h5
              cases h
              rw [if_neg (by exact h5)]
              rfl
  · rename_i hn
    cases h
    cases v <;> first | rfl | exact (hn _ _ _ rfl).elim
  · cases h
theorem RF.put {D : Ad} {v : Vv} {x : V} (r : R D m v x) : ∀ {fs : List (Str × Vv)} {gs : List (Str × V)}, RF D m fs gs → RF D m (Dv.putF f v fs) (L2.putF f x gs)
  | _, _, .nil => .cons ⟨rfl, r⟩ .nil
  | (g, u) :: fs, (g', y) :: gs, .cons ⟨h1, h2⟩ t => by
    dsimp only at h1 h2
    subst h1
    unfold Dv.putF L2.putF
    by_cases hg : g = f
    · rw [if_pos hg, if_pos hg]; exact .cons ⟨rfl, r⟩ t
    · rw [if_neg hg, if_neg hg]; exact .cons ⟨rfl, h2⟩ (RF.put r t)
theorem st_fld {p' : Pos} (C : w.ClsAll) (hK : X.K = w.K) (hn : noComp ea = true) (ho : PE X eb (tE w ax W o b)) (ha : PE X ea (tE w ax W o a)) : PS X (.Assign [.Attribute eb f p'] ea pos) (tS w ax W o (.fld b f a)) := by
  refine PS.to (ps_fld ho ha (no_swap hn)) fun D σ H ⟨m, s, h, r, hs, sm, e, p⟩ => ?_
  refine sE_of hs sm e p fun x h1 m1 H1 x' e1 l1 s1 rx hs1 p1 => ?_
  refine sE_of hs1 s1 e1 p1 fun y h2 m2 H2 y' e2 l2 s2 ry hs2 p2 => ?_
  split at e2
  · rename_i i
    split at e2
    · rename_i cn fs q
      split at e2
      · rename_i hb
        cases e2
        obtain ⟨pp, rfl, hm, dx, gs, k1, k2⟩ := s2.ref ry q
        obtain ⟨kc, c1, c2, c3⟩ := fld_some hb.2
        have CC := C cn kc c1
        refine ⟨pp, _, dx, gs, rfl, k1, by rw [hK]; exact CC.cl c2, by rw [hK]; exact CC.fl f c3, by rw [← k2.length]; omega, ?_⟩
        exact p2 m2 _ σ (Le.refl _) (s2.set (o' := .ins cn (Dv.putF f x fs)) q rfl rfl hm ⟨dx, _, upd_same, RF.put (rx.mono l2) k2⟩) hs2
      · cases e2
    · cases e2
  · cases e2
end
end Dv

set_option linter.all false
set_option autoImplicit false
set_option maxRecDepth 100000
set_option maxHeartbeats 1000000
namespace Dv
open PySem L2 PySem.Spec PyProof.Rows
section
variable {w : Wd} {ax : Ax} {W : WX} {o : Orc} {P : Program} {wl : World} {base : Heap} {n : Nat} {N : List Str} {sc scope : Scope} {cm : Bool} {X : Cx} {a b c : Ex} {ea eb ec tg : Expr} {pos : Pos} {f : Str} {m m1 : Mp} {h : VH} {H : Hp} {s : Sl} {σ : L2.St} {D : Ends} {r : Sr}
theorem st_seti {p' : Pos} (hsl : noSlice ec = true) (hn : noComp ea = true) (ho : PE X eb (tE w ax W o b)) (hi : PE X ec (tE w ax W o c)) (ha : PE X ea (tE w ax W o a)) : PS X (.Assign [.Subscript eb ec p'] ea pos) (tS w ax W o (.seti b c a)) := by
  refine PS.to (ps_asg ha (pg_sub ho hi set_list (ha := fun v => by cases ec <;> first | rfl | cases hsl)) (no_swap (l := pos.line) (t := some (.Subscript eb ec p')) (env := X.env) hn)) fun D σ H ⟨m, s, h, r, hs, sm, e, p⟩ => ?_
  refine sE_of hs sm e p fun x h1 m1 H1 x' e1 l1 s1 rx hs1 p1 => ?_
  refine sE_of hs1 s1 e1 p1 fun y h2 m2 H2 y' e2 l2 s2 ry hs2 p2 => ?_
  refine sE_of hs2 s2 e2 p2 fun z h3 m3 H3 z' e3 l3 s3 rz hs3 p3 => ?_
  split at e3
  · rename_i q k
    split at e3
    · rename_i xs q1
      split at e3
      · rename_i j q2
        cases e3
        obtain ⟨pp, rfl, hm, ys, k1, k2⟩ := s3.ref (ry.mono l3) q1
        cases rz
        refine ⟨pp, ys, k, j, rfl, rfl, k1, by rw [← k2.length]; exact q2, ?_⟩
        exact p3 m3 _ σ (Le.refl _) (s3.set (o' := .lst (xs.set j x)) q1 rfl rfl hm ⟨_, upd_same, Paired.setP ((rx.mono l2).mono l3) j k2⟩) hs3
      · cases e3
    · cases e3
  · cases e3
theorem st_aug {i : Nat} {x : Str} {op : Operator} {p' : Pos} (hN : X.N.Nodup) (hi : X.N[i]? = some x) (hx : Loc X.env.scope x) (hf : X.fn x = true ∨ X.env.scope.names.lookup x = some .local) (hop : op = .Add ∨ op = .Sub) (ha : PE X ea (tE w ax W o a)) : PS X (.AugAssign (.Name x p') op ea pos) (tS w ax W o (.aug i op a)) := by
  have key : ∀ {g : Int → Int → Int}, PIp X op (ipI g) → (∀ p q, (match op, Vv.int p, Vv.int q with | .Add, .int a, .int b => some (a + b) | .Sub, .int a, .int b => some (a - b) | _, _, _ => none) = some (g p q)) → PS X (.AugAssign (.Name x p') op ea pos) (tS w ax W o (.aug i op a)) := fun {g} hp hg => by
    refine PS.to (ps_aug hN hi hx ha hp hf) fun D σ H ⟨m, s, h, r, hs, sm, e, p⟩ => ?_
    simp only [evS] at e
    split at e
    · rename_i u q
      obtain ⟨u', h1, h2⟩ := hs.get q
      refine ⟨u', h1, sE_of hs sm e p fun y h1 m1 H1 y' e1 l1 s1 ry hs1 p1 => ?_⟩
      have h2' := h2.mono l1
      split at e1
      · rename_i j k _
        cases e1
        cases h2'
        cases ry
        refine ⟨j, k, rfl, rfl, ?_⟩
        have e5 := Option.some.inj (hg j k)
        rw [← e5]
        exact p1 m1 H1 _ (Le.refl _) s1 (hs1.set i rfl)
      · rename_i j k _
        cases e1
        cases h2'
        cases ry
        refine ⟨j, k, rfl, rfl, ?_⟩
        have e5 := Option.some.inj (hg j k)
        rw [← e5]
        exact p1 m1 H1 _ (Le.refl _) s1 (hs1.set i rfl)
      · cases e1
    · cases e
  rcases hop with rfl | rfl
  · exact key ip_add fun _ _ => rfl
  · exact key ip_sub fun _ _ => rfl
theorem st_augf {p' : Pos} (C : w.ClsAll) (hK : X.K = w.K) (ho : PE X eb (tE w ax W o b)) (ha : PE X ea (tE w ax W o a)) : PS X (.AugAssign (.Attribute eb f p') .Add ea pos) (tS w ax W o (.augf b f .Add a)) := by
  refine PS.to (ps_fldaug ho ha in_add) fun D σ H ⟨m, s, h, r, hs, sm, e, p⟩ => ?_
  refine sE_of hs sm e p fun x h1 m1 H1 x' e1 l1 s1 rx hs1 p1 => ?_
  split at e1
  · rename_i i
    split at e1
    · rename_i cn fs q
      split at e1
      · rename_i hb
        split at e1
        · rename_i v q2
          obtain ⟨pp, rfl, hm, dx, gs, k1, k2⟩ := s1.ref rx q
          obtain ⟨kc, c1, c2, c3⟩ := fld_some hb
          have CC := C cn kc c1
          obtain ⟨y, k3, k4⟩ := RF.lookup k2 q2
          refine ⟨pp, _, dx, gs, y, rfl, k1, by rw [hK]; exact CC.cl c2, by rw [hK]; exact CC.fl f c3, k3, ?_⟩
          refine sE_of hs1 s1 e1 p1 fun z h2 m2 H2 z' e2 l2 s2 rz hs2 p2 => ?_
          split at e2
          · rename_i j k c2' fs2 _ q3
            split at e2
            · rename_i hb2
              cases e2
              obtain ⟨hb3, rfl⟩ := hb2
              cases k4.mono l2
              cases rz
              obtain ⟨pp2, e5, hm2, dx2, gs2, k5, k6⟩ := s2.ref (rx.mono l2) q3
              cases e5
              refine ⟨j, k, rfl, rfl, dx2, gs2, k5, by rw [← k6.length]; omega, ?_⟩
              exact p2 m2 _ σ (Le.refl _) (s2.set (o' := .ins c2' (Dv.putF f (.int (j + k)) fs2)) q3 rfl rfl hm2 ⟨dx2, _, upd_same, RF.put (show R w.D m2 (.int (j + k)) (.int (j + k)) from rfl) k6⟩) hs2
            · cases e2
          · cases e2
        · cases e1
      · cases e1
    · cases e1
  · cases e1
theorem st_whl {t : Tt} {body : List Stmt} {b : St} (hp : PassesOwn (model X.prog X.w) X.A X.env X.xe) (hc : PT X ec (tT w ax W o t)) (hb : PSs X body (tS w ax W o b)) : PS X (.While ec body [] pos) (tS w ax W o (.whl t b)) := by
  refine PS.to (ps_while hp hc hb) fun D σ H ⟨m, s, h, r, hs, sm, e, p⟩ => ?_
  refine ⟨fun k σ H => ∃ m s h, SlR w.D m s σ ∧ SimW w ax m h H ∧ whlF (evT w.G o t) (evS w.G o b) k s h = some r ∧ PSr w ax W m D r, ⟨turns, m, s, h, hs, sm, e, p⟩, ?_⟩
  rintro k σ1 H1 ⟨m1, s1, h1, hs1, sm1, e1, p1⟩
  cases k with
  | zero => cases e1
  | succ k =>
    unfold whlF at e1
    refine sT_of hs1 sm1 e1 p1 fun v h2 m2 H2 e2 l2 sm2 hs2 p2 => ?_
    cases v with
    | true =>
      rw [if_pos rfl]
      refine ⟨fun σ H => ∃ m s h, SlR w.D m s σ ∧ SimW w ax m h H ∧ whlF (evT w.G o t) (evS w.G o b) k s h = some r ∧ PSr w ax W m D r, fun σ' H' q => ⟨k, Nat.lt_succ_self k, q⟩, ?_⟩
      dsimp only at e2
      cases q : evS w.G o b s1 h2 with
      | none => rw [q] at e2; cases e2
      | some r0 =>
        rw [q] at e2
        refine ⟨m2, s1, h2, r0, hs2, sm2, q, ?_⟩
        cases r0 with
        | nx s3 h3 => exact fun m' H' σ' l sm' hs' => ⟨m', s3, h3, hs', sm', e2, p2.mono l⟩
        | ct s3 h3 => exact fun m' H' σ' l sm' hs' => ⟨m', s3, h3, hs', sm', e2, p2.mono l⟩
        | bk s3 h3 => cases e2; exact p2
        | rt v h3 => cases e2; exact p2
        | ex x s3 h3 => cases e2; exact p2
    | false =>
      rw [if_neg Bool.false_ne_true]
      cases e2
      exact p2 m2 H2 σ1 (Le.refl _) sm2 hs2
theorem st_for {it : It} {iter : Expr} {body : List Stmt} {b : St} {tgl : List Nat} (hp : PassesOwn (model X.prog X.w) X.A X.env X.xe) (hc : X.calm = true) (hn : noSetI iter = true) (hi : PI X tg iter (tI w ax W o tgl.length it)) (hg : PG X tg (gTg w.K tgl)) (hb : PSs X body (tS w ax W o b)) : PS X (.For tg iter body [] pos) (tS w ax W o (.for_ tgl it b)) := by
  refine PS.to (ps_for hp hc hi hg hb (fold_ok hn)) fun D σ H ⟨m, s, h, r, hs, sm, e, p⟩ => ?_
  refine sI_of hs sm e p fun S h1 m1 H1 J e1 l1 s1 jo hs1 p1 => ?_
  refine ⟨fun i k σ H => k = S.items.length - i ∧ i ≤ S.items.length ∧ ∃ m s h, Le m1 m ∧ SlR w.D m s σ ∧ SimW w ax m h H ∧ forF (evS w.G o b) tgl (keeps w.G S) (S.items.drop i) s h = some r ∧ PSr w ax W m D r, ⟨_, rfl, Nat.zero_le _, m1, s, h1, Le.refl _, hs1, s1, e1, p1⟩, ?_⟩
  rintro i k σ2 H2 ⟨rfl, hile, m2, sl2, h2, l2, hs2, s2, e2, p2⟩
  by_cases hlt : i < S.items.length
  · rw [List.drop_eq_getElem_cons hlt] at e2
    generalize hit : S.items[i] = itm at e2
    have hit : S.items[i]? = some itm := by rw [List.getElem?_eq_getElem hlt, hit]
    unfold forF at e2
    split at e2
    · rename_i kp
      split at e2
      · rename_i sl1 q1
        refine .inr ⟨jo.go i m2 h2 H2 l2 s2 kp hlt, fun σ H3 => ∃ m s h, Le m1 m ∧ SlR w.D m s σ ∧ SimW w ax m h H3 ∧ forF (evS w.G o b) tgl (keeps w.G S) (S.items.drop (i + 1)) s h = some r ∧ PSr w ax W m D r,
          fun σ' H3 q3 => ⟨S.items.length - (i + 1), by omega, rfl, hlt, q3⟩, fun x H3 y => ?_⟩
        obtain ⟨s3, ir⟩ := jo.yld i m2 h2 H2 x H3 itm l2 s2 kp hit y
        refine tg_ok (vs := tgl) hs2 q1 ir (fun _ z => z) fun σ3 hs3 _ => ?_
        cases q : evS w.G o b sl1 h2 with
        | none => rw [q] at e2; cases e2
        | some r0 =>
          rw [q] at e2
          refine ⟨m2, sl1, h2, r0, hs3, s3, q, ?_⟩
          cases r0 with
          | nx s4 h4 => exact fun m' H' σ' l sm' hs' => ⟨m', s4, h4, l2.trans l, hs', sm', e2, p2.mono l⟩
          | ct s4 h4 => exact fun m' H' σ' l sm' hs' => ⟨m', s4, h4, l2.trans l, hs', sm', e2, p2.mono l⟩
          | bk s4 h4 => cases e2; exact p2
          | rt v h4 => cases e2; exact p2
          | ex x s4 h4 => cases e2; exact p2
      · cases e2
    · cases e2
  · have he : i = S.items.length := by omega
    subst he
    rw [List.drop_length] at e2
    unfold forF at e2
    split at e2
    · rename_i kp
      cases e2
      exact .inl ⟨jo.stop _ m2 h2 H2 l2 s2 kp (Nat.le_refl _), p2 m2 H2 σ2 (Le.refl _) s2 hs2⟩
    · cases e2
end
end Dv

set_option linter.all false
set_option autoImplicit false
set_option maxRecDepth 100000
set_option maxHeartbeats 2000000
namespace Dv
open PySem PySem.W PySem.Calls PyProof.Rows PySem.HandSPX L2
def ownArgs (f : Option Str) (p : Nat → Pos) : Arguments := { posonlyargs := [], args := { arg := "self", annotation := none, pos := p 10 } :: (match f with | none => [] | some x => [{ arg := x, annotation := none, pos := p 11 }]), vararg := none, kwonlyargs := [], kw_defaults := [], kwarg := none, defaults := [] }
def supLine (txt : Str) (k : Nat) (p : Nat → Pos) : Stmt := .Expr (.Call (.Attribute (.Call (.Name "super" (p 0)) [] [] (p 1)) "__init__" (p 2)) [.Constant (.str txt) k (p 3)] [] (p 4)) (p 5)
def ownBody (txt : Str) (k : Nat) (f : Option Str) (p : Nat → Pos) : List Stmt := supLine txt k p :: (match f with | none => [] | some x => [.Assign [.Attribute (.Name "self" (p 6)) x (p 7)] (.Name x (p 8)) (p 9)])
def ownScope (f : Option Str) : Scope := { kind := .function, names := (PySem.Str.ofString "self", .local) :: (match f with | none => [] | some x => [(x, .local)]) ++ [(PySem.Str.ofString "__class__", .free), (PySem.Str.ofString "super", .globalImplicit)], isGenerator := false, isCoroutine := false, more := [] }
/-- what the written part says of such a class, at C, and of its __init__, at fI; ctor: the class's field, if there is one -/
structure OwnTx (prog : Program) (K : Frag) (C fI : Addr) (f : Option Str) : Prop where
  cls : ∃ nm q N bs bm sn sub ab col dd k0 k1 k2 k3 k5, K.lookup C = some (excClassObj nm q C N bs bm true sn sub ab col dd k0 k1 k2 k3 k5 "ValueError.__new__") ∧ refsVE bm = true
  sa : findIn K (.ref C) "__setattr__" = some (some (.builtin "object.__setattr__"))
  iC : findIn K (.ref C) "__init__" = some (some (.ref fI))
  tC : typeIn K (.ref fI) = some (.type "function")
  kC : keepIn K (.ref C) = true
  exC : subIn K (.ref C) (.type "BaseException") = some true
  tyC : typeIn K (.ref C) = some (.type "type")
  hdC : hasDictIn K C = true
  sup : ks_superIn K C C "__init__" = some (some (.builtin "ValueError.__init__"))
  isB : subIn K (.ref C) (.type "ValueError") = some true
  slf : mroIn K C (.ref C) = some true
  opq : nsIn K cStatics "thirdparty.any" = some none
  top : (prog.main.scope.names.lookup ("super" : Str)).isSome = false
  noF : ∀ x, f = some x → findIn K (.ref C) x = some none ∧ (x == ("__debug__" : Str)) = false ∧ (ownScope f).names.lookup x = some .local ∧ x ≠ ("self" : Str)
  sc : (ownScope f).names.lookup ("super" : Str) = some .globalImplicit ∧ (ownScope f).names.lookup ("__class__" : Str) = some .free ∧ (ownScope f).names.lookup ("self" : Str) = some .local ∧ (∀ x ∈ (ownScope f).names, x.2 ≠ .cell)
  fn : ∃ (oc : Value) (od : Option Addr) (qual : Str) (doc pm : Value) (an : Option Addr) (cda : Addr) (ct : Value) (cc : Addr) (osl : Array (Option Value)) (txt : Str) (k : Nat) (p : Nat → Pos)
    (ccl cl : Value) (cdd cld : Option Addr) (ccs csl : Array (Option Value)) (vs : Array Value) (file : Str) (tf : Tok),
    K.lookup fI = some ⟨oc, od, .func (ksFn "__init__" qual (ownArgs f p) (ownBody txt k f p) (ownScope f) .none .none doc pm an (.ref cda) ct cc), osl⟩ ∧ codeIn K (.ref cda) qual = true ∧ (∀ fld, f = some fld → ∀ u v : Value, bindArgs (ksFn "__init__" qual (ownArgs f p) (ownBody txt k f p) (ownScope f) .none .none doc pm an (.ref cda) ct cc) ⟨[u, v], []⟩ = pure [(("self" : Str), u), (fld, v)]) ∧
    ((p 2).endLine == (p 4).line) = true ∧ K.lookup cda = some ⟨ccl, cdd, .fields vs, ccs⟩ ∧ vs[2]? = some (.str file tf) ∧ ((prog.main.file : Str) == file) = true ∧ K.lookup cc = some ⟨cl, cld, .cell (some (.ref C)), csl⟩
theorem bind_cong {α β : Type} {x : Sem α} {f g : α → Sem β} (h : ∀ a, f a = g a) : (x >>= f) = (x >>= g) := congrArg _ (funext h)
section
variable {prog : Program} {w : World} {A : Around} {E : Value → Shared → Prop} {R : Result → Shared → Prop} {s : Shared} {K : Frag} {mg mb : Str → Option Value} {C fI : Addr} {f : Option Str}
/-- the bound __init__ of the base called -/
theorem mw_call {t u x : Addr} {rest : List Value} {Q : Value → Shared → Prop} {h : Heap} {g : Array GenState} {d : Drawn} {tk : Nat} {os : OsState} {nm q : Str} {N : Addr} {bs bm : List Value} {hdct : Bool} {sn : List Str} {sub : List Value} {ab : Bool} {col : Option Bool} {dd : Option Addr} {k0 k1 k2 k3 k5 : Option Value}
    (hC : h.get? C = some (excClassObj nm q C N bs bm hdct sn sub ab col dd k0 k1 k2 k3 k5 "ValueError.__new__")) (hu : h.get? u = some (kxs_mw "ValueError.__init__" x)) (he : h.get? x = some (excO C t)) (hz : rest.length ≤ sizeLine)
    (hq : ∀ h' t', (∀ b o, b ≠ x → h.get? b = some o → h'.get? b = some o) → h'.get? x = some (excO C t') → Q .none ⟨h', g, d, tk, os⟩) : wpAny (model prog w) A (call (.ref u) rest) Q E ⟨h, g, d, tk, os⟩ := by
  have FB := PySem.F.excBase_ValueError
  refine wpAny_call (codeAny_of_tree ?_)
  show wpAny _ A.in1 (callAny (.ref u) ⟨rest, []⟩) _ _ _
  simp only [callAny]
  refine wpAny_bind (wpAny_load hu ?_)
  simp only [kxs_mw, show (Value.type "method-wrapper" == Value.type "method" || Value.type "method-wrapper" == Value.type "builtin_function_or_method" || Value.type "method-wrapper" == Value.type "method-wrapper") = true by decide, if_true]
  refine KFB.if_so (by decide) ?_
  refine wpAny_bind (check_bound_init FB.toExcCallFacts hC he rfl ?_)
  refine wpAny_bind (wpAny_pure (wpAny_pure ?_))
  refine ⟨plainId_quiet FB.init.plain _, codeAny_builtin FB.initEntry ?_⟩
  exact exc_init_tree (cls := .ref C) (t0 := t) (dv := none) (c2 := .none) (c3 := .none) (b4 := .bool false) he hz fun h' k1 k2 _ => hq h' _ k1 k2
theorem sup_line (T : OwnTx prog K C fI f) {qual : Str} {cda cc x t0 L : Addr} {txt : Str} {k : Nat} {p : Nat → Pos} {oc ccl cl : Value} {od cdd cld : Option Addr} {osl ccs csl : Array (Option Value)} {fd : FuncData} {vs : Array Value} {file : Str} {tf : Tok} {body : List Stmt} {m : Str → Option Value} {Q : Flow → Shared → Prop}
    (hl : ((p 2).endLine == (p 4).line) = true) (hf : K.lookup fI = some ⟨oc, od, .func fd, osl⟩) (hp : (fd.params.posonlyargs ++ fd.params.args).head?.map (·.arg) = some ("self" : Str)) (hcode : K.lookup cda = some ⟨ccl, cdd, .fields vs, ccs⟩) (hvs : vs[2]? = some (.str file tf)) (hfile : ((prog.main.file : Str) == file) = true) (hcell : K.lookup cc = some ⟨cl, cld, .cell (some (.ref C)), csl⟩)
    (X : K.In s.heap) (hn : s.heap.Ns L m) (hm : m "self" = some (.ref x)) (hx : s.heap.get? x = some (excO C t0)) (hG : s.heap.Ns mainGlobals mg) (hG2 : mg "super" = none) (hB : s.heap.Ns builtinsNs mb) (hB2 : mb "super" = some (.type "super"))
    (hq : ∀ h' tk t', (∀ b o, b ≠ x → s.heap.get? b = some o → h'.get? b = some o) → h'.get? x = some (excO C t') → Q .next { s with heap := h', toks := tk }) :
    _root_.PySem.wpAt (model prog w) A (.func body (ksEnv qual (ownScope f) L fI (.ref cda) cc)) (exec (supLine txt k p) (ksEnv qual (ownScope f) L fI (.ref cda) cc)) Q E s := by
  obtain ⟨nm, q, N, bs, bm, sn, sub, ab, col, dd, k0, k1, k2, k3, k5, hC, hbm⟩ := T.cls
  obtain ⟨hks, hkc, hka, _⟩ := T.sc
  have hcd : clsIn K C = some { name := nm, bases := bs, mro := .ref C :: bm, ns := N, qualname := q, hasDict := true, slotNames := sn, subclasses := sub, abstract := ab, collection := col, hasDel := false } := by unfold clsIn; rw [hC] <;> rfl
  obtain ⟨ar, ha1, ha2⟩ := Option.map_eq_some_iff.mp hp
  have ha2 : ar.arg = ("self" : Str) := ha2
  obtain ⟨hh, g, d, t, os⟩ := s
  have I : InstAt hh x (excO C t0) C none := ⟨hx, rfl, rfl, trivial⟩
  have hkf : (ownScope f).kind = .function := rfl
  refine ks_wpAt_Expr_any ?_
  refine ks_wpAt_MethodCall (pl := plainOf (.Call (.Name "super" (p 0)) [] [] (p 1)) (ksEnv qual (ownScope f) L fI (.ref cda) cc)) ?_ (by
    rw [show eval (.Call (.Attribute (.Call (.Name "super" (p 0)) [] [] (p 1)) "__init__" (p 2)) [.Constant (.str txt) k (p 3)] [] (p 4)) (ksEnv qual (ownScope f) L fI (.ref cda) cc) = (do
      let ov ← attributeBase (.Call (.Name "super" (p 0)) [] [] (p 1)) "__init__" (ksEnv qual (ownScope f) L fI (.ref cda) cc) (eval (.Call (.Name "super" (p 0)) [] [] (p 1)) (ksEnv qual (ownScope f) L fI (.ref cda) cc))
      standAt (p 2).atName
      methodCall (.Call (.Name "super" (p 0)) [] [] (p 1)) "__init__" (p 2) (p 4) (ksEnv qual (ownScope f) L fI (.ref cda) cc) ov ([Expr.Constant (.str txt) k (p 3)].length + ([] : List Keyword).length) (backTo (p 4) (starEach [Expr.Constant (.str txt) k (p 3)] (ksEnv qual (ownScope f) L fI (.ref cda) cc))) (backToKw (p 4) (keywordEach [] (ksEnv qual (ownScope f) L fI (.ref cda) cc)))) from rfl]
    exact bind_cong fun ov => bind_cong fun _ => mcall_line rfl hl)
  refine ks_wpAt_super_base (env := ksEnv qual (ownScope f) L fI (.ref cda) cc) hks hkc (by decide) rfl (X _ _ hf) rfl ha1 rfl (X _ _ hcode) rfl hvs hfile T.top ?_
  refine ks_loadName_global hkf hks (loadGlobal_builtin (env := ksEnv qual (ownScope f) L fI (.ref cda) cc) hG hG2 hB hB2 ⟨rfl, ?_⟩)
  refine wpAny_loadName_free hkf hkc rfl ⟨_, X _ _ hcell, rfl⟩ ?_
  rw [ha2]
  refine wpAny_loadName_local hkf hka hn hm ?_
  refine ks_wpAny_isType_cls (X _ _ hC) rfl ⟨rfl, ?_⟩
  refine ks_wpAny_call_super (X _ _ hC) rfl I.at_ I.cls (fun c e => by cases e) (looks_mroIn X T.slf) (fun h2 e2 k2' => ?_)
  have X2 : K.In h2 := X.keeps k2'
  have hI : Looks (model prog w) h2 (isInstance (.ref x) (.type "ValueError")) true := (show InstAt h2 x (excO C t0) C none from ⟨k2' _ _ hx, rfl, rfl, trivial⟩).type.andThen (looks_subIn X2 T.isB)
  have hm' := T.sup
  unfold ks_superIn at hm'
  rw [hcd] at hm'
  refine kxs_getMethod kxs_ValueError e2 (looks_opaque X2 T.opq) (l₀ := .ref C :: bm) ?_ rfl X2 hm' hI (ks_ne X I hcd) (by decide) ?_
  · exact fun A Q E s k q => wpAny_bind ((looks_clsIn X2 hcd) A _ E s k (wpAny_pure q))
  have k3' : ∀ b o, h2.get? b = some o → (h2.push (kxs_mw "ValueError.__init__" x)).get? b = some o := fun b o e => Heap.get?_push_of_some _ e
  have hu : (h2.push (kxs_mw "ValueError.__init__" x)).get? h2.objs.size = some (kxs_mw "ValueError.__init__" x) := Heap.get?_push_at rfl rfl
  refine kxs_callWith (i := "ValueError.__init__") (x := x) rfl (evalArgs_plain ?_)
  show wpAny _ _ (spliced [(false, eval (.Constant (.str txt) k (p 3)) (ksEnv qual (ownScope f) L fI (.ref cda) cc))]) _ _ _
  refine spliced_cons (Calls.Constant_str (spliced_nil ⟨hu, ?_⟩))
  refine mw_call (t := t0) (X.keeps (fun b o e => k3' b o (k2' b o e)) _ _ hC) hu (k3' _ _ (k2' _ _ hx)) (by show 1 ≤ sizeLine; rw [sizeLine_eq]; decide) fun h4 t4 k4 hx4 => ?_
  exact hq h4 _ t4 (fun b o hb e => k4 b o hb (k3' b o (k2' b o e))) hx4
/-- what __init__ leaves of a fresh error at x: its args laid anew, its dict, if it has a field -/
structure IniEnd (h h' : Heap) (x C dx t1 : Addr) (fld : Str) (v : Value) : Prop where
  keep : ∀ b o, b ≠ x → h.get? b = some o → h'.get? b = some o
  obj : h'.get? x = some { cls := .ref C, dict := some dx, data := .fields #[.ref t1, .none, .none, .none, .bool false, .none] }
  dbig : h.objs.size ≤ dx
  dne : dx ≠ x
  ns : h'.Ns1 dx (fun y => if y = fld then some v else none)
theorem kept_x {h h' : Heap} {x : Addr} (X : K.In h) (hx : K.lookup x = none) (k : ∀ b o, b ≠ x → h.get? b = some o → h'.get? b = some o) : K.In h' := fun a o e =>
  k a o (fun z => by rw [z, hx] at e; cases e) (X a o e)
theorem own_init1 {fld : Str} (T : OwnTx prog K C fI (some fld)) {x t0 : Addr} {v : Value} (X : K.In s.heap) (hlim : s.heap.NoLimit) (hx : s.heap.get? x = some (excO C t0)) (hnx : K.lookup x = none) (hroom : A.depth < recursionLimit)
    (hG : s.heap.Ns mainGlobals mg) (hG2 : mg "super" = none) (hB : s.heap.Ns builtinsNs mb) (hB2 : mb "super" = some (.type "super"))
    (hq : ∀ h' tk dx t1, IniEnd s.heap h' x C dx t1 fld v → R (.ok (.ret .none)) { s with heap := h', toks := tk }) :
    codeAny (model prog w) A (.call (.ref fI) ⟨[.ref x, v], []⟩) R s := by
  obtain ⟨oc, od, qual, doc, pm, an, cda, ct, cc, osl, txt, k, p, ccl, cl, cdd, cld, ccs, csl, vs, file, tf, ho, hcd, hbi, hl, hcode, hvs, hfile, hcell⟩ := T.fn
  obtain ⟨nm, q, N, bs, bm, sn, sub, ab, col, dd, k0, k1, k2, k3, k5, hC, hbm⟩ := T.cls
  have hcl : clsIn K C = some { name := nm, bases := bs, mro := .ref C :: bm, ns := N, qualname := q, hasDict := true, slotNames := sn, subclasses := sub, abstract := ab, collection := col, hasDel := false } := by unfold clsIn; rw [hC] <;> rfl
  obtain ⟨hno, hdb, hloc, hne⟩ := T.noF fld rfl
  obtain ⟨_, _, hself, hnc⟩ := T.sc
  refine ks_codeAny_call_defAt (fd := ksFn "__init__" qual (ownArgs (some fld) p) (ownBody txt k (some fld) p) (ownScope (some fld)) .none .none doc pm an (.ref cda) ct cc) (body := ownBody txt k (some fld) p) (binds := [("self", .ref x), (fld, v)]) hroom (X _ _ ho) rfl hlim (codeRec_of X hcd) rfl
    (BindsTo.of_eq (hbi fld rfl _ _)) hnc (fun y hy => ?_) (fun h₁ hn k₁ => ?_) rfl rfl rfl
  · rcases List.mem_cons.mp hy with rfl | hy
    · exact hself
    · rcases List.mem_cons.mp hy with rfl | hy
      · exact hloc
      · cases hy
  have hxL : s.heap.objs.size ≠ x := Nat.ne_of_gt (Heap.lt_size hx)
  have hx₁ := k₁ _ _ hx
  have hs : (fun y => ([("self", Value.ref x), (fld, v)] : List (Str × Value)).reverse.lookup y) "self" = some (.ref x) := by
    show List.lookup ("self" : Str) [(fld, v), ("self", .ref x)] = _
    rw [List.lookup_cons]
    have : (("self" : Str) == fld) = false := by simpa using Ne.symm hne
    rw [this]
    rfl
  have hv : (fun y => ([("self", Value.ref x), (fld, v)] : List (Str × Value)).reverse.lookup y) fld = some v := by
    show List.lookup fld [(fld, v), ("self", .ref x)] = _
    rw [List.lookup_cons]
    have : (fld == fld) = true := by simp
    rw [this]
  refine ks_wpAt_execs_cons (sup_line T (s := { s with heap := h₁, toks := _ }) hl ho rfl hcode hvs hfile hcell (X.keeps k₁) hn hs hx₁ (hG.keeps k₁) hG2 (hB.keeps k₁) hB2 fun h₂ tk₂ t₁ k₂ hx₂ => ?_)
  have hn₂ : h₂.Ns s.heap.objs.size (fun y => ([("self", Value.ref x), (fld, v)] : List (Str × Value)).reverse.lookup y) := by
    obtain ⟨oL, es, ep, hL, r⟩ := hn
    exact ⟨oL, es, ep, k₂ _ _ hxL hL, r⟩
  have X₂ : K.In h₂ := kept_x (X.keeps k₁) hnx k₂
  refine wpAt_of_wpAny ?_
  show wpAny _ _ (execs [.Assign [.Attribute (.Name "self" (p 6)) fld (p 7)] (.Name fld (p 8)) (p 9)] (ksEnv qual (ownScope (some fld)) s.heap.objs.size fI (.ref cda) cc)) _ _ _
  refine wpAny_execs_cons (plainObj_wpAny_Assign_Attribute ?_)
  refine wpAny_Name (wpAny_loadName_local (show (ownScope (some fld)).kind = .function from rfl) hloc hn₂ hv (wpAny_Name (wpAny_loadName_local (show (ownScope (some fld)).kind = .function from rfl) hself hn₂ hs ?_) (by decide))) hdb
  refine set_plain X₂ (ox := excO C t₁) (od := none) ⟨hx₂, rfl, rfl, trivial⟩ T.sa ?_
  refine exc_osa X₂ hx₂ hcl (show refsVE (.ref C :: bm) = true from hbm) rfl hno (fun h₃ tk₃ dx k₃ dn dne hx₃ hn₃ => ?_)
  show wpAny _ _ (execs _ _) _ _ _
  have z : s.heap.objs.size < h₂.objs.size := hn₂.lt
  exact wpAny_execs_nil (hq h₃ tk₃ dx t₁ ⟨fun b o hb e => k₃ b o hb (k₂ b o hb (k₁ b o e)), hx₃, Nat.le_of_lt (Nat.lt_of_lt_of_le z dn), dne, hn₃⟩)
theorem own_init0 (T : OwnTx prog K C fI none) {x t0 : Addr} (X : K.In s.heap) (hlim : s.heap.NoLimit) (hx : s.heap.get? x = some (excO C t0)) (hroom : A.depth < recursionLimit)
    (hG : s.heap.Ns mainGlobals mg) (hG2 : mg "super" = none) (hB : s.heap.Ns builtinsNs mb) (hB2 : mb "super" = some (.type "super"))
    (hq : ∀ h' tk t1, (∀ b o, b ≠ x → s.heap.get? b = some o → h'.get? b = some o) → h'.get? x = some (excO C t1) → R (.ok (.ret .none)) { s with heap := h', toks := tk }) :
    codeAny (model prog w) A (.call (.ref fI) ⟨[.ref x], []⟩) R s := by
  obtain ⟨oc, od, qual, doc, pm, an, cda, ct, cc, osl, txt, k, p, ccl, cl, cdd, cld, ccs, csl, vs, file, tf, ho, hcd, hbi, hl, hcode, hvs, hfile, hcell⟩ := T.fn
  obtain ⟨_, _, hself, hnc⟩ := T.sc
  refine ks_codeAny_call_defAt (fd := ksFn "__init__" qual (ownArgs none p) (ownBody txt k none p) (ownScope none) .none .none doc pm an (.ref cda) ct cc) (body := ownBody txt k none p) (binds := [("self", .ref x)]) hroom (X _ _ ho) rfl hlim (codeRec_of X hcd) rfl
    (BindsTo.of_eq (by first | rfl | with_unfolding_all rfl)) hnc (fun y hy => ?_) (fun h₁ hn k₁ => ?_) rfl rfl rfl
  · rcases List.mem_cons.mp hy with rfl | hy
    · exact hself
    · cases hy
  refine ks_wpAt_execs_cons (sup_line T (s := { s with heap := h₁, toks := _ }) hl ho rfl hcode hvs hfile hcell (X.keeps k₁) hn rfl (k₁ _ _ hx) (hG.keeps k₁) hG2 (hB.keeps k₁) hB2 fun h₂ tk₂ t₁ k₂ hx₂ => ?_)
  refine wpAt_of_wpAny ?_
  show wpAny _ _ (execs [] _) _ _ _
  exact wpAny_execs_nil (hq h₂ tk₂ t₁ (fun b o hb e => k₂ b o hb (k₁ b o e)) hx₂)
end
end Dv

set_option linter.all false
set_option autoImplicit false
set_option maxRecDepth 100000
set_option maxHeartbeats 2000000
namespace Dv
open PySem PySem.W PySem.Calls PyProof.Rows PySem.HandSPX L2
/-- an own error just made -/
structure ErrMade (h h' : Heap) (e C d : Addr) (fld : Str) (v : Value) : Prop where
  keep : ∀ b o, h.get? b = some o → h'.get? b = some o
  new : h.objs.size ≤ e
  obj : ∃ oe vs, h'.get? e = some oe ∧ oe.cls = .ref C ∧ oe.dict = some d ∧ oe.data = .fields vs ∧ vs[1]? = some .none
  dbig : h.objs.size ≤ d
  dne : d ≠ e
  ns : h'.Ns1 d (fun y => if y = fld then some v else none)
section
variable {prog : Program} {w : World} {A : Around} {E : Value → Shared → Prop} {R : Result → Shared → Prop} {s : Shared} {K : Frag} {mg mb : Str → Option Value} {C fI : Addr} {fld : Str}
theorem own_made1 (T : OwnTx prog K C fI (some fld)) {v : Value} (X : K.In s.heap) (hlim : s.heap.NoLimit) (hroom : A.depth + 1 < recursionLimit)
    (hG : s.heap.Ns mainGlobals mg) (hG2 : mg "super" = none) (hB : s.heap.Ns builtinsNs mb) (hB2 : mb "super" = some (.type "super"))
    (hq : ∀ h' tk e d, ErrMade s.heap h' e C d fld v → R (.ok (.ret (.ref e))) { s with heap := h', toks := tk }) :
    codeAny (model prog w) A (.call (.ref C) ⟨[v], []⟩) R s := by
  obtain ⟨nm, q, N, bs, bm, sn, sub, ab, col, dd, k0, k1, k2, k3, k5, hC, hbm⟩ := T.cls
  obtain ⟨hp, g, dr, tk, os⟩ := s
  have k : ∀ b o, hp.get? b = some o → ((hp.push (kdv_tup [v])).push (excO C hp.objs.size)).get? b = some o := fun b o e => Heap.get?_push_of_some _ (Heap.get?_push_of_some _ e)
  have hget : ((hp.push (kdv_tup [v])).push (excO C hp.objs.size)).get? (hp.objs.size + 1) = some (excO C hp.objs.size) := by heap_get
  have hnx : K.lookup (hp.objs.size + 1) = none := by
    cases e : K.lookup (hp.objs.size + 1) with
    | none => rfl
    | some o => exact absurd (Nat.lt_of_succ_lt (Heap.lt_size (X _ _ e))) (Nat.lt_irrefl _)
  have hz : [v].length ≤ sizeLine := by show 1 ≤ sizeLine; rw [sizeLine_eq]; decide
  refine call_own PySem.F.excBase_ValueError (fun Y => refsVE_contains Y bm hbm) (X _ _ hC) (looks_findIn X T.iC) (fun self => bind_fn X self T.tC) hz ?_
  refine own_init1 (mg := mg) (mb := mb) (s := ⟨(hp.push (kdv_tup [v])).push (excO C hp.objs.size), g, dr, tk, os⟩) T (X.keeps k) (hlim.keeps k) hget hnx ?_ (hG.keeps k) hG2 (hB.keeps k) hB2 fun h' tk' dx t1 M => ?_
  · show A.depth + 1 < recursionLimit
    exact hroom
  · have old : ∀ b o, hp.get? b = some o → h'.get? b = some o := fun b o e => M.keep b o (Nat.ne_of_lt (Nat.lt_succ_of_lt (Heap.lt_size e))) (k b o e)
    have z : hp.objs.size + 1 + 1 ≤ dx := by
      have q := M.dbig
      first
        | exact q
        | (simpa only [Heap.size_push] using q)
    exact ⟨rfl, hq h' tk' (hp.objs.size + 1) dx ⟨old, Nat.le_succ _, ⟨_, _, M.obj, rfl, rfl, rfl, rfl⟩, Nat.le_trans (Nat.le_trans (Nat.le_succ _) (Nat.le_succ _)) z, M.dne, M.ns⟩⟩
end
theorem relO_fld {x : V} {v' : Value} (r : RelV x v') (fld f : Str) : RelO (List.lookup f [(fld, x)]) (if f = fld then some v' else none) := by
  rw [List.lookup_cons]
  by_cases hw : f = fld
  · subst hw
    rw [if_pos rfl]
    have : (f == f) = true := by simp
    rw [this]
    exact r
  · rw [if_neg hw]
    have : (f == fld) = false := by simpa using hw
    rw [this]
    trivial
/-- C(e) -/
def tMkOwn (C : Addr) (fld : Str) (ta : TA) : L2.St → Hp → XK → Prop := fun σ H Q => ta σ H fun vs H1 => ∃ v, vs = [v] ∧ ∀ d, H1 d = none → Q (.ref C) (some d) (upd H1 d (.xd [(fld, v)]))
theorem pmk_own {X : Cx} {C fI : Addr} {fld cn : Str} {a : Expr} {ta : TA} {p pos : Pos} (T : OwnTx X.prog X.K C fI (some fld)) (hr : X.A.depth + 1 < recursionLimit) (hS : X.mg "super" = none) (ha : PA X [a] ta) (hg : Gl X cn) (hm : X.mg cn = some (.ref C)) (hdb : (cn == ("__debug__" : Str)) = false) (hn : notStar a = true) :
    PMk X (.Call (.Name cn p) [a] [] pos) (tMkOwn C fld ta) := by
  intro pins s σ H Q I h
  refine wpAny_Call_Name_kw (ld_glob I hg hm ?_ hdb)
  refine PySem.W.callWith_K (h₀ := X.base) I.ok.mod.kin T.kC (thn (ha.run pos pins s σ H _ I h) fun us s1 hh => ?_) (star_cons hn) rfl
  obtain ⟨vs, H1, I1, r1, v, ev, q1⟩ := hh
  subst ev
  refine ⟨I1.kIn, ?_⟩
  cases r1 with
  | cons rv rn =>
    rename_i v' us'
    cases rn
    show wpAny _ _ (call (.ref C) [v']) _ _ _
    have hlim := I1.nolimit
    obtain ⟨mb, hb1, hb2⟩ := I1.ok.mod.blt
    have hG := I1.ok.mod.glob.keeps I1.bk
    have hB := hb1.keeps I1.bk
    have hB2 : mb "super" = some (.type "super") := (hb2 "super" (by decide)).trans (by decide +kernel)
    obtain ⟨hp, g, dr, tk, os⟩ := s1
    refine wpAny_call (own_made1 (mg := X.mg) (mb := mb) T I1.kIn hlim hr hG hS hB hB2 fun h' tk' e d M => ?_)
    show MkP X pins σ Q (.ref e) ⟨h', g, dr, tk', os⟩
    obtain ⟨oe, fv, hoe, hc, hd, hdat, h1⟩ := M.obj
    have hns := M.ns
    obtain ⟨G', g1, g2⟩ := restrict h' fun b => decide (b ≠ e)
    have gk : ∀ b, b ≠ e → G'.get? b = h'.get? b := fun b hb => g1 b (decide_eq_true hb)
    have ge : G'.get? e = none := g2 e (by simp)
    have old : ∀ b o, hp.get? b = some o → G'.get? b = some o := fun b o q => (gk b (Nat.ne_of_lt (Nat.lt_of_lt_of_le (Heap.lt_size q) M.new))).trans (M.keep b o q)
    have ob : ObjOk X.prog X.w (upd H1 d (.xd [(fld, v)])) G' d (.xd [(fld, v)]) :=
      ⟨_, hns.at (fun o q => (gk d M.dne).trans q), fun f => relO_fld rv fld f⟩
    have J : Inv X pins σ (upd H1 d (.xd [(fld, v)])) ⟨G', g, dr, tk', os⟩ := I1.laid (t' := tk') old M.dbig ob
    refine ⟨e, oe, fv, ⟨G', g, dr, tk', os⟩, _, .ref C, some d, rfl, J, fun b o q => ?_, ge, hoe, ⟨hc, hd⟩, hdat, h1, ?_, rfl, I1.bare, raises_own T.exC T.tyC, q1 d (I1.hok.fresh M.dbig)⟩
    · by_cases hb : b = e
      · have q' : G'.get? b = some o := q
        rw [hb, ge] at q'; cases q'
      · exact (gk b hb).symm.trans q
    · rw [upd_ne (Ne.symm M.dne)]
      exact I1.hok.fresh M.new
/-- the errors of the text: each with one field -/
structure ErrOk (w : Wd) (P : Program) (c : Str) (fs : List Str) : Prop where
  own : ∃ fI fld, fs = [fld] ∧ OwnTx P w.K (w.D.ca c) fI (some fld)
def Wd.ErrAll (w : Wd) (P : Program) : Prop := ∀ c k fs, w.G.cls c = some k → k.exc = some fs → ErrOk w P c fs
section
variable {w : Wd} {ax : Ax} {W : WX} {o : Orc} {P : Program} {wl : PySem.World} {base : Heap} {n : Nat} {N : List Str} {sc scope : Scope} {cm : Bool} {X : Cx} {a b c : Ex} {ea eb ec tg : Expr} {pos : Pos}
theorem st_raise {cn : Str} {p pos2 : Pos} (EA : w.ErrAll P) (g : Good w ax P wl base n N sc true X) (tk : Takes X W) (hS : w.mg "super" = none) (hg : Gl X cn) (hm : w.mg cn = some (.ref (w.D.ca cn))) (hdb : (cn == ("__debug__" : Str)) = false) (hn : notStar ea = true) (hx : ((w.G.cls cn).bind (·.exc)).isSome = true) (ha : PE X ea (tE w ax W o a)) :
    PS X (.Raise (some (.Call (.Name cn p) [ea] [] pos)) none pos2) (tS w ax W o (.rais cn (.cons a .nil))) := by
  obtain ⟨fs, hfs⟩ := Option.isSome_iff_exists.mp hx
  obtain ⟨k, hk, hke⟩ := Option.bind_eq_some_iff.mp hfs
  obtain ⟨fI, fld, rfl, T⟩ := (EA cn k fs hk hke).own
  have eax := g.nx rfl
  subst eax
  have hdp := g.hr.dp
  refine PS.to (ps_raise (g.hc rfl) tk (pmk_own (C := w.D.ca cn) (fI := fI) (fld := fld) (by rw [g.hP, g.hK]; exact T) (by omega) (by rw [g.hm]; exact hS) (as_cons hn ha as_nil) hg (by rw [g.hm]; exact hm) hdb hn)) fun D σ H ⟨m, s, h, r, hs, sm, e, p⟩ => ?_
  refine sEs_of hs sm e p fun xs h1 m1 H1 ys e1 l1 s1 rx hs1 p1 => ?_
  rw [hfs] at e1
  have e1 : (if [fld].length = xs.length then some (Sr.ex ⟨cn, [fld].zip xs⟩ s h1) else none) = some r := e1
  split at e1
  · rename_i hl
    match xs, hl with
    | [v], _ =>
      obtain ⟨y, rfl, ry⟩ := rl1 rx
      cases e1
      exact ⟨y, rfl, fun d hd => p1 m1 _ σ d [(fld, y)] (Le.refl _) (s1.fresh hd) hs1 upd_same (.cons ⟨rfl, ry⟩ .nil)⟩
  · cases e1
end
end Dv

set_option linter.all false
set_option autoImplicit false
set_option maxRecDepth 100000
set_option maxHeartbeats 2000000
namespace Dv
open PySem L2 PySem.Spec PyProof.Rows
/-- a clause: the class, the name's slot, what its suite reads -/
structure Clz where
  c : Value
  sl : Option Nat
  ts : Addr → Value → Option Addr → TS
/-- the ends of a suite: the name goes -/
def endsZ (sl : Option Nat) (D : Ends) : Ends := match sl with
  | none => D
  | some i => { nx := fun σ H => D.nx (σ.set i none) H, rt := D.rt, bk := fun σ H => D.bk (σ.set i none) H, ct := fun σ H => D.ct (σ.set i none) H }
def inZ (sl : Option Nat) (a : Addr) (σ : L2.St) : L2.St := match sl with
  | none => σ
  | some i => σ.set i (some (.ref a))
/-- what the clauses wish of an error of the body, one after the other -/
def wMix (K : PySem.W.Frag) (Wo : WX) (D : Ends) : List Clz → WX
  | [] => Wo
  | z :: r => fun cls d σ H => ∃ b, PySem.W.exmOne K cls z.c = some b ∧ (b = true → ∀ a, H a = none → z.ts a cls d (endsZ z.sl D) (inZ z.sl a σ) H) ∧ (b = false → wMix K Wo D r cls d σ H)
def nameZ (X : Cx) : Option Nat → Option Str → Prop
  | none, none => True
  | some i, some n => X.N[i]? = some n ∧ X.env.kindOf n = some .local
  | _, _ => False
inductive MixOk (X : Cx) : List ExceptHandler → List Clz → Prop
  | nil : MixOk X [] []
  | cons {x : Str} {nm : Option Str} {z : Clz} {st : Stmt} {suite : List Stmt} {np p' : Pos} {hs : List ExceptHandler} {l : List Clz} (hc : Names X x z.c) (hn : nameZ X z.sl nm)
      (hsu : ∀ (a : Addr) (oe : Obj) (cls : Value) (d : Option Addr) (pn : List (Addr × Obj)), Zc cls d oe → (∃ vs, oe.data = .fields vs) → PSs (X.suite a ((a, oe) :: pn)) (st :: suite) (z.ts a cls d)) (r : MixOk X hs l) :
      MixOk X (.ExceptHandler (some (.Name x np)) nm (st :: suite) p' :: hs) (z :: l)
section
variable {X : Cx} {body : List Stmt} {h0 : ExceptHandler} {hds : List ExceptHandler} {l : List Clz} {pos : Pos} {tb : WX → TS} {Wo : WX}
theorem ps_mix (hN : X.N.Nodup) (hst : X.stack = X.env :: X.outer) (hfr0 : X.env.frame = some X.env.locals) (tk : Takes X Wo)
    (hb : ∀ (W : WX) (pn : List (Addr × Obj)) (xe : Value → Shared → Prop), Takes (X.tr pn xe) W → PassesOwn (model X.prog X.w) X.A X.env xe → PSs (X.tr pn xe) body (tb W)) (hh : MixOk X (h0 :: hds) l) :
    PS X (.Try body (h0 :: hds) [] [] pos) (fun D σ H => tb (wMix X.K Wo D l) D σ H) := by
  refine ⟨fun pins s σ H D I hw => ?_⟩
  have okX := I.ok
  have frms : X.A.frames = some (X.env :: X.outer) := by rw [okX.frames, hst]
  have goal1 := (hb (wMix X.K Wo D l) (X.pn ++ pins) (fun e s1 => wpAny (model X.prog X.w) X.A (noteFrame e X.env) (fun _ s2 => wpAny (model X.prog X.w) X.A (setFlight e none) (fun _ s3 => wpAny (model X.prog X.w) X.A (handleBy e X.env (h0 :: hds)) (SP X pins D) X.xe s3) X.xe s2) X.xe s1) ?_ PassesOwn.looking).run [] s σ H D (I.toTry _) hw
  · refine wpAny_Try_except (wpAny_mono goal1 (fun fl s1 q => ?_) fun _ _ q => q)
    cases fl with
    | next =>
      obtain ⟨σ1, H1, J, q⟩ := q
      exact wpAny_execs_nil ⟨σ1, H1, J.ofTry okX, q⟩
    | ret u =>
      obtain ⟨v, σ1, H1, J, rv, q⟩ := q
      exact ⟨v, σ1, H1, J.ofTry okX, rv, q⟩
    | brk =>
      obtain ⟨σ1, H1, J, q⟩ := q
      exact ⟨σ1, H1, J.ofTry okX, q⟩
    | cont =>
      obtain ⟨σ1, H1, J, q⟩ := q
      exact ⟨σ1, H1, J.ofTry okX, q⟩
  · -- an error of the body
    intro u s1 xx
    obtain ⟨a, B, sI, pins1, σ1, H1, cls, d, rfl, J1, nb, up, sky, na, os, ag, wish⟩ := xx
    have J : Inv X pins σ1 H1 sI := J1.ofTry okX
    rw [show (X.tr (X.pn ++ pins) (fun e s1 => wpAny (model X.prog X.w) X.A (noteFrame e X.env) (fun _ s2 => wpAny (model X.prog X.w) X.A (setFlight e none) (fun _ s3 => wpAny (model X.prog X.w) X.A (handleBy e X.env (h0 :: hds)) (SP X pins D) X.xe s3) X.xe s2) X.xe s1)).stack = X.env :: X.outer from hst] at sky
    show wpAny (model X.prog X.w) X.A (noteFrame (.ref a) X.env) _ _ _
    refine Sky.land Zc.steady frms hfr0 sky fun h3 fl3 up3 => ?_
    have up13 := up.trans up3
    have J3 : Inv X pins σ1 H1 { s1 with heap := h3 } := J.landed nb fl3.1 up13 os ag
    obtain ⟨oe3, vs3, he3, hz3, hd3⟩ := fl3.there
    have nfr : a ∉ frs (X.env :: X.outer) := fun hm => by
      obtain ⟨_, o', e', hnf⟩ := fl3.2.2.1.mem hm
      rw [he3] at e'; cases e'
      exact hnf _ hd3
    have nL : a ≠ X.env.locals := fun z => nfr (List.mem_filterMap.mpr ⟨X.env, List.mem_cons_self, by rw [hfr0, z]⟩)
    have nF : a ∉ X.fs := fun hm => by
      obtain ⟨e, he, q⟩ := List.mem_filterMap.mp hm
      exact nfr (List.mem_filterMap.mpr ⟨e, List.mem_cons_of_mem _ he, q⟩)
    have S3 := J3.suite he3 hd3 na nL nF
    have onward : ∀ {hs' : List ExceptHandler} {l' : List Clz}, MixOk X hs' l' → wMix X.K Wo D l' cls d σ1 H1 → wpAny (model X.prog X.w) X.A (handleBy (.ref a) X.env hs') (SP X pins D) X.xe { s1 with heap := h3 } := by
      intro hs' l' mk
      induction mk with
      | nil =>
        intro wish
        refine wpAny_handleBy_nil ?_
        obtain ⟨_, _, _, oe, vs, T, oT, ts', he, hz, hd, hT, hr⟩ := id fl3
        unfold PySem.passOn
        refine wpAny_bind (wpAny_field he hd hT ?_)
        rw [if_neg (show ¬ ((Value.ref T == Value.none) = true) from by simp)]
        have fly : wpAny (model X.prog X.w) X.A (setFlight (.ref a) X.env.frame) (fun _ s4 => wpAny (model X.prog X.w) X.A (throw (.ref a) : Sem Flow) (SP X pins D) X.xe s4) X.xe { s1 with heap := h3 } := by
          rw [hfr0]
          refine HandSPX.setFlight_upZ fl3 fun h4 hh4 up4 => wpAny_throw (tk _ _ ?_)
          exact ⟨a, B, sI, pins, σ1, H1, cls, d, rfl, J, nb, up13.trans up4, .inr (.inr (by rw [hst]; exact hh4)), na, os, ag, wish⟩
        first
          | exact wpAny_bind (wpAny_pure (wpAny_bind fly))
          | exact wpAny_bind fly
      | @cons x nm z st suite np p' hs2 l2 hc hn hsu r ih =>
        intro wish
        obtain ⟨b, hb1, hyes, hno⟩ := wish
        refine wpAny_handleBy_cons (codeAny_handlers_test ?_) (by intro q; cases q)
        have LT : PySem.W.Looks (model X.prog X.w) h3 (typeOf (.ref a)) cls := fun A Q E s k q => wpAny_typeOf_ref (k _ _ he3) (by rw [hz3.1]; exact q)
        have LM := PySem.W.exm_one (M := model X.prog X.w) (J3.kIn) LT hb1
        have asked : ∀ {Q : Value → Shared → Prop} {E : Value → Shared → Prop}, Q z.c { s1 with heap := h3 } → wpAny (model X.prog X.w) (X.A.mark (some (.ref a))) (eval (.Name x np) X.env) Q E { s1 with heap := h3 } := fun {Q E} q => by
          obtain ⟨hg, hdbg, hm | ⟨hm, hv, hnn⟩⟩ := hc
          · exact ld_glob (X := X.suite a ((a, oe3) :: (X.pn ++ pins))) S3 hg hm q hdbg
          · exact ld_blt (X := X.suite a ((a, oe3) :: (X.pn ++ pins))) S3 hg hm hv q hnn hdbg
        refine asked (LM.here ?_)
        cases b with
        | false =>
          show wpAny _ X.A (handleBy (.ref a) X.env hs2) _ _ _
          exact ih (hno rfl)
        | true =>
          have run := hyes rfl a na
          cases hsl : z.sl with
          | none =>
            cases nm with
            | some n => rw [hsl] at hn; exact hn.elim
            | none =>
              rw [hsl] at run
              refine codeAny_handlers_suite ?_
              refine HandSPX.lands_againZ fl3 fun h4 fl4 up4 => ?_
              have J4 : Inv X pins σ1 H1 { s1 with heap := h4 } := J.landed nb fl4.1 (up13.trans up4) os ag
              obtain ⟨oe4, vs4, he4, hz4, hd4⟩ := fl4.there
              have S4 := J4.suite he4 hd4 na nL nF
              refine wpAny_mono ((hsu a oe4 cls d (X.pn ++ pins) hz4 ⟨_, hd4⟩).run [] _ _ H1 _ S4 run) (fun fl s6 q => ?_) fun _ _ z => z.elim
              cases fl with
              | next => obtain ⟨σ6, H6, S6, q6⟩ := q; exact ⟨_, _, S6.unsuite okX, q6⟩
              | brk => obtain ⟨σ6, H6, S6, q6⟩ := q; exact ⟨_, _, S6.unsuite okX, q6⟩
              | cont => obtain ⟨σ6, H6, S6, q6⟩ := q; exact ⟨_, _, S6.unsuite okX, q6⟩
              | ret u => obtain ⟨v6, σ6, H6, S6, r6, q6⟩ := q; exact ⟨_, _, _, S6.unsuite okX, r6, q6⟩
          | some i =>
            cases nm with
            | none => rw [hsl] at hn; exact hn.elim
            | some n =>
              rw [hsl] at hn run
              obtain ⟨hi, hln⟩ := hn
              refine codeAny_handlers_suite_as ?_
              refine HandSPX.lands_againZ fl3 fun h4 fl4 up4 => ?_
              have J4 : Inv X pins σ1 H1 { s1 with heap := h4 } := J.landed nb fl4.1 (up13.trans up4) os ag
              obtain ⟨oe4, vs4, he4, hz4, hd4⟩ := fl4.there
              have S4 := J4.suite he4 hd4 na nL nF
              refine store_ok (X := X.suite a ((a, oe4) :: (X.pn ++ pins))) (v := .ref a) S4 hN hi (.inl hln) rfl (fun s5 S5 => ?_) (.inr hln)
              refine wpAny_mono ((hsu a oe4 cls d (X.pn ++ pins) hz4 ⟨_, hd4⟩).run [] s5 _ H1 _ S5 run) (fun fl s6 q => ?_) fun _ _ z => z.elim
              have ending : ∀ {σ6 : L2.St} {H6 : Hp} {Q : Shared → Prop}, Inv (X.suite a ((a, oe4) :: (X.pn ++ pins))) [] σ6 H6 s6 → (∀ s7, Inv X pins (σ6.set i none) H6 s7 → Q s7) →
                  wpAny (model X.prog X.w) X.A (do bindName X.env n .none; unbindBehindTheSuite X.env n p') (fun _ s7 => Q s7) X.xe s6 := fun {σ6 H6 Q} S6 hq => gone_ok (S6.unsuite okX) hN hi hln hq
              cases fl with
              | next => obtain ⟨σ6, H6, S6, q6⟩ := q; exact ending S6 fun s7 J7 => ⟨_, _, J7, q6⟩
              | brk => obtain ⟨σ6, H6, S6, q6⟩ := q; exact ending S6 fun s7 J7 => ⟨_, _, J7, q6⟩
              | cont => obtain ⟨σ6, H6, S6, q6⟩ := q; exact ending S6 fun s7 J7 => ⟨_, _, J7, q6⟩
              | ret u => obtain ⟨v6, σ6, H6, S6, r6, q6⟩ := q; exact ending S6 fun s7 J7 => ⟨_, _, _, J7, r6, q6⟩
    exact onward hh wish
end
end Dv

set_option linter.all false
set_option autoImplicit false
set_option maxRecDepth 100000
set_option maxHeartbeats 2000000
namespace Dv
open PySem L2 PySem.Spec PyProof.Rows
/-- an error's class is a clause's exactly if it is the same -/
def Wd.ExmOk (w : Wd) : Prop := ∀ c c', ((w.G.cls c).bind (·.exc)).isSome = true → ((w.G.cls c').bind (·.exc)).isSome = true → PySem.W.exmOne w.K (.ref (w.D.ca c)) (.ref (w.D.ca c')) = some (decide (c = c'))
def clz (w : Wd) (o : Orc) : St → List Clz
  | .hnd c sl su r => ⟨.ref (w.D.ca c), sl, fun a cls d D σ H => ∃ k, tS w (some (k, a, cls, d)) WF o su D σ H⟩ :: clz w o r
  | _ => []
/-- the clauses' classes are errors of the text -/
def hndOk (G : Tx) : St → Bool
  | .hnd c _ _ r => ((G.cls c).bind (·.exc)).isSome && hndOk G r
  | .hnil => true
  | _ => false
section
variable {w : Wd} {ax ax' : Ax} {W : WX} {o : Orc} {P : Program} {wl : World} {base : Heap} {n : Nat} {N : List Str} {sc scope : Scope} {cm : Bool} {X : Cx} {m m1 : Mp} {h : VH} {H : Hp} {s : Sl} {σ : L2.St} {D : Ends} {r : Sr} {a : Addr} {pos : Pos}
theorem ObjR.other {ob : Ho} (q : ObjR w.D w.K ax m H a ob) (hx : ∀ c fs, ob ≠ .exn c fs) : ObjR w.D w.K ax' m H a ob := by
  cases ob with
  | exn c fs => exact (hx c fs rfl).elim
  | _ => exact q
/-- the error at a comes into the relation, at a new place -/
theorem Sim.caught {cls : Str} {dd : Addr} {fs : List (Str × Vv)} {gs : List (Str × V)} (sm : SimW w none m h H) (hd : H dd = some (.xd gs)) (rf : RF w.D m fs gs) :
    SimW w (some (h.length, a, .ref (w.D.ca cls), some dd)) (ext m h.length a) (h ++ [.exn cls fs]) H := by
  have le := sm.le a
  have old : ∀ {i : Nat} {o1 : Ho}, (h ++ [.exn cls fs])[i]? = some o1 → (i < h.length ∧ h[i]? = some o1) ∨ (i = h.length ∧ o1 = .exn cls fs) := fun {i o1} e => by
    by_cases hi : i < h.length
    · rw [List.getElem?_append_left hi] at e
      exact .inl ⟨hi, e⟩
    · have hi2 : i = h.length := by
        have := (List.getElem?_eq_some_iff.mp e).1
        rw [List.length_append, List.length_singleton] at this
        omega
      subst hi2
      rw [List.getElem?_append_right (Nat.le_refl _), Nat.sub_self] at e
      cases e
      exact .inr ⟨rfl, rfl⟩
  have nox : ∀ {i : Nat} {c : Str} {fs : List (Str × Vv)}, h[i]? = some (.exn c fs) → False := fun {i c fs} e => by
    obtain ⟨z, e⟩ := sm.one i c fs e
    cases e
  have back : ∀ {i : Nat} {b : Addr}, i < h.length → ext m h.length a i = some b → m i = some b := fun {i b} hi q => by
    unfold ext at q
    rw [if_neg (by omega)] at q
    exact q
  refine ⟨fun i o1 e => ?_, fun i b e => ?_, fun i j o1 o2 b e1 e2 w1 w2 q1 q2 => ?_, fun i c fs' e => ?_, sm.tab⟩
  · rcases old e with ⟨hi, e⟩ | ⟨rfl, rfl⟩
    · obtain ⟨b, h1, h2⟩ := sm.at_ i o1 e
      exact ⟨b, le _ _ h1, ObjR.other (ObjR.mono h2 le) fun c fs z => nox (z ▸ e)⟩
    · exact ⟨a, ext_same, _, dd, gs, rfl, hd, rf.mono le⟩
  · rw [List.length_append, List.length_singleton]
    unfold ext at e
    by_cases hi : i = h.length
    · omega
    · rw [if_neg hi] at e
      have := sm.dom i b e
      omega
  · rcases old e1 with ⟨h1, e1⟩ | ⟨rfl, rfl⟩
    · rcases old e2 with ⟨h2, e2⟩ | ⟨rfl, rfl⟩
      · exact sm.inj i j o1 o2 b e1 e2 w1 w2 (back h1 q1) (back h2 q2)
      · cases w2
    · cases w1
  · rcases old e with ⟨_, e⟩ | ⟨rfl, _⟩
    · exact (nox e).elim
    · exact ⟨_, rfl⟩
/-- it goes -/
theorem Sim.gone {k : Nat} {z : Addr × Value × Option Addr} (sm : SimW w (some (k, z)) m h H) : SimW w none m (h.set k .dead) H := by
  have old : ∀ {i : Nat} {o1 : Ho}, (h.set k .dead)[i]? = some o1 → (i = k ∧ o1 = .dead ∧ ∃ o2, h[k]? = some o2) ∨ (i ≠ k ∧ h[i]? = some o1) := fun {i o1} e => by
    by_cases hi : i = k
    · subst hi
      have hl : i < h.length := by
        have := (List.getElem?_eq_some_iff.mp e).1
        rwa [List.length_set] at this
      rw [List.getElem?_set_self hl] at e
      cases e
      exact .inl ⟨rfl, rfl, _, List.getElem?_eq_getElem hl⟩
    · rw [List.getElem?_set_ne (Ne.symm hi)] at e
      exact .inr ⟨hi, e⟩
  refine ⟨fun i o1 e => ?_, fun i b e => by rw [List.length_set]; exact sm.dom i b e, fun i j o1 o2 b e1 e2 w1 w2 q1 q2 => ?_, fun i c fs' e => ?_, sm.tab⟩
  · rcases old e with ⟨rfl, rfl, o2, e⟩ | ⟨hi, e⟩
    · obtain ⟨b, h1, _⟩ := sm.at_ i o2 e
      exact ⟨b, h1, trivial⟩
    · obtain ⟨b, h1, h2⟩ := sm.at_ i o1 e
      refine ⟨b, h1, ObjR.other h2 fun c fs q => ?_⟩
      subst q
      obtain ⟨z', q⟩ := sm.one i c fs e
      cases q
      exact hi rfl
  · rcases old e1 with ⟨rfl, rfl, _⟩ | ⟨h1, e1⟩
    · cases w1
    · rcases old e2 with ⟨rfl, rfl, _⟩ | ⟨h2, e2⟩
      · cases w2
      · exact sm.inj i j o1 o2 b e1 e2 w1 w2 q1 q2
  · rcases old e with ⟨_, q, _⟩ | ⟨hi, e⟩
    · cases q
    · obtain ⟨z', q⟩ := sm.one i c fs' e
      cases q
      exact (hi rfl).elim
def outR (sl : Option Nat) (σ : L2.St) : L2.St := match sl with
  | none => σ
  | some i => σ.set i none
theorem out_R {m : Mp} {s : Sl} {σ : L2.St} : ∀ {sl : Option Nat}, SlR w.D m s σ → SlR w.D m (outS sl s) (outR sl σ)
  | none, q => q
  | some i, q => q.clear i none
theorem caught_ok (EX : w.ExmOk) : ∀ {hs : St} {x : Xv} {s : Sl} {h : VH} {m : Mp} {σ : L2.St} {H : Hp} {dd : Addr} {gs : List (Str × V)}, hndOk w.G hs = true → evS.evH w.G o hs x s h = some r → PSr w none W m D r → SlR w.D m s σ → SimW w none m h H → H dd = some (.xd gs) → RF w.D m x.fs gs →
    wMix w.K W D (clz w o hs) (.ref (w.D.ca x.c)) (some dd) σ H
  | .hnd c sl su rest, x, s, h, m, σ, H, dd, gs, ok, e, p, hs, sm, hd, rf => by
    unfold hndOk at ok
    rw [Bool.and_eq_true] at ok
    simp only [evS.evH] at e
    split at e
    · cases e
    · rename_i hx
      have hx : ((w.G.cls x.c).bind (·.exc)).isSome = true := by cases hh : ((w.G.cls x.c).bind (·.exc)).isSome with | true => rfl | false => exact (hx hh).elim
      refine ⟨decide (x.c = c), EX x.c c hx ok.1, fun hc a ha => ?_, fun hc => ?_⟩
      · have hc : x.c = c := of_decide_eq_true hc
        rw [if_pos hc] at e
        cases q : evS w.G o su (inS sl h.length s) (h ++ [.exn x.c x.fs]) with
        | none => rw [q] at e; cases e
        | some r0 =>
          rw [q] at e
          refine ⟨h.length, ext m h.length a, inS sl h.length s, h ++ [.exn x.c x.fs], r0, ?_, sm.caught hd rf, q, ?_⟩
          · cases sl with
            | none => exact hs.mono (sm.le a)
            | some i => exact (hs.mono (sm.le a)).set i ⟨a, ext_same, rfl⟩
          · have out : ∀ {m' : Mp} {s2 : Sl} {σ' : L2.St}, SlR w.D m' s2 σ' → SlR w.D m' (outS sl s2) (outR sl σ') := fun {m' s2 σ'} k => out_R k
            cases r0 with
            | nx s2 h2 =>
              cases e
              intro m' H' σ' l sm' hs'
              have := p m' H' _ ((sm.le a).trans l) sm'.gone (out hs')
              cases sl <;> exact this
            | rt v h2 =>
              cases e
              intro m' H' x' l sm' rx
              have := p m' H' x' ((sm.le a).trans l) sm'.gone rx
              cases sl <;> exact this
            | bk s2 h2 =>
              cases e
              intro m' H' σ' l sm' hs'
              have := p m' H' _ ((sm.le a).trans l) sm'.gone (out hs')
              cases sl <;> exact this
            | ct s2 h2 =>
              cases e
              intro m' H' σ' l sm' hs'
              have := p m' H' _ ((sm.le a).trans l) sm'.gone (out hs')
              cases sl <;> exact this
            | ex x2 s2 h2 => cases e
      · have hc : ¬ x.c = c := of_decide_eq_false hc
        rw [if_neg hc] at e
        exact caught_ok EX ok.2 e p hs sm hd rf
  | .hnil, x, s, h, m, σ, H, dd, gs, ok, e, p, hs, sm, hd, rf => by
    cases e
    exact p m H σ dd gs (Le.refl m) sm hs hd rf
theorem Good.tr {pn : List (Addr × Obj)} {xe : Value → Shared → Prop} {n : Nat} {N : List Str} {sc : Scope} (g : Good w none P wl base n N sc true X) : Good w none P wl base n N sc true (X.tr pn xe) :=
  ⟨g.hP, g.hw, g.hK, g.hm, g.hB, g.hN, g.nd, g.hs, g.hr, g.hd, g.hc, g.nx, (fun _ _ _ _ z => by cases z), g.cu, g.mkr⟩
theorem Good.suite {n : Nat} {N : List Str} {sc : Scope} {oe : Obj} {cls : Value} {d : Option Addr} {pn : List (Addr × Obj)} {k : Nat} (g : Good w ax P wl base n N sc cm X) (hz : Zc cls d oe) (hf : ∃ vs, oe.data = .fields vs) : Good w (some (k, a, cls, d)) P wl base n N sc false (X.suite a ((a, oe) :: pn)) :=
  ⟨g.hP, g.hw, g.hK, g.hm, g.hB, g.hN, g.nd, g.hs, ⟨g.hr.gu, g.hr.dp, g.hr.un⟩, (fun z => by cases z), (fun z => by cases z), (fun z => by cases z), (fun _ _ _ _ z => by cases z; exact ⟨oe, List.mem_cons_self, hz, hf⟩), g.cu, g.mkr⟩
theorem st_try {body : List Stmt} {h0 : ExceptHandler} {hds : List ExceptHandler} {b hs : St} {n : Nat} {N : List Str} {sc : Scope} (EX : w.ExmOk) (g : Good w ax P wl base n N sc true X) (tk : Takes X W) (hst : X.stack = X.env :: X.outer) (hfr : X.env.frame = some X.env.locals)
    (hb : ∀ (W' : WX) (pn : List (Addr × Obj)) (xe : Value → Shared → Prop), Takes (X.tr pn xe) W' → PassesOwn (model X.prog X.w) X.A X.env xe → PSs (X.tr pn xe) body (tS w none W' o b)) (hh : MixOk X (h0 :: hds) (clz w o hs)) (hok : hndOk w.G hs = true) :
    PS X (.Try body (h0 :: hds) [] [] pos) (tS w ax W o (.try_ b hs)) := by
  have ea := g.nx rfl
  subst ea
  refine PS.to (ps_mix (tb := fun W' => tS w none W' o b) (by rw [g.hN]; exact g.nd) hst hfr tk hb hh) fun D σ H ⟨m, s, h, r, hs1, sm, e, p⟩ => ?_
  simp only [evS] at e
  cases q : evS w.G o b s h with
  | none => rw [q] at e; cases e
  | some r0 =>
    rw [q] at e
    refine ⟨m, s, h, r0, hs1, sm, q, ?_⟩
    cases r0 with
    | nx s1 h1 => cases e; exact p
    | rt v h1 => cases e; exact p
    | bk s1 h1 => cases e; exact p
    | ct s1 h1 => cases e; exact p
    | ex x s1 h1 =>
      intro m' H' σ' dd gs l sm' hs' hd rf
      rw [g.hK]
      exact caught_ok EX hok e (p.mono l) hs' sm' hd rf
end
end Dv

set_option linter.all false
set_option autoImplicit false
set_option maxRecDepth 100000
set_option maxHeartbeats 2000000
namespace Dv
open PySem L2 PySem.Spec PyProof.Rows
/-- global names: defs, classes, constants, built-ins that are not hidden, fields that are no property -/
structure Nm where
  fns : List Str
  cls : List Str
  kon : List (Str × Vv)
  blt : List Str
  npr : List Str
structure Wd.NmOk (w : Wd) (t : Nm) : Prop where
  fn : ∀ f ∈ t.fns, w.mg f = some (.ref (w.D.fa f)) ∧ PySem.W.keepIn w.K (.ref (w.D.fa f)) = true
  cl : ∀ c ∈ t.cls, w.mg c = some (.ref (w.D.ca c))
  kn : ∀ p ∈ t.kon, ∃ u x, w.mg p.1 = some u ∧ RelV x u ∧ ∀ m, R w.D m p.2 x
  bl : ∀ b ∈ t.blt, w.mg b = none
  np : ∀ f ∈ t.npr, ∀ c, propOf w.G c f = none
  sup : w.mg "super" = none
def glB (sc : Scope) (x : Str) : Bool := decide (sc.names.lookup x = some .globalImplicit) && !(x == ("__debug__" : Str))
def visB (sc : Scope) (x : Str) : Bool := (decide (sc.names.lookup x = some .local) || decide (sc.names.lookup x = some .cell) || decide (sc.names.lookup x = some .free)) && !(x == ("__debug__" : Str)) && !(x == ("__classdict__" : Str))
def locB (cl : Bool) (sc : Scope) (x : Str) : Bool := decide (sc.names.lookup x = some .local) || (cl && decide (sc.names.lookup x = some .cell))
def tyN : List (Str × String) := [("int", "int"), ("str", "str"), ("bool", "bool"), ("list", "list"), ("tuple", "tuple"), ("dict", "dict")]
def chkC (t : Nm) (sc : Scope) : Vv → Expr → Bool
  | .non, .Constant .none _ _ => true
  | .bl b, .Constant (.bool b') _ _ => b == b'
  | .int i, .Constant (.int i') _ _ => decide (i = i')
  | .str z, .Constant (.str z') _ _ => decide (z = z')
  | .fn f, .Name x _ => decide (f = x) && t.fns.contains f && glB sc f
  | .cls c, .Name x _ => decide (c = x) && t.cls.contains c && glB sc c
  | .ty n, .Name x _ => glB sc x && t.blt.contains x && decide ((x, n) ∈ tyN)
  | v, .Name x _ => glB sc x && decide ((x, v) ∈ t.kon)
  | _, _ => false
def chkN (cl : Bool) (N : List Str) (sc : Scope) : List Nat → List Expr → Bool
  | [], [] => true
  | i :: is, .Name x _ :: es => decide (N[i]? = some x) && locB cl sc x && chkN cl N sc is es
  | _, _ => false
def chkTg (cl : Bool) (N : List Str) (sc : Scope) (tg : List Nat) : Expr → Bool
  | .Name x _ => match tg with
    | [i] => decide (N[i]? = some x) && locB cl sc x
    | _ => false
  | .Tuple es _ _ => (tg.length != 1) && chkN cl N sc tg es
  | _ => false
def isCmp : Expr → Bool
  | .Compare _ _ _ _ => true
  | _ => false
def isNoe : Ex → Bool
  | .noe => true
  | _ => false
/-- FnScope by a Bool -/
def fnScB (N ps : List Str) (sc : Scope) : Bool := decide (sc.kind = .function) && !sc.isCoroutine && !sc.isGenerator && decide N.Nodup && decide (N.take ps.length = ps) && ps.all (fun x => decide (sc.names.lookup x = some .local) || decide (sc.names.lookup x = some .cell)) && sc.names.all fun y => !decide (y.2 = .free)
theorem fnScB_ok {N ps : List Str} {sc : Scope} (h : fnScB N ps sc = true) : FnScope N ps sc := by
  unfold fnScB at h
  simp only [Bool.and_eq_true, Bool.not_eq_true', decide_eq_true_eq, decide_eq_false_iff_not, List.all_eq_true, Bool.or_eq_true] at h
  obtain ⟨⟨⟨⟨⟨⟨h1, h2⟩, h3⟩, h4⟩, h5⟩, h6⟩, h7⟩ := h
  exact ⟨h1, h2, h3, h4, h5, h6, h7⟩
section
variable (t : Nm) (G : Tx)
mutual
def chkE : List Str → Scope → Bool → Ex → Expr → Bool
  | N, sc, _, .var i, .Name x _ => decide (N[i]? = some x) && visB sc x
  | _, sc, _, .cst v, e => chkC t sc v e
  | N, sc, cm, .bin op a b, .BinOp ea op' eb _ => decide (op = op') && chkE N sc cm a ea && chkE N sc cm b eb
  | N, sc, cm, .neg a, .UnaryOp .USub ea _ => chkE N sc cm a ea
  | N, sc, cm, .cmp op a b, .Compare ea [op'] [eb] _ => decide (op = op') && noSet eb && chkE N sc cm a ea && chkE N sc cm b eb
  | N, sc, cm, .chain op op2 a b c, .Compare ea [op', op2'] [eb, ec] _ => decide (op = op') && decide (op2 = op2') && noSet eb && noSet ec && chkE N sc cm a ea && chkE N sc cm b eb && chkE N sc cm c ec
  | N, sc, cm, .and a b, .BoolOp .And (ea :: eb :: rest) pos => chkE N sc cm a ea && (if rest.isEmpty then chkE N sc cm b eb else chkE N sc cm b (.BoolOp .And (eb :: rest) pos))
  | N, sc, cm, .or a b, .BoolOp .Or (ea :: eb :: rest) pos => chkE N sc cm a ea && (if rest.isEmpty then chkE N sc cm b eb else chkE N sc cm b (.BoolOp .Or (eb :: rest) pos))
  | N, sc, cm, .not a, .UnaryOp .Not ea _ => chkE N sc cm a ea
  | N, sc, cm, .ite c a b, .IfExp ec ea eb _ => chkT N sc cm c ec && chkE N sc cm a ea && chkE N sc cm b eb
  | N, sc, cm, .attr a f, .Attribute ea f' _ => decide (f = f') && noSuper ea && (cm || t.npr.contains f) && chkE N sc cm a ea
  | N, sc, cm, .idx a b, .Subscript ea eb _ => noSlice eb && chkE N sc cm a ea && chkE N sc cm b eb
  | N, sc, cm, .slc a lo hi, .Subscript ea (.Slice elo ehi none _) _ => chkE N sc cm a ea && (match elo with | none => isNoe lo | some e1 => !isNoe lo && chkE N sc cm lo e1) && (match ehi with | none => isNoe hi | some e1 => !isNoe hi && chkE N sc cm hi e1)
  | _, _, _, .dnew, .Dict [] [] _ => true
  | N, sc, cm, .tup es, .Tuple xs _ _ => xs.all notStar && chkEs N sc cm es xs
  | N, sc, cm, .lst es, .List xs _ => xs.all notStar && chkEs N sc cm es xs
  | N, sc, cm, .call f es, .Call (.Name x _) xs [] _ => cm && decide (f = x) && glB sc f && t.fns.contains f && xs.all notStar && chkEs N sc cm es xs
  | N, sc, cm, .mk c es, .Call (.Name x _) (x1 :: xs) [] _ => cm && decide (c = x) && glB sc c && t.cls.contains c && (methOf G c "__init__").isSome && (x1 :: xs).all notStar && chkEs N sc cm es (x1 :: xs)
  | N, sc, cm, .meth a m es, .Call (.Attribute ea m' apos) xs [] pos => cm && decide (m = m') && (apos.endLine == pos.line) && noSuper ea && xs.all notStar && decide (xs.length < 20) && chkE N sc cm a ea && chkEs N sc cm es xs
  | N, sc, cm, .bf f es, .Call (.Name x _) (x1 :: xs) [] _ => (cm || !f.cold) && decide (x = f.name) && glB sc f.name && t.blt.contains f.name && (x1 :: xs).all notStar && chkEs N sc cm es (x1 :: xs)
  | N, sc, cm, .bm a k es, .Call (.Attribute ea m' apos) (x1 :: xs) [] pos => k.here && decide (m' = k.name) && (apos.endLine == pos.line) && noSuper ea && (x1 :: xs).all notStar && decide ((x1 :: xs).length < 30) && chkE N sc cm a ea && chkEs N sc cm es (x1 :: xs)
  | N, sc, cm, .cv i es, .Call (.Name x _) (x1 :: xs) [] _ => cm && decide (N[i]? = some x) && visB sc x && (x1 :: xs).all notStar && chkEs N sc cm es (x1 :: xs)
  | N, sc, cm, .callk f p es ks, .Call (.Name x _) (x1 :: xs) kws _ => cm && decide (f = x) && glB sc f && t.fns.contains f && (x1 :: xs).all notStar && kwNames kws p.ks && chkEs N sc cm es (x1 :: xs) && chkKs N sc cm ks kws
  | N, sc, cm, .mkk c p es ks, .Call (.Name x _) (x1 :: xs) kws _ => cm && decide (c = x) && glB sc c && t.cls.contains c && (methOf G c "__init__").isSome && (x1 :: xs).all notStar && kwNames kws p.ks && chkEs N sc cm es (x1 :: xs) && chkKs N sc cm ks kws
  | N, sc, cm, .lam N1 e, .Lambda ⟨[], [⟨x, none, _⟩], none, [], [], none, []⟩ body scope _ => N.contains "#" && !N1.contains "#" && (decide (x = "one") || decide (x = "word")) && decide (N1[0]? = some x) && fnScB N1 [x] scope && chkE N1 scope true e body
  | N, sc, cm, .sto a, .Call (.Name x _) [x1] [] _ => cm && decide (x = "str") && glB sc x && t.blt.contains x && notStar x1 && chkE N sc cm a x1
  | N, sc, cm, .cmpo op a b, .Compare ea [op'] [eb] _ => cm && decide (op = op') && noSet eb && chkE N sc cm a ea && chkE N sc cm b eb
  | N, sc, cm, .lc e own tg it cd, .ListComp elt [⟨tgt, iter, ifs, isa⟩] scope _ => decide (isa = 0) && cm && blkC N sc scope (own.map fun i => ((N[i]?).getD "", i)) && tg.all (fun i => own.contains i) && noSetI iter && chkI N sc cm it tg.length tgt iter && chkTg false N (relS scope sc) tg tgt &&
      (match ifs with
      | [] => (match cd with | .yes => true | _ => false)
      | [c] => chkT N (relS scope sc) cm cd c
      | _ => false) && chkE N (relS scope sc) cm e elt
  | N, sc, cm, .lc2 e own tg it cd tg1 it1 cd1, .ListComp elt [⟨tgt, iter, ifs, isa⟩, ⟨tgt1, iter1, ifs1, isa1⟩] scope _ => decide (isa = 0) && decide (isa1 = 0) && cm && blkC N sc scope (own.map fun i => ((N[i]?).getD "", i)) && tg.all (fun i => own.contains i) && tg1.all (fun i => own.contains i) && noSetI iter && noSetI iter1 && chkI N sc cm it tg.length tgt iter && chkTg false N (relS scope sc) tg tgt &&
      (match ifs with
      | [] => (match cd with | .yes => true | _ => false)
      | [c] => chkT N (relS scope sc) cm cd c
      | _ => false) && chkI N (relS scope sc) cm it1 tg1.length tgt1 iter1 && chkTg false N (relS scope sc) tg1 tgt1 &&
      (match ifs1 with
      | [] => (match cd1 with | .yes => true | _ => false)
      | [c] => chkT N (relS scope sc) cm cd1 c
      | _ => false) && chkE N (relS scope sc) cm e elt
  | _, _, _, _, _ => false
def chkT : List Str → Scope → Bool → Tt → Expr → Bool
  | N, sc, cm, .val e, ea => (plainT ea || isCmp ea) && chkE N sc cm e ea
  | N, sc, cm, .and a b, .BoolOp .And (ea :: eb :: rest) pos => chkT N sc cm a ea && (if rest.isEmpty then chkT N sc cm b eb else chkT N sc cm b (.BoolOp .And (eb :: rest) pos))
  | N, sc, cm, .or a b, .BoolOp .Or (ea :: eb :: rest) pos => chkT N sc cm a ea && (if rest.isEmpty then chkT N sc cm b eb else chkT N sc cm b (.BoolOp .Or (eb :: rest) pos))
  | N, sc, cm, .not a, .UnaryOp .Not ea _ => chkT N sc cm a ea
  | _, _, _, _, _ => false
/-- what is walked: by the number of the target's slots, the target -/
def chkI : List Str → Scope → Bool → It → Nat → Expr → Expr → Bool
  | N, sc, cm, .val e, _, _, ea => chkE N sc cm e ea
  | N, sc, cm, .rng (.cons a .nil), _, _, .Call (.Name x _) [e1] [] _ => decide (x = ("range" : Str)) && glB sc x && t.blt.contains x && notStar e1 && chkE N sc cm a e1
  | N, sc, cm, .rng (.cons a (.cons b .nil)), _, _, .Call (.Name x _) [e1, e2] [] _ => decide (x = ("range" : Str)) && glB sc x && t.blt.contains x && notStar e1 && notStar e2 && chkE N sc cm a e1 && chkE N sc cm b e2
  | N, sc, cm, .rng (.cons a (.cons b (.cons c .nil))), _, _, .Call (.Name x _) [e1, e2, e3] [] _ => decide (x = ("range" : Str)) && glB sc x && t.blt.contains x && notStar e1 && notStar e2 && notStar e3 && chkE N sc cm a e1 && chkE N sc cm b e2 && chkE N sc cm c e3
  | N, sc, cm, .enm a, _, .Tuple _ _ _, .Call (.Name x _) [e1] [] _ => decide (x = ("enumerate" : Str)) && glB sc x && t.blt.contains x && notStar e1 && chkE N sc cm a e1
  | _, _, _, _, _, _, _ => false
def chkEs : List Str → Scope → Bool → Exs → List Expr → Bool
  | _, _, _, .nil, [] => true
  | N, sc, cm, .cons a as, e :: es => chkE N sc cm a e && chkEs N sc cm as es
  | _, _, _, _, _ => false
def chkKs : List Str → Scope → Bool → Exs → List Keyword → Bool
  | _, _, _, .nil, [] => true
  | N, sc, cm, .cons a as, ⟨_, e, _⟩ :: es => chkE N sc cm a e && chkKs N sc cm as es
  | _, _, _, _, _ => false
end
end
/-- a lambda of the text, as it was written -/
def lamOk (t : Nm) (G : Tx) (l : Lf) (lm : Lm) : Prop := ∃ (N : List Str) (x : Str) (p : Pos), lm.params = ⟨[], [⟨x, none, p⟩], none, [], [], none, []⟩ ∧ l.np = 1 ∧ N.length = l.ns ∧ (x = "one" ∨ x = "word") ∧ N.contains "#" = false ∧ FnScope N [x] lm.scope ∧ chkE t G N lm.scope true l.e lm.body = true
end Dv

set_option linter.all false
set_option autoImplicit false
set_option maxRecDepth 100000
set_option maxHeartbeats 4000000
namespace Dv
open PySem L2 PySem.Spec PyProof.Rows
/-- all that the check leans on -/
structure Evd (w : Wd) (t : Nm) (P : Program) (wl : World) (base : Heap) (j : Nat) (o : Orc) : Prop where
  F : Fac w
  C : w.ClsAll
  nm : w.NmOk t
  O1 : OrcOk w P wl base (j + 1) o.call
  O2 : OrcOk w P wl base j o.call2
  K1 : OrcK w P wl base (j + 1) o.callk
  K2 : OrcK w P wl base j o.callk2
  L1 : OrcL w P wl base (j + 1) o.callL
  lok : ∀ l lm, lamOk t w.G l lm → w.D.lok l lm
theorem no {α : Prop} (h : false = true) : α := Bool.noConfusion h
section
variable {w : Wd} {ax : Ax} {W : WX} {o : Orc} {P : Program} {wl : World} {base : Heap} {j : Nat} {N : List Str} {sc scope : Scope} {cm : Bool} {X : Cx} {t : Nm}
theorem dbg {x : Str} (h : (!(x == ("__debug__" : Str))) = true) : (x == ("__debug__" : Str)) = false := by simpa using h
theorem gl_ok {x : Str} (g : Good w ax P wl base (j + 1) N sc cm X) (h : glB sc x = true) : Gl X x ∧ (x == ("__debug__" : Str)) = false := by
  unfold glB at h
  rw [Bool.and_eq_true] at h
  refine ⟨?_, dbg h.2⟩
  show X.env.scope.names.lookup x = _
  rw [g.hs]
  exact of_decide_eq_true h.1
theorem vis_ok {x : Str} (g : Good w ax P wl base (j + 1) N sc cm X) (h : visB sc x = true) : Vis X.env.scope x ∧ (x == ("__debug__" : Str)) = false ∧ (x == ("__classdict__" : Str)) = false := by
  unfold visB at h
  simp only [Bool.and_eq_true, Bool.or_eq_true, decide_eq_true_eq] at h
  refine ⟨?_, dbg h.1.2, by simpa using h.2⟩
  rw [g.hs]
  rcases h.1.1 with (h | h) | h
  · exact .inl h
  · exact .inr (.inl h)
  · exact .inr (.inr h)
theorem chkC_ok (E : Evd w t P wl base j o) (g : Good w ax P wl base (j + 1) N sc cm X) {v : Vv} {e : Expr} (h : chkC t sc v e = true) : PE X e (tE w ax W o (.cst v)) := by
  have nameK : ∀ {x : Str} {p : Pos}, (glB sc x && decide ((x, v) ∈ t.kon)) = true → PE X (.Name x p) (tE w ax W o (.cst v)) := fun {x p} h => by
    rw [Bool.and_eq_true] at h
    obtain ⟨u, y, h1, h2, h3⟩ := E.nm.kn _ (of_decide_eq_true h.2)
    obtain ⟨h4, h5⟩ := gl_ok g h.1
    exact e_cst (pe_glob h4 (by rw [g.hm]; exact h1) h2 h5) h3
  cases e with
  | Constant k i p =>
    cases v with
    | non => cases k <;> first | exact no h | exact e_cst pe_non fun _ => rfl
    | bl b =>
      cases k with
      | bool b' =>
        have h : (b == b') = true := h
        obtain rfl := beq_iff_eq.mp h
        exact e_cst pe_bl fun _ => rfl
      | _ => exact no h
    | int b =>
      cases k with
      | int b' =>
        have h : decide (b = b') = true := h
        obtain rfl := of_decide_eq_true h
        exact e_cst pe_int fun _ => rfl
      | _ => exact no h
    | str b =>
      cases k with
      | str b' =>
        have h : decide (b = b') = true := h
        obtain rfl := of_decide_eq_true h
        exact e_cst pe_str fun _ => rfl
      | _ => exact no h
    | _ => exact no h
  | Name x p =>
    cases v with
    | fn f =>
      have h : (decide (f = x) && t.fns.contains f && glB sc f) = true := h
      simp only [Bool.and_eq_true, decide_eq_true_eq] at h
      obtain ⟨⟨rfl, h2⟩, h3⟩ := h
      obtain ⟨h4, h5⟩ := gl_ok g h3
      exact e_cst (pe_glob (v := .ref (w.D.fa f)) h4 (by rw [g.hm]; exact (E.nm.fn f (List.contains_iff_mem.mp h2)).1) rfl h5) fun _ => rfl
    | cls f =>
      have h : (decide (f = x) && t.cls.contains f && glB sc f) = true := h
      simp only [Bool.and_eq_true, decide_eq_true_eq] at h
      obtain ⟨⟨rfl, h2⟩, h3⟩ := h
      obtain ⟨h4, h5⟩ := gl_ok g h3
      exact e_cst (pe_glob (v := .ref (w.D.ca f)) h4 (by rw [g.hm]; exact E.nm.cl f (List.contains_iff_mem.mp h2)) rfl h5) fun _ => rfl
    | ty n =>
      have h : (glB sc x && t.blt.contains x && decide ((x, n) ∈ tyN)) = true := h
      simp only [Bool.and_eq_true, decide_eq_true_eq] at h
      obtain ⟨⟨h2, h3⟩, h4⟩ := h
      obtain ⟨h5, h6⟩ := gl_ok g h2
      have hm := E.nm.bl x (List.contains_iff_mem.mp h3)
      have key : ∀ {x : Str} {n : String}, (x, n) ∈ tyN → bootBuiltins x = some (.type n) ∧ x ≠ "__name__" := fun {x n} q => by
        unfold tyN at q
        simp only [List.mem_cons, Prod.mk.injEq, List.not_mem_nil, or_false] at q
        rcases q with ⟨rfl, rfl⟩ | ⟨rfl, rfl⟩ | ⟨rfl, rfl⟩ | ⟨rfl, rfl⟩ | ⟨rfl, rfl⟩ | ⟨rfl, rfl⟩ <;> exact ⟨by decide +kernel, by decide⟩
      obtain ⟨k1, k2⟩ := key h4
      exact e_cst (pe_bltn (v := .ty n) h5 (by rw [g.hm]; exact hm) k1 rfl k2 h6) fun _ => rfl
    | non => exact nameK h
    | bl b => exact nameK h
    | int b => exact nameK h
    | str b => exact nameK h
    | ref b => exact nameK h
    | con b => exact nameK h
  | _ => cases v <;> exact no h
theorem loc_ok {x : Str} {cl : Bool} (hfn : cl = true → ∀ x, sc.names.lookup x = some .cell → X.fn x = true) (hs : X.env.scope = sc) (h : locB cl sc x = true) : Loc X.env.scope x ∧ (X.fn x = true ∨ X.env.scope.names.lookup x = some .local) := by
  unfold locB at h
  rw [hs]
  simp only [Bool.or_eq_true, Bool.and_eq_true, decide_eq_true_eq] at h
  rcases h with h | ⟨h1, h2⟩
  · exact ⟨.inl h, .inr h⟩
  · exact ⟨.inr h2, .inl (hfn h1 x h2)⟩
theorem chkN_ok {cl : Bool} {is : List Nat} {es : List Expr} (hfn : cl = true → ∀ x, sc.names.lookup x = some .cell → X.fn x = true) (g : Good w ax P wl base (j + 1) N sc cm X) (h : chkN cl N sc is es = true) : PGs X es (gT is) ∧ (assignEach es X.env).length = is.length ∧ (assignEach es X.env).findIdx? (·.1) = none := by
  induction is generalizing es with
  | nil => cases es with
    | nil => exact ⟨pgs_nil, rfl, rfl⟩
    | cons e es => exact no h
  | cons i is ih => cases es with
    | nil => exact no h
    | cons e es => cases e with
      | Name x p =>
        have h : (decide (N[i]? = some x) && locB cl sc x && chkN cl N sc is es) = true := h
        simp only [Bool.and_eq_true] at h
        obtain ⟨⟨h1, h2⟩, h3⟩ := h
        obtain ⟨k1, k2, k3⟩ := ih h3
        obtain ⟨l1, l2⟩ := loc_ok hfn g.hs h2
        refine ⟨pgs_cons (pg_name (by rw [g.hN]; exact g.nd) (by rw [g.hN]; exact of_decide_eq_true h1) l1 l2) k1, ?_, ?_⟩
        · show (assignEach es X.env).length + 1 = is.length + 1
          rw [k2]
        · show ((false, assign (.Name x p) X.env) :: assignEach es X.env).findIdx? (·.1) = none
          rw [List.findIdx?_cons]
          simp [k3]
      | _ => exact no h
theorem chkTg_ok {cl : Bool} {tg : List Nat} {e : Expr} (hfn : cl = true → ∀ x, sc.names.lookup x = some .cell → X.fn x = true) (g : Good w ax P wl base (j + 1) N sc true X) (h : chkTg cl N sc tg e = true) : PG X e (gTg w.K tg) := by
  cases e with
  | Name x p =>
    match tg, h with
    | [i], h =>
      have h : (decide (N[i]? = some x) && locB cl sc x) = true := h
      rw [Bool.and_eq_true] at h
      obtain ⟨l1, l2⟩ := loc_ok hfn g.hs h.2
      exact pg_name (by rw [g.hN]; exact g.nd) (by rw [g.hN]; exact of_decide_eq_true h.1) l1 l2
    | [], h => exact no h
    | _ :: _ :: _, h => exact no h
  | Tuple es k p =>
    have h : ((tg.length != 1) && chkN cl N sc tg es) = true := h
    rw [Bool.and_eq_true] at h
    obtain ⟨k1, k2, k3⟩ := chkN_ok hfn g h.2
    have hne : tg.length ≠ 1 := by simpa using h.1
    have e : gTg w.K tg = gTup w.K tg.length (gT tg) := by
      unfold gTg
      split
      · exact (hne rfl).elim
      · rfl
    rw [e, ← g.hK]
    exact pg_tup (g.hc rfl) k1 k2 k3
  | _ => exact no h
end
end Dv

set_option linter.all false
set_option autoImplicit false
set_option maxRecDepth 100000
set_option maxHeartbeats 8000000
namespace Dv
open PySem L2 PySem.Spec PyProof.Rows
def isBop : Expr → Bool
  | .BoolOp _ _ _ => true
  | _ => false
theorem few_ok {es : List Expr} {env : Env} {pos : Pos} (hn : es.all notStar = true) (hl : decide (es.length < 20) = true) : methodCallForm es.length (backTo pos (starEach es env)) (backToKw pos (keywordEach [] env)) = true := by
  unfold methodCallForm
  rw [star_few hn]
  have h : es.length < 20 := of_decide_eq_true hl
  show (true && true && decide (es.length + 0 < 30)) = true
  simp
  omega
section
variable {w : Wd} {o : Orc} {P : Program} {wl : World} {base : Heap} {j : Nat} {N : List Str} {t : Nm}
theorem t_yes {X : Cx} {ax : Ax} {W : WX} : PTs X [] (tT w ax W o .yes) := by
  refine ⟨fun pins s σ H Q I ⟨m, s', h, r, hs, sm, e, p⟩ => pts_nil.run pins s σ H Q I ?_⟩
  cases e
  exact p m H true (Le.refl m) sm rfl
mutual
theorem chkE_ok (E : Evd w t P wl base j o) : ∀ (e : Ex) {ea : Expr} {sc : Scope} {cm : Bool} {ax : Ax} {W : WX} {X : Cx}, Good w ax P wl base (j + 1) N sc cm X → Takes X W → chkE t w.G N sc cm e ea = true → PE X ea (tE w ax W o e)
  | .var i, ea, sc, cm, ax, W, X, g, tk, h => by
    cases ea with
    | Name x p =>
      have h : (decide (N[i]? = some x) && visB sc x) = true := h
      rw [Bool.and_eq_true] at h
      obtain ⟨h1, h2, h3⟩ := vis_ok g h.2
      exact e_var (by rw [g.hN]; exact of_decide_eq_true h.1) h1 h2 h3
    | _ => exact no h
  | .cst v, ea, sc, cm, ax, W, X, g, tk, h => chkC_ok E g (show chkC t sc v ea = true by cases ea <;> exact h)
  | .bin op a b, ea, sc, cm, ax, W, X, g, tk, h => by
    cases ea with
    | BinOp e1 op' e2 p =>
      have h : (decide (op = op') && chkE t w.G N sc cm a e1 && chkE t w.G N sc cm b e2) = true := h
      simp only [Bool.and_eq_true, decide_eq_true_eq] at h
      obtain ⟨⟨rfl, h1⟩, h2⟩ := h
      exact e_bin g.hK (chkE_ok E a g tk h1) (chkE_ok E b g tk h2)
    | _ => exact no h
  | .neg a, ea, sc, cm, ax, W, X, g, tk, h => by
    cases ea with
    | UnaryOp op e1 p => cases op <;> first | exact no h | exact e_neg (chkE_ok E a g tk h)
    | _ => exact no h
  | .cmp op a b, ea, sc, cm, ax, W, X, g, tk, h => by
    cases ea with
    | Compare e1 ops es p =>
      match ops, es, h with
      | [op'], [e2], h =>
        have h : (decide (op = op') && noSet e2 && chkE t w.G N sc cm a e1 && chkE t w.G N sc cm b e2) = true := h
        simp only [Bool.and_eq_true, decide_eq_true_eq] at h
        obtain ⟨⟨⟨rfl, h0⟩, h1⟩, h2⟩ := h
        exact e_cmp E.F g.hK g.hr.units h0 (chkE_ok E a g tk h1) (chkE_ok E b g tk h2)
      | [], _, h => exact no h
      | [_], [], h => exact no h
      | [_], _ :: _ :: _, h => exact no h
      | _ :: _ :: _, _, h => exact no h
    | _ => exact no h
  | .chain op op2 a b c, ea, sc, cm, ax, W, X, g, tk, h => by
    cases ea with
    | Compare e1 ops es p =>
      match ops, es, h with
      | [op', op2'], [e2, e3], h =>
        have h : (decide (op = op') && decide (op2 = op2') && noSet e2 && noSet e3 && chkE t w.G N sc cm a e1 && chkE t w.G N sc cm b e2 && chkE t w.G N sc cm c e3) = true := h
        simp only [Bool.and_eq_true, decide_eq_true_eq] at h
        obtain ⟨⟨⟨⟨⟨⟨rfl, rfl⟩, h0⟩, h3⟩, h1⟩, h2⟩, h4⟩ := h
        exact e_chain E.F g.hK g.hr.units h0 h3 (chkE_ok E a g tk h1) (chkE_ok E b g tk h2) (chkE_ok E c g tk h4)
      | [], _, h => exact no h
      | [_], _, h => exact no h
      | [_, _], [], h => exact no h
      | [_, _], [_], h => exact no h
      | [_, _], _ :: _ :: _ :: _, h => exact no h
      | _ :: _ :: _ :: _, _, h => exact no h
    | _ => exact no h
  | .and a b, ea, sc, cm, ax, W, X, g, tk, h => by
    cases ea with
    | BoolOp op es p =>
      cases op with
      | Or => exact no h
      | And =>
        match es, h with
        | [], h => exact no h
        | [_], h => exact no h
        | e1 :: e2 :: rest, h =>
          have h : (chkE t w.G N sc cm a e1 && (if rest.isEmpty then chkE t w.G N sc cm b e2 else chkE t w.G N sc cm b (.BoolOp .And (e2 :: rest) p))) = true := h
          rw [Bool.and_eq_true] at h
          refine e_and E.F g.hK (chkE_ok E a g tk h.1) ?_
          cases rest with
          | nil => exact pe_one (chkE_ok E b g tk h.2)
          | cons e3 rest => exact chkE_ok E b g tk h.2
    | _ => exact no h
  | .or a b, ea, sc, cm, ax, W, X, g, tk, h => by
    cases ea with
    | BoolOp op es p =>
      cases op with
      | And => exact no h
      | Or =>
        match es, h with
        | [], h => exact no h
        | [_], h => exact no h
        | e1 :: e2 :: rest, h =>
          have h : (chkE t w.G N sc cm a e1 && (if rest.isEmpty then chkE t w.G N sc cm b e2 else chkE t w.G N sc cm b (.BoolOp .Or (e2 :: rest) p))) = true := h
          rw [Bool.and_eq_true] at h
          refine e_or E.F g.hK (chkE_ok E a g tk h.1) ?_
          cases rest with
          | nil => exact pe_one (chkE_ok E b g tk h.2)
          | cons e3 rest => exact chkE_ok E b g tk h.2
    | _ => exact no h
  | .not a, ea, sc, cm, ax, W, X, g, tk, h => by
    cases ea with
    | UnaryOp op e1 p => cases op <;> first | exact no h | exact e_not E.F g.hK (chkE_ok E a g tk h)
    | _ => exact no h
  | .ite c a b, ea, sc, cm, ax, W, X, g, tk, h => by
    cases ea with
    | IfExp e0 e1 e2 p =>
      have h : (chkT t w.G N sc cm c e0 && chkE t w.G N sc cm a e1 && chkE t w.G N sc cm b e2) = true := h
      simp only [Bool.and_eq_true] at h
      exact e_ite (chkT_ok E c g tk h.1.1).1 (chkE_ok E a g tk h.1.2) (chkE_ok E b g tk h.2)
    | _ => exact no h
  | .attr a f, ea, sc, cm, ax, W, X, g, tk, h => by
    cases ea with
    | Attribute e1 f' p =>
      have h : (decide (f = f') && noSuper e1 && (cm || t.npr.contains f) && chkE t w.G N sc cm a e1) = true := h
      simp only [Bool.and_eq_true, decide_eq_true_eq] at h
      obtain ⟨⟨⟨rfl, h1⟩, h2⟩, h3⟩ := h
      refine e_attr E.F E.C g E.O2 h1 (fun hc => ?_) (chkE_ok E a g tk h3)
      rw [hc, Bool.false_or] at h2
      exact E.nm.np f (List.contains_iff_mem.mp h2)
    | _ => exact no h
  | .idx a b, ea, sc, cm, ax, W, X, g, tk, h => by
    cases ea with
    | Subscript e1 e2 p =>
      have h : (noSlice e2 && chkE t w.G N sc cm a e1 && chkE t w.G N sc cm b e2) = true := by cases e2 <;> exact h
      simp only [Bool.and_eq_true] at h
      exact e_idx E.F g.hK h.1.1 (chkE_ok E a g tk h.1.2) (chkE_ok E b g tk h.2)
    | _ => exact no h
  | .slc a lo hi, ea, sc, cm, ax, W, X, g, tk, h => by
    cases ea with
    | Subscript e1 e2 p =>
      cases e2 with
      | Slice l u st p2 =>
        cases st with
        | some _ => exact no h
        | none =>
          have h : (chkE t w.G N sc cm a e1 && (match (generalizing := false) l with | none => isNoe lo | some e1 => !isNoe lo && chkE t w.G N sc cm lo e1) && (match (generalizing := false) u with | none => isNoe hi | some e1 => !isNoe hi && chkE t w.G N sc cm hi e1)) = true := h
          simp only [Bool.and_eq_true] at h
          have part : ∀ {b : Ex} {y : Option Expr}, (∀ e, chkE t w.G N sc cm b e = true → PE X e (tE w ax W o b)) → (match y with | none => isNoe b | some e1 => !isNoe b && chkE t w.G N sc cm b e1) = true → PO X y (tP w ax W o b) := fun {b y} ih q => by
            cases y with
            | none =>
              have q : isNoe b = true := q
              have e : b = .noe := by cases b <;> first | rfl | exact no q
              subst e
              exact part_none
            | some e1 =>
              have q : (!isNoe b && chkE t w.G N sc cm b e1) = true := q
              rw [Bool.and_eq_true] at q
              exact part_some (ih e1 q.2) fun z => by subst z; exact no q.1
          exact e_slc g.hK (chkE_ok E a g tk h.1.1) (part (fun e q => chkE_ok E lo g tk q) h.1.2) (part (fun e q => chkE_ok E hi g tk q) h.2)
      | _ => exact no h
    | _ => exact no h
  | .noe, ea, sc, cm, ax, W, X, g, tk, h => by cases ea <;> exact no h
  | .dnew, ea, sc, cm, ax, W, X, g, tk, h => by
    cases ea with
    | Dict ks vs p =>
      match ks, vs, h with
      | [], [], h => exact e_dnew
      | [], _ :: _, h => exact no h
      | _ :: _, _, h => exact no h
    | _ => exact no h
  | .tup es, ea, sc, cm, ax, W, X, g, tk, h => by
    cases ea with
    | Tuple xs k p =>
      have h : (xs.all notStar && chkEs t w.G N sc cm es xs) = true := h
      rw [Bool.and_eq_true] at h
      exact e_tup (chkEs_ok E es g tk h.1 h.2)
    | _ => exact no h
  | .lst es, ea, sc, cm, ax, W, X, g, tk, h => by
    cases ea with
    | List xs p =>
      have h : (xs.all notStar && chkEs t w.G N sc cm es xs) = true := h
      rw [Bool.and_eq_true] at h
      exact e_lst (chkEs_ok E es g tk h.1 h.2)
    | _ => exact no h
  | .call f es, ea, sc, cm, ax, W, X, g, tk, h => by
    cases ea with
    | Call fn xs kws p =>
      cases kws with
      | cons _ _ => cases fn <;> exact no h
      | nil =>
        cases fn with
        | Name x p2 =>
          have h : (cm && decide (f = x) && glB sc f && t.fns.contains f && xs.all notStar && chkEs t w.G N sc cm es xs) = true := h
          simp only [Bool.and_eq_true, decide_eq_true_eq] at h
          obtain ⟨⟨⟨⟨⟨rfl, rfl⟩, h1⟩, h2⟩, h3⟩, h4⟩ := h
          obtain ⟨k1, k2⟩ := gl_ok g h1
          obtain ⟨k3, k4⟩ := E.nm.fn f (List.contains_iff_mem.mp h2)
          cases xs with
          | nil =>
            cases es with
            | nil => exact e_call0 g E.O1 tk k1 k3 k4 k2
            | cons _ _ => exact no h4
          | cons x1 xs => exact e_call g E.O1 tk k1 k3 k4 k2 h3 (chkEs_ok E es g tk h3 h4)
        | _ => exact no h
    | _ => exact no h
  | .mk c es, ea, sc, cm, ax, W, X, g, tk, h => by
    cases ea with
    | Call fn xs kws p =>
      cases kws with
      | cons _ _ => cases fn <;> first | exact no h | (cases xs <;> exact no h)
      | nil =>
        cases fn with
        | Name x p2 =>
          cases xs with
          | nil => exact no h
          | cons x1 xs =>
            have h : (cm && decide (c = x) && glB sc c && t.cls.contains c && (methOf w.G c "__init__").isSome && (x1 :: xs).all notStar && chkEs t w.G N sc cm es (x1 :: xs)) = true := h
            simp only [Bool.and_eq_true, decide_eq_true_eq] at h
            obtain ⟨⟨⟨⟨⟨⟨rfl, rfl⟩, h1⟩, h2⟩, h5⟩, h3⟩, h4⟩ := h
            have h3 : (x1 :: xs).all notStar = true := by rw [List.all_cons, Bool.and_eq_true]; exact (by simpa using h3)
            obtain ⟨k1, k2⟩ := gl_ok g h1
            exact e_mk E.C g E.O2 tk k1 (E.nm.cl c (List.contains_iff_mem.mp h2)) k2 h3 h5 (chkEs_ok E es g tk h3 h4)
        | _ => exact no h
    | _ => exact no h
  | .meth a m es, ea, sc, cm, ax, W, X, g, tk, h => by
    cases ea with
    | Call fn xs kws p =>
      cases kws with
      | cons _ _ => cases fn <;> exact no h
      | nil =>
        cases fn with
        | Attribute e1 m' p2 =>
          have h : (cm && decide (m = m') && (p2.endLine == p.line) && noSuper e1 && xs.all notStar && decide (xs.length < 20) && chkE t w.G N sc cm a e1 && chkEs t w.G N sc cm es xs) = true := h
          simp only [Bool.and_eq_true] at h
          obtain ⟨⟨⟨⟨⟨⟨⟨h0, h1⟩, h2⟩, h3⟩, h4⟩, h5⟩, h6⟩, h7⟩ := h
          obtain rfl := of_decide_eq_true h1
          subst h0
          cases xs with
          | nil =>
            cases es with
            | nil => exact e_meth0 E.F E.C g E.O1 tk h2 h3 (chkE_ok E a g tk h6)
            | cons _ _ => exact no h7
          | cons x1 xs => exact e_meth E.F E.C g E.O1 tk h2 (few_ok h4 h5) h3 h4 (chkE_ok E a g tk h6) (chkEs_ok E es g tk h4 h7)
        | _ => exact no h
    | _ => exact no h
  | .bf f es, ea, sc, cm, ax, W, X, g, tk, h => by
    cases ea with
    | Call fn xs kws p =>
      cases kws with
      | cons _ _ => cases fn <;> first | exact no h | (cases xs <;> exact no h)
      | nil =>
        cases fn with
        | Name x p2 =>
          cases xs with
          | nil => exact no h
          | cons x1 xs =>
            have h : ((cm || !f.cold) && decide (x = f.name) && glB sc f.name && t.blt.contains f.name && (x1 :: xs).all notStar && chkEs t w.G N sc cm es (x1 :: xs)) = true := h
            rw [Bool.and_eq_true, Bool.and_eq_true, Bool.and_eq_true, Bool.and_eq_true, Bool.and_eq_true] at h
            obtain ⟨⟨⟨⟨⟨h0, h1⟩, h2⟩, h3⟩, h4⟩, h5⟩ := h
            obtain rfl := of_decide_eq_true h1
            obtain ⟨k1, k2⟩ := gl_ok g h2
            refine e_bf E.F g.hK g.hr (fun q => g.hc ?_) k1 (by rw [g.hm]; exact E.nm.bl _ (List.contains_iff_mem.mp h3)) h4 (chkEs_ok E es g tk h4 h5)
            rw [q] at h0
            simpa using h0
        | _ => exact no h
    | _ => exact no h
  | .bm a k es, ea, sc, cm, ax, W, X, g, tk, h => by
    cases ea with
    | Call fn xs kws p =>
      cases kws with
      | cons _ _ => cases fn <;> first | exact no h | (cases xs <;> exact no h)
      | nil =>
        cases fn with
        | Attribute e1 m' p2 =>
          cases xs with
          | nil => exact no h
          | cons x1 xs =>
            have h : (k.here && decide (m' = k.name) && (p2.endLine == p.line) && noSuper e1 && (x1 :: xs).all notStar && decide ((x1 :: xs).length < 30) && chkE t w.G N sc cm a e1 && chkEs t w.G N sc cm es (x1 :: xs)) = true := h
            rw [Bool.and_eq_true, Bool.and_eq_true, Bool.and_eq_true, Bool.and_eq_true, Bool.and_eq_true, Bool.and_eq_true, Bool.and_eq_true] at h
            obtain ⟨⟨⟨⟨⟨⟨⟨h0, h1⟩, h2⟩, h3⟩, h4⟩, h5⟩, h6⟩, h7⟩ := h
            obtain rfl := of_decide_eq_true h1
            exact e_bm h0 E.F g.hK g.hr.units h2 h3 h4 h5 (chkE_ok E a g tk h6) (chkEs_ok E es g tk h4 h7)
        | _ => exact no h
    | _ => exact no h
  | .cv i es, ea, sc, cm, ax, W, X, g, tk, h => by
    cases ea with
    | Call fn xs kws p =>
      cases kws with
      | cons _ _ => cases fn <;> first | exact no h | (cases xs <;> exact no h)
      | nil =>
        cases fn with
        | Name x p2 =>
          cases xs with
          | nil => exact no h
          | cons x1 xs =>
            have h : (cm && decide (N[i]? = some x) && visB sc x && (x1 :: xs).all notStar && chkEs t w.G N sc cm es (x1 :: xs)) = true := h
            rw [Bool.and_eq_true, Bool.and_eq_true, Bool.and_eq_true, Bool.and_eq_true] at h
            obtain ⟨⟨⟨⟨h0, h1⟩, h2⟩, h4⟩, h5⟩ := h
            subst h0
            obtain ⟨k1, k2, k3⟩ := vis_ok g h2
            exact e_cv E.F E.C g E.O1 E.L1 tk (by rw [g.hN]; exact of_decide_eq_true h1) k1 k2 k3 h4 (chkEs_ok E es g tk h4 h5)
        | _ => exact no h
    | _ => exact no h
  | .lc e own tg it cd, ea, sc, cm, ax, W, X, g, tk, h => by
    cases ea with
    | ListComp elt gens scope p =>
      match gens, h with
      | [], h => exact no h
      | ⟨_, _, _, _⟩ :: _ :: _, h => exact no h
      | [⟨tgt, iter, ifs, isa⟩], h =>
        have h : (decide (isa = 0) && cm && blkC N sc scope (own.map fun i => ((N[i]?).getD "", i)) && tg.all (fun i => own.contains i) && noSetI iter && chkI t w.G N sc cm it tg.length tgt iter && chkTg false N (relS scope sc) tg tgt &&
          (match (generalizing := false) ifs with
          | [] => (match (generalizing := false) cd with | .yes => true | _ => false)
          | [c] => chkT t w.G N (relS scope sc) cm cd c
          | _ => false) && chkE t w.G N (relS scope sc) cm e elt) = true := h
        rw [Bool.and_eq_true, Bool.and_eq_true, Bool.and_eq_true, Bool.and_eq_true, Bool.and_eq_true, Bool.and_eq_true, Bool.and_eq_true, Bool.and_eq_true] at h
        obtain ⟨⟨⟨⟨⟨⟨⟨⟨hz, h0⟩, h1⟩, h2⟩, h3⟩, h4⟩, h5⟩, h6⟩, h7⟩ := h
        obtain rfl := of_decide_eq_true hz
        subst h0
        have hown : (own.map fun i => (((N[i]?).getD "", i) : Str × Nat)).map (·.2) = own := by
          rw [List.map_map]
          exact List.map_id own
        have hts : ∀ Y, blkX X scope Y → PTs Y ifs (tT w none WF o cd) := fun Y hy => by
          cases ifs with
          | nil =>
            have : cd = .yes := by cases cd <;> first | rfl | exact no h6
            subst this
            exact t_yes
          | cons c r =>
            cases r with
            | nil => exact pts_one (chkT_ok E cd (g.blk hy) (takes_blk hy) h6).1
            | cons _ _ => exact no h6
        have z := e_lc (own := own.map fun i => ((N[i]?).getD "", i)) (e := e) (cd := cd) (tgl := tg) (it := it) (pos := p) (elt := elt) (iter := iter) (ifs := ifs) (W := W) (tg := tgt) g h1 (fun i hi => by rw [hown]; exact List.contains_iff_mem.mp (List.all_eq_true.mp h2 i hi)) h3 (chkI_ok E it g tk h4) (fun Y hy => chkTg_ok (fun z => no z) (g.blk hy) h5) hts (fun Y hy => chkE_ok E e (g.blk hy) (takes_blk hy) h7)
        rw [hown] at z
        exact z
    | _ => exact no h
  | .lc2 e own tg it cd tg1 it1 cd1, ea, sc, cm, ax, W, X, g, tk, h => by
    cases ea with
    | ListComp elt gens scope p =>
      match gens, h with
      | [], h => exact no h
      | [⟨_, _, _, _⟩], h => exact no h
      | ⟨_, _, _, _⟩ :: ⟨_, _, _, _⟩ :: _ :: _, h => exact no h
      | [⟨tgt, iter, ifs, isa⟩, ⟨tgt1, iter1, ifs1, isa1⟩], h =>
        have h : (decide (isa = 0) && decide (isa1 = 0) && cm && blkC N sc scope (own.map fun i => ((N[i]?).getD "", i)) && tg.all (fun i => own.contains i) && tg1.all (fun i => own.contains i) && noSetI iter && noSetI iter1 && chkI t w.G N sc cm it tg.length tgt iter && chkTg false N (relS scope sc) tg tgt &&
          (match (generalizing := false) ifs with
          | [] => (match (generalizing := false) cd with | .yes => true | _ => false)
          | [c] => chkT t w.G N (relS scope sc) cm cd c
          | _ => false) && chkI t w.G N (relS scope sc) cm it1 tg1.length tgt1 iter1 && chkTg false N (relS scope sc) tg1 tgt1 &&
          (match (generalizing := false) ifs1 with
          | [] => (match (generalizing := false) cd1 with | .yes => true | _ => false)
          | [c] => chkT t w.G N (relS scope sc) cm cd1 c
          | _ => false) && chkE t w.G N (relS scope sc) cm e elt) = true := h
        iterate 14 rw [Bool.and_eq_true] at h
        obtain ⟨⟨⟨⟨⟨⟨⟨⟨⟨⟨⟨⟨⟨⟨hz, hz1⟩, h0⟩, h1⟩, h2⟩, h21⟩, h3⟩, h31⟩, h4⟩, h5⟩, h6⟩, h41⟩, h51⟩, h61⟩, h7⟩ := h
        obtain rfl := of_decide_eq_true hz
        obtain rfl := of_decide_eq_true hz1
        subst h0
        have hown : (own.map fun i => (((N[i]?).getD "", i) : Str × Nat)).map (·.2) = own := by
          rw [List.map_map]
          exact List.map_id own
        have hts : ∀ Y, blkX X scope Y → PTs Y ifs (tT w none WF o cd) := fun Y hy => by
          cases ifs with
          | nil =>
            have : cd = .yes := by cases cd <;> first | rfl | exact no h6
            subst this
            exact t_yes
          | cons c r =>
            cases r with
            | nil => exact pts_one (chkT_ok E cd (g.blk hy) (takes_blk hy) h6).1
            | cons _ _ => exact no h6
        have hts1 : ∀ Y, blkX X scope Y → PTs Y ifs1 (tT w none WF o cd1) := fun Y hy => by
          cases ifs1 with
          | nil =>
            have : cd1 = .yes := by cases cd1 <;> first | rfl | exact no h61
            subst this
            exact t_yes
          | cons c r =>
            cases r with
            | nil => exact pts_one (chkT_ok E cd1 (g.blk hy) (takes_blk hy) h61).1
            | cons _ _ => exact no h61
        have z := e_lc2 (own := own.map fun i => ((N[i]?).getD "", i)) (e := e) (cd := cd) (cd1 := cd1) (tgl := tg) (tg1 := tg1) (it := it) (it1 := it1) (pos := p) (elt := elt) (iter := iter) (iter1 := iter1) (ifs := ifs) (ifs1 := ifs1) (W := W) (tg := tgt) (tgt1 := tgt1) g h1 (fun i hi => by rw [hown]; exact List.contains_iff_mem.mp (List.all_eq_true.mp h2 i hi)) (fun i hi => by rw [hown]; exact List.contains_iff_mem.mp (List.all_eq_true.mp h21 i hi)) h3 h31 (chkI_ok E it g tk h4) (fun Y hy => chkTg_ok (fun z => no z) (g.blk hy) h5) hts (fun Y hy => chkI_ok E it1 (g.blk hy) (takes_blk hy) h41) (fun Y hy => chkTg_ok (fun z => no z) (g.blk hy) h51) hts1 (fun Y hy => chkE_ok E e (g.blk hy) (takes_blk hy) h7)
        rw [hown] at z
        exact z
    | _ => exact no h
  | .lam N1 e, ea, sc, cm, ax, W, X, g, tk, h => by
    cases ea with
    | Lambda params body scope pos =>
      match params, h with
      | ⟨[], [⟨x, none, px⟩], none, [], [], none, []⟩, h =>
        have h : (N.contains "#" && !N1.contains "#" && (decide (x = "one") || decide (x = "word")) && decide (N1[0]? = some x) && fnScB N1 [x] scope && chkE t w.G N1 scope true e body) = true := h
        rw [Bool.and_eq_true, Bool.and_eq_true, Bool.and_eq_true, Bool.and_eq_true, Bool.and_eq_true] at h
        obtain ⟨⟨⟨⟨⟨h1, h0⟩, hx⟩, h2⟩, h3⟩, h4⟩ := h
        simp only [Bool.or_eq_true, decide_eq_true_eq] at hx
        obtain ⟨c, Pt, q, hc⟩ := g.mkr h1
        exact e_lam g hc (E.lok _ _ ⟨N1, x, px, rfl, rfl, rfl, hx, by simpa using h0, fnScB_ok h3, h4⟩) ⟨rfl, rfl⟩ (fnScB_ok h3).nofree
      | ⟨_ :: _, _, _, _, _, _, _⟩, h => exact no h
      | ⟨[], [], _, _, _, _, _⟩, h => exact no h
      | ⟨[], ⟨_, none, _⟩ :: _ :: _, _, _, _, _, _⟩, h => exact no h
      | ⟨[], ⟨_, some _, _⟩ :: _ :: _, _, _, _, _, _⟩, h => exact no h
      | ⟨[], [⟨_, some _, _⟩], _, _, _, _, _⟩, h => exact no h
      | ⟨[], [⟨_, none, _⟩], some _, _, _, _, _⟩, h => exact no h
      | ⟨[], [⟨_, none, _⟩], none, _ :: _, _, _, _⟩, h => exact no h
      | ⟨[], [⟨_, none, _⟩], none, [], _ :: _, _, _⟩, h => exact no h
      | ⟨[], [⟨_, none, _⟩], none, [], [], some _, _⟩, h => exact no h
      | ⟨[], [⟨_, none, _⟩], none, [], [], none, _ :: _⟩, h => exact no h
    | _ => exact no h
  | .callk f p0 es ks, ea, sc, cm, ax, W, X, g, tk, h => by
    cases ea with
    | Call fn xs kws p =>
      cases fn with
      | Name x p2 =>
        cases xs with
        | nil => exact no h
        | cons x1 xs =>
          have h : (cm && decide (f = x) && glB sc f && t.fns.contains f && (x1 :: xs).all notStar && kwNames kws p0.ks && chkEs t w.G N sc cm es (x1 :: xs) && chkKs t w.G N sc cm ks kws) = true := h
          rw [Bool.and_eq_true, Bool.and_eq_true, Bool.and_eq_true, Bool.and_eq_true, Bool.and_eq_true, Bool.and_eq_true, Bool.and_eq_true] at h
          obtain ⟨⟨⟨⟨⟨⟨⟨h0, h00⟩, h1⟩, h2⟩, h3⟩, h6⟩, h4⟩, h5⟩ := h
          obtain rfl := of_decide_eq_true h00
          subst h0
          obtain ⟨k1, k2⟩ := gl_ok g h1
          obtain ⟨k3, k4⟩ := E.nm.fn f (List.contains_iff_mem.mp h2)
          exact e_callk g E.K1 tk k1 k3 k4 k2 h3 h6 (chkEs_ok E es g tk h3 h4) (chkKs_ok E ks g tk h5)
      | _ => cases xs <;> exact no h
    | _ => exact no h
  | .mkk c p0 es ks, ea, sc, cm, ax, W, X, g, tk, h => by
    cases ea with
    | Call fn xs kws p =>
      cases fn with
      | Name x p2 =>
        cases xs with
        | nil => exact no h
        | cons x1 xs =>
          have h : (cm && decide (c = x) && glB sc c && t.cls.contains c && (methOf w.G c "__init__").isSome && (x1 :: xs).all notStar && kwNames kws p0.ks && chkEs t w.G N sc cm es (x1 :: xs) && chkKs t w.G N sc cm ks kws) = true := h
          rw [Bool.and_eq_true, Bool.and_eq_true, Bool.and_eq_true, Bool.and_eq_true, Bool.and_eq_true, Bool.and_eq_true, Bool.and_eq_true, Bool.and_eq_true] at h
          obtain ⟨⟨⟨⟨⟨⟨⟨⟨h0, h00⟩, h1⟩, h2⟩, h7⟩, h3⟩, h6⟩, h4⟩, h5⟩ := h
          obtain rfl := of_decide_eq_true h00
          subst h0
          obtain ⟨k1, k2⟩ := gl_ok g h1
          exact e_mkk E.C g E.K2 tk k1 (E.nm.cl c (List.contains_iff_mem.mp h2)) k2 h3 h6 h7 (chkEs_ok E es g tk h3 h4) (chkKs_ok E ks g tk h5)
      | _ => cases xs <;> exact no h
    | _ => exact no h
  | .sto a, ea, sc, cm, ax, W, X, g, tk, h => by
    cases ea with
    | Call fn xs kws p =>
      cases fn with
      | Name x p2 =>
        match xs, kws, h with
        | [x1], [], h =>
          have h : (cm && decide (x = "str") && glB sc x && t.blt.contains x && notStar x1 && chkE t w.G N sc cm a x1) = true := h
          rw [Bool.and_eq_true, Bool.and_eq_true, Bool.and_eq_true, Bool.and_eq_true, Bool.and_eq_true] at h
          obtain ⟨⟨⟨⟨⟨h0, h1⟩, h2⟩, h3⟩, h4⟩, h5⟩ := h
          obtain rfl := of_decide_eq_true h1
          subst h0
          exact e_sto E.F E.C g E.O2 (gl_ok g h2).1 (by rw [g.hm]; exact E.nm.bl _ (List.contains_iff_mem.mp h3)) h4 (chkE_ok E a g tk h5)
        | [], _, h => exact no h
        | [_], _ :: _, h => exact no h
        | _ :: _ :: _, _, h => exact no h
      | _ => exact no h
    | _ => exact no h
  | .cmpo op a b, ea, sc, cm, ax, W, X, g, tk, h => by
    cases ea with
    | Compare e1 ops es p =>
      match ops, es, h with
      | [op'], [e2], h =>
        have h : (cm && decide (op = op') && noSet e2 && chkE t w.G N sc cm a e1 && chkE t w.G N sc cm b e2) = true := h
        simp only [Bool.and_eq_true, decide_eq_true_eq] at h
        obtain ⟨⟨⟨⟨rfl, rfl⟩, h0⟩, h1⟩, h2⟩ := h
        exact e_cmpo E.F E.C g E.O1 E.O2 h0 (chkE_ok E a g tk h1) (chkE_ok E b g tk h2)
      | [], _, h => exact no h
      | [_], [], h => exact no h
      | [_], _ :: _ :: _, h => exact no h
      | _ :: _ :: _, _, h => exact no h
    | _ => exact no h
theorem chkT_ok (E : Evd w t P wl base j o) : ∀ (e : Tt) {ea : Expr} {sc : Scope} {cm : Bool} {ax : Ax} {W : WX} {X : Cx}, Good w ax P wl base (j + 1) N sc cm X → Takes X W → chkT t w.G N sc cm e ea = true → PT X ea (tT w ax W o e) ∧ (isBop ea = true → PW X ea (tT w ax W o e))
  | .val e, ea, sc, cm, ax, W, X, g, tk, h => by
    have h : ((plainT ea || isCmp ea) && chkE t w.G N sc cm e ea) = true := h
    rw [Bool.and_eq_true] at h
    refine ⟨?_, fun z => by cases ea <;> first | exact no z | exact no h.1⟩
    cases hp : plainT ea with
    | true => exact t_val E.F g.hK hp (chkE_ok E e g tk h.2)
    | false =>
      rw [hp, Bool.false_or] at h
      obtain ⟨hc, h⟩ := h
      cases ea with
      | Compare e1 ops es p =>
        cases e with
        | cmp op a b =>
          match ops, es, h with
          | [op'], [e2], h =>
            have h : (decide (op = op') && noSet e2 && chkE t w.G N sc cm a e1 && chkE t w.G N sc cm b e2) = true := h
            simp only [Bool.and_eq_true, decide_eq_true_eq] at h
            obtain ⟨⟨⟨rfl, h0⟩, h1⟩, h2⟩ := h
            exact t_cmp E.F g.hK g.hr.units h0 (chkE_ok E a g tk h1) (chkE_ok E b g tk h2)
          | [], _, h => exact no h
          | [_], [], h => exact no h
          | [_], _ :: _ :: _, h => exact no h
          | _ :: _ :: _, _, h => exact no h
        | chain op op2 a b c =>
          match ops, es, h with
          | [op', op2'], [e2, e3], h =>
            have h : (decide (op = op') && decide (op2 = op2') && noSet e2 && noSet e3 && chkE t w.G N sc cm a e1 && chkE t w.G N sc cm b e2 && chkE t w.G N sc cm c e3) = true := h
            simp only [Bool.and_eq_true, decide_eq_true_eq] at h
            obtain ⟨⟨⟨⟨⟨⟨rfl, rfl⟩, h0⟩, h3⟩, h1⟩, h2⟩, h4⟩ := h
            exact t_chain E.F g.hK g.hr.units h3 (chkE_ok E a g tk h1) (chkE_ok E b g tk h2) (chkE_ok E c g tk h4)
          | [], _, h => exact no h
          | [_], _, h => exact no h
          | [_, _], [], h => exact no h
          | [_, _], [_], h => exact no h
          | [_, _], _ :: _ :: _ :: _, h => exact no h
          | _ :: _ :: _ :: _, _, h => exact no h
        | cmpo op a b =>
          match ops, es, h with
          | [op'], [e2], h =>
            have h : (cm && decide (op = op') && noSet e2 && chkE t w.G N sc cm a e1 && chkE t w.G N sc cm b e2) = true := h
            simp only [Bool.and_eq_true, decide_eq_true_eq] at h
            obtain ⟨⟨⟨⟨rfl, rfl⟩, h0⟩, h1⟩, h2⟩ := h
            exact t_cmpo E.F E.C g E.O1 E.O2 h0 (chkE_ok E a g tk h1) (chkE_ok E b g tk h2)
          | [], _, h => exact no h
          | [_], [], h => exact no h
          | [_], _ :: _ :: _, h => exact no h
          | _ :: _ :: _, _, h => exact no h
        | cst v => cases v <;> exact no h
        | _ => exact no h
      | _ => exact no hc
  | .yes, ea, sc, cm, ax, W, X, g, tk, h => by cases ea <;> exact no h
  | .and a b, ea, sc, cm, ax, W, X, g, tk, h => by
    cases ea with
    | BoolOp op es p =>
      cases op with
      | Or => exact no h
      | And =>
        match es, h with
        | [], h => exact no h
        | [_], h => exact no h
        | e1 :: e2 :: rest, h =>
          have h : (chkT t w.G N sc cm a e1 && (if rest.isEmpty then chkT t w.G N sc cm b e2 else chkT t w.G N sc cm b (.BoolOp .And (e2 :: rest) p))) = true := h
          rw [Bool.and_eq_true] at h
          have q : PW X (.BoolOp .And (e1 :: e2 :: rest) p) (tT w ax W o (.and a b)) := by
            refine t_and (chkT_ok E a g tk h.1).1 ?_
            cases rest with
            | nil => exact pw_and1 (chkT_ok E b g tk h.2).1
            | cons e3 rest => exact (chkT_ok E b g tk h.2).2 rfl
          exact ⟨q.pt, fun _ => q⟩
    | _ => exact no h
  | .or a b, ea, sc, cm, ax, W, X, g, tk, h => by
    cases ea with
    | BoolOp op es p =>
      cases op with
      | And => exact no h
      | Or =>
        match es, h with
        | [], h => exact no h
        | [_], h => exact no h
        | e1 :: e2 :: rest, h =>
          have h : (chkT t w.G N sc cm a e1 && (if rest.isEmpty then chkT t w.G N sc cm b e2 else chkT t w.G N sc cm b (.BoolOp .Or (e2 :: rest) p))) = true := h
          rw [Bool.and_eq_true] at h
          have q : PW X (.BoolOp .Or (e1 :: e2 :: rest) p) (tT w ax W o (.or a b)) := by
            refine t_or (chkT_ok E a g tk h.1).1 ?_
            cases rest with
            | nil => exact pw_or1 (chkT_ok E b g tk h.2).1
            | cons e3 rest => exact (chkT_ok E b g tk h.2).2 rfl
          exact ⟨q.pt, fun _ => q⟩
    | _ => exact no h
  | .not a, ea, sc, cm, ax, W, X, g, tk, h => by
    cases ea with
    | UnaryOp op e1 p => cases op <;> first | exact no h | exact ⟨t_not (chkT_ok E a g tk h).1, fun z => no z⟩
    | _ => exact no h
theorem chkI_ok (E : Evd w t P wl base j o) : ∀ (it : It) {n : Nat} {tgt ea : Expr} {sc : Scope} {cm : Bool} {ax : Ax} {W : WX} {X : Cx}, Good w ax P wl base (j + 1) N sc cm X → Takes X W → chkI t w.G N sc cm it n tgt ea = true → PI X tgt ea (tI w ax W o n it)
  | .val e, n, tgt, ea, sc, cm, ax, W, X, g, tk, h => i_val E.F g.hK (chkE_ok E e g tk h)
  | .rng .nil, n, tgt, ea, sc, cm, ax, W, X, g, tk, h => no h
  | .rng (.cons a .nil), n, tgt, ea, sc, cm, ax, W, X, g, tk, h => by
    cases ea with
    | Call fn xs kws p =>
      cases fn with
      | Name x p2 =>
        match xs, kws, h with
        | [e1], [], h =>
          have h : (decide (x = ("range" : Str)) && glB sc x && t.blt.contains x && notStar e1 && chkE t w.G N sc cm a e1) = true := h
          simp only [Bool.and_eq_true, decide_eq_true_eq] at h
          obtain ⟨⟨⟨⟨rfl, h1⟩, h2⟩, h3⟩, h4⟩ := h
          exact i_rng1 (gl_ok g h1).1 (by rw [g.hm]; exact E.nm.bl _ (List.contains_iff_mem.mp h2)) h3 (as_cons h3 (chkE_ok E a g tk h4) as_nil)
        | [], _, h => exact no h
        | [_], _ :: _, h => exact no h
        | _ :: _ :: _, _, h => exact no h
      | _ => exact no h
    | _ => exact no h
  | .rng (.cons a (.cons b .nil)), n, tgt, ea, sc, cm, ax, W, X, g, tk, h => by
    cases ea with
    | Call fn xs kws p =>
      cases fn with
      | Name x p2 =>
        match xs, kws, h with
        | [e1, e2], [], h =>
          have h : (decide (x = ("range" : Str)) && glB sc x && t.blt.contains x && notStar e1 && notStar e2 && chkE t w.G N sc cm a e1 && chkE t w.G N sc cm b e2) = true := h
          simp only [Bool.and_eq_true, decide_eq_true_eq] at h
          obtain ⟨⟨⟨⟨⟨⟨rfl, h1⟩, h2⟩, h3⟩, h5⟩, h4⟩, h6⟩ := h
          exact i_rng2 (gl_ok g h1).1 (by rw [g.hm]; exact E.nm.bl _ (List.contains_iff_mem.mp h2)) h3 h5 (as_cons h3 (chkE_ok E a g tk h4) (as_cons h5 (chkE_ok E b g tk h6) as_nil))
        | [], _, h => exact no h
        | [_], _, h => exact no h
        | [_, _], _ :: _, h => exact no h
        | _ :: _ :: _ :: _, _, h => exact no h
      | _ => exact no h
    | _ => exact no h
  | .rng (.cons a (.cons b (.cons c .nil))), n, tgt, ea, sc, cm, ax, W, X, g, tk, h => by
    cases ea with
    | Call fn xs kws p =>
      cases fn with
      | Name x p2 =>
        match xs, kws, h with
        | [e1, e2, e3], [], h =>
          have h : (decide (x = ("range" : Str)) && glB sc x && t.blt.contains x && notStar e1 && notStar e2 && notStar e3 && chkE t w.G N sc cm a e1 && chkE t w.G N sc cm b e2 && chkE t w.G N sc cm c e3) = true := h
          simp only [Bool.and_eq_true, decide_eq_true_eq] at h
          obtain ⟨⟨⟨⟨⟨⟨⟨⟨rfl, h1⟩, h2⟩, h3⟩, h5⟩, h7⟩, h4⟩, h6⟩, h8⟩ := h
          exact i_rng3 (gl_ok g h1).1 (by rw [g.hm]; exact E.nm.bl _ (List.contains_iff_mem.mp h2)) h3 (by simp [h5, h7]) (as_cons h3 (chkE_ok E a g tk h4) (as_cons h5 (chkE_ok E b g tk h6) (as_cons h7 (chkE_ok E c g tk h8) as_nil)))
        | [], _, h => exact no h
        | [_], _, h => exact no h
        | [_, _], _, h => exact no h
        | [_, _, _], _ :: _, h => exact no h
        | _ :: _ :: _ :: _ :: _, _, h => exact no h
      | _ => exact no h
    | _ => exact no h
  | .rng (.cons a (.cons b (.cons c (.cons d es)))), n, tgt, ea, sc, cm, ax, W, X, g, tk, h => no h
  | .enm a, n, tgt, ea, sc, cm, ax, W, X, g, tk, h => by
    cases tgt with
    | Tuple elts k p0 =>
      cases ea with
      | Call fn xs kws p =>
        cases fn with
        | Name x p2 =>
          match xs, kws, h with
          | [e1], [], h =>
            have h : (decide (x = ("enumerate" : Str)) && glB sc x && t.blt.contains x && notStar e1 && chkE t w.G N sc cm a e1) = true := h
            simp only [Bool.and_eq_true, decide_eq_true_eq] at h
            obtain ⟨⟨⟨⟨rfl, h1⟩, h2⟩, h3⟩, h4⟩ := h
            exact i_enm E.F g.hK (gl_ok g h1).1 (by rw [g.hm]; exact E.nm.bl _ (List.contains_iff_mem.mp h2)) h3 (chkE_ok E a g tk h4)
          | [], _, h => exact no h
          | [_], _ :: _, h => exact no h
          | _ :: _ :: _, _, h => exact no h
        | _ => exact no h
      | _ => exact no h
    | _ => exact no h
  | .zp a b, n, tgt, ea, sc, cm, ax, W, X, g, tk, h => no h
theorem chkEs_ok (E : Evd w t P wl base j o) : ∀ (es : Exs) {xs : List Expr} {sc : Scope} {cm : Bool} {ax : Ax} {W : WX} {X : Cx}, Good w ax P wl base (j + 1) N sc cm X → Takes X W → xs.all notStar = true → chkEs t w.G N sc cm es xs = true → PA X xs (tEs w ax W o es)
  | .nil, xs, sc, cm, ax, W, X, g, tk, hn, h => by
    cases xs with
    | nil => exact as_nil
    | cons _ _ => exact no h
  | .cons a as, xs, sc, cm, ax, W, X, g, tk, hn, h => by
    cases xs with
    | nil => exact no h
    | cons x1 xs =>
      have h : (chkE t w.G N sc cm a x1 && chkEs t w.G N sc cm as xs) = true := h
      rw [Bool.and_eq_true] at h
      rw [List.all_cons, Bool.and_eq_true] at hn
      exact as_cons hn.1 (chkE_ok E a g tk h.1) (chkEs_ok E as g tk hn.2 h.2)
theorem chkKs_ok (E : Evd w t P wl base j o) : ∀ (es : Exs) {xs : List Keyword} {sc : Scope} {cm : Bool} {ax : Ax} {W : WX} {X : Cx}, Good w ax P wl base (j + 1) N sc cm X → Takes X W → chkKs t w.G N sc cm es xs = true → PK X xs (tEs w ax W o es)
  | .nil, xs, sc, cm, ax, W, X, g, tk, h => by
    cases xs with
    | nil => exact k_nil
    | cons _ _ => exact no h
  | .cons a as, xs, sc, cm, ax, W, X, g, tk, h => by
    match xs, h with
    | [], h => exact no h
    | ⟨nm, x1, kp⟩ :: xs, h =>
      have h : (chkE t w.G N sc cm a x1 && chkKs t w.G N sc cm as xs) = true := h
      rw [Bool.and_eq_true] at h
      exact k_cons (chkE_ok E a g tk h.1) (chkKs_ok E as g tk h.2)
end
end
end Dv

set_option linter.all false
set_option autoImplicit false
set_option maxRecDepth 100000
set_option maxHeartbeats 4000000
namespace Dv
open PySem L2 PySem.Spec PyProof.Rows
/-- does a stored comprehension swap its name (on one line) -/
def swLc (sc : Scope) (value : Expr) (x : Str) (p : Pos) : Bool := match value with
  | .ListComp _ _ scope _ => ((if sc.kind.isAnnotationScope then ScopeKind.function else sc.kind) == .function) && (sc.names.lookup x == some .local) && (p.line == value.pos.line) && !(scope.names.any fun (n, k) => n == x && (k == .local || k == .cell))
  | _ => false
def notSD : Expr → Bool
  | .SetComp _ _ _ _ => false
  | .DictComp _ _ _ _ _ => false
  | _ => true
def nameB (N : List Str) (sc : Scope) : Option Nat → Option Str → Bool
  | none, none => true
  | some i, some n => decide (N[i]? = some n) && decide (sc.names.lookup n = some .local)
  | _, _ => false
section
variable (t : Nm) (G : Tx) (N : List Str) (sc : Scope)
mutual
def chkS : Bool → St → Stmt → Bool
  | _, .skip, .Pass _ => true
  | _, .skip, .Expr (.Constant (.str _) _ _) _ => true
  | cm, .expr e, .Expr ea _ => noComp ea && chkE t G N sc cm e ea
  | cm, .ret e, .Return (some ea) _ => chkE t G N sc cm e ea
  | _, .ret (.cst .non), .Return none _ => true
  | cm, .ifs c a b, .If ec xs ys _ => chkT t G N sc cm c ec && chkSs cm a xs && chkSs cm b ys
  | cm, .asg (.one i) e, .Assign [.Name x p'] ea _ => decide (N[i]? = some x) && locB true sc x && notSD ea && chkE t G N sc cm e ea
  | cm, .asg (.many is) e, .Assign [.Tuple es k p'] ea _ => cm && (is.length != 1) && chkN true N sc is es && decide (swB sc (.Tuple es k p') ea = some none) && noComp ea && chkE t G N sc cm e ea
  | cm, .par [i, j] as, .Assign [.Tuple [.Name x px, .Name y py] kt pt] (.Tuple [ea, eb] k2 pt2) _ => cm && decide (N[i]? = some x) && decide (N[j]? = some y) && decide (i ≠ j) && decide (sc.names.lookup x = some .local) && decide (sc.names.lookup y = some .local) &&
      decide (swB sc (.Tuple [.Name x px, .Name y py] kt pt) (.Tuple [ea, eb] k2 pt2) = some (some [x, y])) && [ea, eb].all notStar && chkEs t G N sc cm as [ea, eb]
  | cm, .par [i, j, l] as, .Assign [.Tuple [.Name x px, .Name y py, .Name z pz] kt pt] (.Tuple [ea, eb, ec] k2 pt2) _ => cm && decide (N[i]? = some x) && decide (N[j]? = some y) && decide (N[l]? = some z) && decide (i ≠ j) && decide (i ≠ l) && decide (j ≠ l) && decide (sc.names.lookup x = some .local) && decide (sc.names.lookup y = some .local) && decide (sc.names.lookup z = some .local) &&
      decide (swB sc (.Tuple [.Name x px, .Name y py, .Name z pz] kt pt) (.Tuple [ea, eb, ec] k2 pt2) = some (some [x, y, z])) && [ea, eb, ec].all notStar && chkEs t G N sc cm as [ea, eb, ec]
  | cm, .fld b f a, .Assign [.Attribute eb f' _] ea _ => decide (f = f') && noComp ea && chkE t G N sc cm b eb && chkE t G N sc cm a ea
  | cm, .seti b c a, .Assign [.Subscript eb ec _] ea _ => noSlice ec && noComp ea && chkE t G N sc cm b eb && chkE t G N sc cm c ec && chkE t G N sc cm a ea
  | cm, .aug i op a, .AugAssign (.Name x _) op' ea _ => decide (N[i]? = some x) && locB true sc x && decide (op = op') && (decide (op = .Add) || decide (op = .Sub)) && chkE t G N sc cm a ea
  | cm, .augf b f .Add a, .AugAssign (.Attribute eb f' _) .Add ea _ => decide (f = f') && chkE t G N sc cm b eb && chkE t G N sc cm a ea
  | cm, .for_ tg it b, .For tgt iter body [] _ => cm && noSetI iter && chkI t G N sc cm it tg.length tgt iter && chkTg true N sc tg tgt && chkSs cm b body
  | cm, .whl c b, .While ec body [] _ => chkT t G N sc cm c ec && chkSs cm b body
  | _, .brk, .Break _ => true
  | _, .cnt, .Continue _ => true
  | cm, .rais c (.cons a .nil), .Raise (some (.Call (.Name x _) [ea] [] _)) none _ => cm && decide (c = x) && glB sc c && t.cls.contains c && ((G.cls c).bind (·.exc)).isSome && notStar ea && chkE t G N sc cm a ea
  | cm, .try_ b hs, .Try body (h0 :: hds) [] [] _ => cm && chkSs cm b body && hndOk G hs && chkH hs (h0 :: hds)
  | _, _, _ => false
def chkSs : Bool → St → List Stmt → Bool
  | _, .skip, [] => true
  | cm, .seq a b, st :: rest => chkS cm a st && chkSs cm b rest
  | _, _, _ => false
def chkH : St → List ExceptHandler → Bool
  | .hnil, [] => true
  | .hnd c sl su rest, .ExceptHandler (some (.Name x _)) nm (st :: suite) _ :: hs => decide (c = x) && glB sc c && t.cls.contains c && nameB N sc sl nm && chkSs false su (st :: suite) && chkH rest hs
  | _, _ => false
end
end
end Dv

set_option linter.all false
set_option autoImplicit false
set_option maxRecDepth 100000
set_option maxHeartbeats 8000000
namespace Dv
open PySem L2 PySem.Spec PyProof.Rows
structure SGood (X : Cx) : Prop where
  st : X.stack = X.env :: X.outer
  fr : X.env.frame = some X.env.locals
  po : PassesOwn (model X.prog X.w) X.A X.env X.xe
  fn : ∀ x, X.fn x = true
section
variable {w : Wd} {o : Orc} {P : Program} {wl : World} {base : Heap} {j : Nat} {N : List Str} {t : Nm} {sc : Scope}
theorem sw_lc {ea : Expr} {x : Str} {p' : Pos} {l : Nat} {env : Env} (hs : env.scope = sc) (hn : notSD ea = true) : swapsWith ea (some (.Name x p')) l env = pure (swLc sc ea x p') := by
  subst hs
  cases ea <;> first | rfl | exact no hn
theorem lc_parts (E : Evd w t P wl base j o) {e : Ex} {own tg : List Nat} {it : It} {cd : Tt} {elt : Expr} {gens : List Comprehension} {scope : Scope} {p : Pos} {cm : Bool} {ax : Ax} {W : WX} {X : Cx} (g : Good w ax P wl base (j + 1) N sc cm X) (tk : Takes X W)
    (h : chkE t w.G N sc cm (.lc e own tg it cd) (.ListComp elt gens scope p) = true) :
    ∃ tgt iter ifs, gens = [⟨tgt, iter, ifs, 0⟩] ∧ cm = true ∧ blkC N sc scope (own.map fun i => ((N[i]?).getD "", i)) = true ∧ (∀ i ∈ tg, i ∈ own) ∧ noSetI iter = true ∧ PI X tgt iter (tI w ax W o tg.length it) ∧ (cm = true → ∀ Y, blkX X scope Y → PG Y tgt (gTg w.K tg)) ∧ (cm = true → ∀ Y, blkX X scope Y → PTs Y ifs (tT w none WF o cd)) ∧ (cm = true → ∀ Y, blkX X scope Y → PE Y elt (tE w none WF o e)) := by
  match gens, h with
  | [], h => exact no h
  | ⟨_, _, _, _⟩ :: _ :: _, h => exact no h
  | [⟨tgt, iter, ifs, isa⟩], h =>
    have h : (decide (isa = 0) && cm && blkC N sc scope (own.map fun i => ((N[i]?).getD "", i)) && tg.all (fun i => own.contains i) && noSetI iter && chkI t w.G N sc cm it tg.length tgt iter && chkTg false N (relS scope sc) tg tgt &&
      (match (generalizing := false) ifs with
      | [] => (match (generalizing := false) cd with | .yes => true | _ => false)
      | [c] => chkT t w.G N (relS scope sc) cm cd c
      | _ => false) && chkE t w.G N (relS scope sc) cm e elt) = true := h
    rw [Bool.and_eq_true, Bool.and_eq_true, Bool.and_eq_true, Bool.and_eq_true, Bool.and_eq_true, Bool.and_eq_true, Bool.and_eq_true, Bool.and_eq_true] at h
    obtain ⟨⟨⟨⟨⟨⟨⟨⟨hz, h0⟩, h1⟩, h2⟩, h3⟩, h4⟩, h5⟩, h6⟩, h7⟩ := h
    obtain rfl := of_decide_eq_true hz
    subst h0
    refine ⟨tgt, iter, ifs, rfl, rfl, h1, fun i hi => List.contains_iff_mem.mp (List.all_eq_true.mp h2 i hi), h3, chkI_ok E it g tk h4, fun _ Y hy => chkTg_ok (fun z => no z) (g.blk hy) h5, fun _ Y hy => ?_, fun _ Y hy => chkE_ok E e (g.blk hy) (takes_blk hy) h7⟩
    cases ifs with
    | nil =>
      have : cd = .yes := by cases cd <;> first | rfl | exact no h6
      subst this
      exact t_yes
    | cons c r =>
      cases r with
      | nil => exact pts_one (chkT_ok E cd (g.blk hy) (takes_blk hy) h6).1
      | cons _ _ => exact no h6
theorem lc2_parts (E : Evd w t P wl base j o) {e : Ex} {own tg tg1 : List Nat} {it it1 : It} {cd cd1 : Tt} {elt : Expr} {gens : List Comprehension} {scope : Scope} {p : Pos} {cm : Bool} {ax : Ax} {W : WX} {X : Cx} (g : Good w ax P wl base (j + 1) N sc cm X) (tk : Takes X W)
    (h : chkE t w.G N sc cm (.lc2 e own tg it cd tg1 it1 cd1) (.ListComp elt gens scope p) = true) :
    ∃ tgt iter ifs tgt1 iter1 ifs1, gens = [⟨tgt, iter, ifs, 0⟩, ⟨tgt1, iter1, ifs1, 0⟩] ∧ cm = true ∧ blkC N sc scope (own.map fun i => ((N[i]?).getD "", i)) = true ∧ (∀ i ∈ tg, i ∈ own) ∧ (∀ i ∈ tg1, i ∈ own) ∧ noSetI iter = true ∧ noSetI iter1 = true ∧ PI X tgt iter (tI w ax W o tg.length it) ∧ (cm = true → ∀ Y, blkX X scope Y → PG Y tgt (gTg w.K tg) ∧ PTs Y ifs (tT w none WF o cd) ∧ PI Y tgt1 iter1 (tI w none WF o tg1.length it1) ∧ PG Y tgt1 (gTg w.K tg1) ∧ PTs Y ifs1 (tT w none WF o cd1) ∧ PE Y elt (tE w none WF o e)) := by
  match gens, h with
  | [], h => exact no h
  | [⟨_, _, _, _⟩], h => exact no h
  | ⟨_, _, _, _⟩ :: ⟨_, _, _, _⟩ :: _ :: _, h => exact no h
  | [⟨tgt, iter, ifs, isa⟩, ⟨tgt1, iter1, ifs1, isa1⟩], h =>
    have h : (decide (isa = 0) && decide (isa1 = 0) && cm && blkC N sc scope (own.map fun i => ((N[i]?).getD "", i)) && tg.all (fun i => own.contains i) && tg1.all (fun i => own.contains i) && noSetI iter && noSetI iter1 && chkI t w.G N sc cm it tg.length tgt iter && chkTg false N (relS scope sc) tg tgt &&
      (match (generalizing := false) ifs with
      | [] => (match (generalizing := false) cd with | .yes => true | _ => false)
      | [c] => chkT t w.G N (relS scope sc) cm cd c
      | _ => false) && chkI t w.G N (relS scope sc) cm it1 tg1.length tgt1 iter1 && chkTg false N (relS scope sc) tg1 tgt1 &&
      (match (generalizing := false) ifs1 with
      | [] => (match (generalizing := false) cd1 with | .yes => true | _ => false)
      | [c] => chkT t w.G N (relS scope sc) cm cd1 c
      | _ => false) && chkE t w.G N (relS scope sc) cm e elt) = true := h
    iterate 14 rw [Bool.and_eq_true] at h
    obtain ⟨⟨⟨⟨⟨⟨⟨⟨⟨⟨⟨⟨⟨⟨hz, hz1⟩, h0⟩, h1⟩, h2⟩, h21⟩, h3⟩, h31⟩, h4⟩, h5⟩, h6⟩, h41⟩, h51⟩, h61⟩, h7⟩ := h
    obtain rfl := of_decide_eq_true hz
    obtain rfl := of_decide_eq_true hz1
    subst h0
    refine ⟨tgt, iter, ifs, tgt1, iter1, ifs1, rfl, rfl, h1, fun i hi => List.contains_iff_mem.mp (List.all_eq_true.mp h2 i hi), fun i hi => List.contains_iff_mem.mp (List.all_eq_true.mp h21 i hi), h3, h31, chkI_ok E it g tk h4, fun _ Y hy => ⟨chkTg_ok (fun z => no z) (g.blk hy) h5, ?_, chkI_ok E it1 (g.blk hy) (takes_blk hy) h41, chkTg_ok (fun z => no z) (g.blk hy) h51, ?_, chkE_ok E e (g.blk hy) (takes_blk hy) h7⟩⟩
    · cases ifs with
      | nil =>
        have : cd = .yes := by cases cd <;> first | rfl | exact no h6
        subst this
        exact t_yes
      | cons c r =>
        cases r with
        | nil => exact pts_one (chkT_ok E cd (g.blk hy) (takes_blk hy) h6).1
        | cons _ _ => exact no h6
    · cases ifs1 with
      | nil =>
        have : cd1 = .yes := by cases cd1 <;> first | rfl | exact no h61
        subst this
        exact t_yes
      | cons c r =>
        cases r with
        | nil => exact pts_one (chkT_ok E cd1 (g.blk hy) (takes_blk hy) h61).1
        | cons _ _ => exact no h61
/-- x = e -/
theorem set_ok (E : Evd w t P wl base j o) {e : Ex} {ea : Expr} {i : Nat} {x : Str} {p' pos : Pos} {cm : Bool} {ax : Ax} {W : WX} {X : Cx} (g : Good w ax P wl base (j + 1) N sc cm X) (tk : Takes X W) (sg : SGood X)
    (h1 : N[i]? = some x) (h2 : locB true sc x = true) (h3 : notSD ea = true) (h4 : chkE t w.G N sc cm e ea = true) : PS X (.Assign [.Name x p'] ea pos) (tS w ax W o (.asg (.one i) e)) := by
  obtain ⟨l1, l2⟩ := loc_ok (fun _ x _ => sg.fn x) g.hs h2
  cases hsw : swLc sc ea x p' with
  | false => exact st_set (by rw [g.hN]; exact g.nd) (by rw [g.hN]; exact h1) l1 l2 (by rw [sw_lc g.hs h3, hsw]) (chkE_ok E e g tk h4)
  | true =>
    cases ea with
    | ListComp elt gens scope p =>
      cases e with
      | lc e own tg it cd =>
        obtain ⟨tgt, iter, ifs, rfl, rfl, k1, k2, k3, k4, k5, k6, k7⟩ := lc_parts E g tk h4
        have hown : (own.map fun i => (((N[i]?).getD "", i) : Str × Nat)).map (·.2) = own := by
          rw [List.map_map]
          exact List.map_id own
        have hl : sc.names.lookup x = some .local := by
          unfold swLc at hsw
          simp only [Bool.and_eq_true, beq_iff_eq] at hsw
          exact hsw.1.1.2
        have z := st_setLc (own := own.map fun i => ((N[i]?).getD "", i)) (e := e) (cd := cd) (tgl := tg) (it := it) (pos := pos) (elt := elt) (iter := iter) (ifs := ifs) (W := W) (tg := tgt) (p' := p') (p0 := p) g k1 (fun i hi => by rw [hown]; exact k2 i hi) k3 k4 (k5 rfl) (k6 rfl) (k7 rfl) h1 hl (by rw [sw_lc g.hs h3, hsw])
        rw [hown] at z
        exact z
      | lc2 e own tg it cd tg1 it1 cd1 =>
        obtain ⟨tgt, iter, ifs, tgt1, iter1, ifs1, rfl, rfl, k1, k2, k21, k3, k31, k4, kk⟩ := lc2_parts E g tk h4
        have hown : (own.map fun i => (((N[i]?).getD "", i) : Str × Nat)).map (·.2) = own := by
          rw [List.map_map]
          exact List.map_id own
        have hl : sc.names.lookup x = some .local := by
          unfold swLc at hsw
          simp only [Bool.and_eq_true, beq_iff_eq] at hsw
          exact hsw.1.1.2
        have z := st_setLc2 (own := own.map fun i => ((N[i]?).getD "", i)) (e := e) (cd := cd) (cd1 := cd1) (tgl := tg) (tg1 := tg1) (it := it) (it1 := it1) (pos := pos) (elt := elt) (iter := iter) (iter1 := iter1) (ifs := ifs) (ifs1 := ifs1) (W := W) (tg := tgt) (tgt1 := tgt1) (p' := p') (p0 := p) g k1 (fun i hi => by rw [hown]; exact k2 i hi) (fun i hi => by rw [hown]; exact k21 i hi) k3 k31 k4 (fun Y hy => (kk rfl Y hy).1) (fun Y hy => (kk rfl Y hy).2.1) (fun Y hy => (kk rfl Y hy).2.2.1) (fun Y hy => (kk rfl Y hy).2.2.2.1) (fun Y hy => (kk rfl Y hy).2.2.2.2.1) (fun Y hy => (kk rfl Y hy).2.2.2.2.2) h1 hl (by rw [sw_lc g.hs h3, hsw])
        rw [hown] at z
        exact z
      | cst v => cases v <;> exact no h4
      | _ => exact no h4
    | _ => exact no hsw
theorem SGood.suite {X : Cx} {a : Addr} {pn : List (Addr × Obj)} (s : SGood X) : SGood (X.suite a pn) := ⟨s.st, s.fr, PassesOwn.never, s.fn⟩
theorem SGood.tr {X : Cx} {pn : List (Addr × Obj)} {xe : Value → Shared → Prop} (s : SGood X) (h : PassesOwn (model X.prog X.w) X.A X.env xe) : SGood (X.tr pn xe) := ⟨s.st, s.fr, h, s.fn⟩
theorem st_some {X : Cx} {sts : List Stmt} {T : Nat → TS} (h : ∀ k, PSs X sts (T k)) : PSs X sts (fun D σ H => ∃ k, T k D σ H) := ⟨fun pins s σ H D I ⟨k, q⟩ => (h k).run pins s σ H D I q⟩
theorem takes_F {X : Cx} : Takes X WF := fun _ _ ⟨_, _, _, _, _, _, _, _, _, _, _, _, _, _, _, _, w⟩ => w.elim
theorem par2_of {i j' : Nat} {as : Exs} {cm : Bool} {st : Stmt} (h : chkS t w.G N sc cm (.par [i, j'] as) st = true) : ∃ x y px py kt pt ea eb k2 pt2 p, st = .Assign [.Tuple [.Name x px, .Name y py] kt pt] (.Tuple [ea, eb] k2 pt2) p := by
  unfold chkS at h
  split at h <;> first | exact no h | exact ⟨_, _, _, _, _, _, _, _, _, _, _, rfl⟩ | contradiction | (rename_i hq; simp at hq)
theorem par3_of {i j' l : Nat} {as : Exs} {cm : Bool} {st : Stmt} (h : chkS t w.G N sc cm (.par [i, j', l] as) st = true) : ∃ x y z px py pz kt pt ea eb ec k2 pt2 p, st = .Assign [.Tuple [.Name x px, .Name y py, .Name z pz] kt pt] (.Tuple [ea, eb, ec] k2 pt2) p := by
  unfold chkS at h
  split at h <;> first | exact no h | exact ⟨_, _, _, _, _, _, _, _, _, _, _, _, _, _, rfl⟩ | contradiction | (rename_i hq; simp at hq)
theorem rais_of {c : Str} {a : Ex} {cm : Bool} {st : Stmt} (h : chkS t w.G N sc cm (.rais c (.cons a .nil)) st = true) : ∃ x p ea p2 p3, st = .Raise (some (.Call (.Name x p) [ea] [] p2)) none p3 := by
  unfold chkS at h
  split at h <;> first | exact no h | exact ⟨_, _, _, _, _, rfl⟩ | contradiction | (rename_i hq; simp at hq)
mutual
theorem chkS_ok (E : Evd w t P wl base j o) (EA : w.ErrAll P) (EX : w.ExmOk) : ∀ (b : St) {st : Stmt} {cm : Bool} {ax : Ax} {W : WX} {X : Cx}, Good w ax P wl base (j + 1) N sc cm X → Takes X W → SGood X → chkS t w.G N sc cm b st = true → PS X st (tS w ax W o b)
  | .skip, st, cm, ax, W, X, g, tk, sg, h => by
    cases st with
    | Pass p => exact st_pass
    | Expr e p =>
      cases e with
      | Constant k i p2 => cases k <;> first | exact no h | exact st_doc
      | _ => exact no h
    | _ => exact no h
  | .expr e, st, cm, ax, W, X, g, tk, sg, h => by
    cases st with
    | Expr ea p =>
      have h : (noComp ea && chkE t w.G N sc cm e ea) = true := h
      rw [Bool.and_eq_true] at h
      exact st_expr h.1 (chkE_ok E e g tk h.2)
    | _ => exact no h
  | .ret e, st, cm, ax, W, X, g, tk, sg, h => by
    cases st with
    | Return v p =>
      cases v with
      | some ea => exact st_ret (chkE_ok E e g tk (show chkE t w.G N sc cm e ea = true by cases e <;> exact h))
      | none =>
        cases e with
        | cst v => cases v <;> first | exact no h | exact st_retN
        | _ => exact no h
    | _ => first | exact no h | (cases e <;> first | exact no h | (rename_i v; cases v <;> exact no h))
  | .seq a b, st, cm, ax, W, X, g, tk, sg, h => by cases st <;> exact no h
  | .ifs c a b, st, cm, ax, W, X, g, tk, sg, h => by
    cases st with
    | If ec xs ys p =>
      have h : (chkT t w.G N sc cm c ec && chkSs t w.G N sc cm a xs && chkSs t w.G N sc cm b ys) = true := h
      simp only [Bool.and_eq_true] at h
      exact st_if (chkT_ok E c g tk h.1.1).1 (chkSs_ok E EA EX a g tk sg h.1.2) (chkSs_ok E EA EX b g tk sg h.2)
    | _ => exact no h
  | .asg (.one i) e, st, cm, ax, W, X, g, tk, sg, h => by
    cases st with
    | Assign tgs ea p =>
      match tgs, h with
      | [], h => exact no h
      | t1 :: _ :: _, h => cases t1 <;> exact no h
      | [tg], h =>
        cases tg with
        | Name x p' =>
          have h : (decide (N[i]? = some x) && locB true sc x && notSD ea && chkE t w.G N sc cm e ea) = true := h
          simp only [Bool.and_eq_true, decide_eq_true_eq] at h
          exact set_ok E g tk sg h.1.1.1 h.1.1.2 h.1.2 h.2
        | _ => exact no h
    | _ => exact no h
  | .asg (.many is) e, st, cm, ax, W, X, g, tk, sg, h => by
    cases st with
    | Assign tgs ea p =>
      match tgs, h with
      | [], h => exact no h
      | t1 :: _ :: _, h => cases t1 <;> exact no h
      | [tg], h =>
        cases tg with
        | Tuple es k p' =>
          have h : (cm && (is.length != 1) && chkN true N sc is es && decide (swB sc (.Tuple es k p') ea = some none) && noComp ea && chkE t w.G N sc cm e ea) = true := h
          rw [Bool.and_eq_true, Bool.and_eq_true, Bool.and_eq_true, Bool.and_eq_true, Bool.and_eq_true] at h
          obtain ⟨⟨⟨⟨⟨rfl, h1⟩, h2⟩, h3⟩, h4⟩, h5⟩ := h
          refine st_many E.F (chkTg_ok (cl := true) (fun _ x _ => sg.fn x) g (show chkTg true N sc is (.Tuple es k p') = true by show ((is.length != 1) && chkN true N sc is es) = true; rw [h1, h2]; rfl)) (sw_ok (by rw [g.hs]; exact of_decide_eq_true h3)) h4 (chkE_ok E e g tk h5)
        | _ => exact no h
    | _ => exact no h
  | .par [] _, st, cm, ax, W, X, g, tk, sg, h => no (by cases st <;> exact h)
  | .par [_] _, st, cm, ax, W, X, g, tk, sg, h => no (by cases st <;> exact h)
  | .par (_ :: _ :: _ :: _ :: _) _, st, cm, ax, W, X, g, tk, sg, h => no (by cases st <;> exact h)
  | .par [i, j'] as, st, cm, ax, W, X, g, tk, sg, h => by
    obtain ⟨x, y, px, py, kt, pt, ea, eb, k2, pt2, p, rfl⟩ : ∃ x y px py kt pt ea eb k2 pt2 p, st = .Assign [.Tuple [.Name x px, .Name y py] kt pt] (.Tuple [ea, eb] k2 pt2) p := par2_of h
    have h : (cm && decide (N[i]? = some x) && decide (N[j']? = some y) && decide (i ≠ j') && decide (sc.names.lookup x = some .local) && decide (sc.names.lookup y = some .local) &&
      decide (swB sc (.Tuple [.Name x px, .Name y py] kt pt) (.Tuple [ea, eb] k2 pt2) = some (some [x, y])) && [ea, eb].all notStar && chkEs t w.G N sc cm as [ea, eb]) = true := h
    rw [Bool.and_eq_true, Bool.and_eq_true, Bool.and_eq_true, Bool.and_eq_true, Bool.and_eq_true, Bool.and_eq_true, Bool.and_eq_true, Bool.and_eq_true] at h
    obtain ⟨⟨⟨⟨⟨⟨⟨⟨rfl, h1⟩, h2⟩, h3⟩, h4⟩, h5⟩, h6⟩, h7⟩, h8⟩ := h
    exact st_par2 (g.hc rfl) (by rw [g.hN]; exact g.nd) (by rw [g.hN]; exact of_decide_eq_true h1) (by rw [g.hN]; exact of_decide_eq_true h2) (of_decide_eq_true h3) (by rw [g.hs]; exact of_decide_eq_true h4) (by rw [g.hs]; exact of_decide_eq_true h5) (sw_ok (by rw [g.hs]; exact of_decide_eq_true h6)) (chkEs_ok E as g tk h7 h8)
  | .par [i, j', l] as, st, cm, ax, W, X, g, tk, sg, h => by
    obtain ⟨x, y, z, px, py, pz, kt, pt, ea, eb, ec, k2, pt2, p, rfl⟩ : ∃ x y z px py pz kt pt ea eb ec k2 pt2 p, st = .Assign [.Tuple [.Name x px, .Name y py, .Name z pz] kt pt] (.Tuple [ea, eb, ec] k2 pt2) p := par3_of h
    have h : (cm && decide (N[i]? = some x) && decide (N[j']? = some y) && decide (N[l]? = some z) && decide (i ≠ j') && decide (i ≠ l) && decide (j' ≠ l) && decide (sc.names.lookup x = some .local) && decide (sc.names.lookup y = some .local) && decide (sc.names.lookup z = some .local) &&
      decide (swB sc (.Tuple [.Name x px, .Name y py, .Name z pz] kt pt) (.Tuple [ea, eb, ec] k2 pt2) = some (some [x, y, z])) && [ea, eb, ec].all notStar && chkEs t w.G N sc cm as [ea, eb, ec]) = true := h
    rw [Bool.and_eq_true, Bool.and_eq_true, Bool.and_eq_true, Bool.and_eq_true, Bool.and_eq_true, Bool.and_eq_true, Bool.and_eq_true, Bool.and_eq_true, Bool.and_eq_true, Bool.and_eq_true, Bool.and_eq_true, Bool.and_eq_true] at h
    obtain ⟨⟨⟨⟨⟨⟨⟨⟨⟨⟨⟨⟨rfl, h1⟩, h2⟩, h3⟩, h4⟩, h5⟩, h6⟩, h7⟩, h8⟩, h9⟩, h10⟩, h11⟩, h12⟩ := h
    exact st_par3 (g.hc rfl) (by rw [g.hN]; exact g.nd) (by rw [g.hN]; exact of_decide_eq_true h1) (by rw [g.hN]; exact of_decide_eq_true h2) (by rw [g.hN]; exact of_decide_eq_true h3) (of_decide_eq_true h4) (of_decide_eq_true h5) (of_decide_eq_true h6) (by rw [g.hs]; exact of_decide_eq_true h7) (by rw [g.hs]; exact of_decide_eq_true h8) (by rw [g.hs]; exact of_decide_eq_true h9) (sw_ok (by rw [g.hs]; exact of_decide_eq_true h10)) (chkEs_ok E as g tk h11 h12)
  | .fld b f a, st, cm, ax, W, X, g, tk, sg, h => by
    cases st with
    | Assign tgs ea p =>
      match tgs, h with
      | [], h => exact no h
      | t1 :: _ :: _, h => cases t1 <;> exact no h
      | [tg], h =>
        cases tg with
        | Attribute eb f' p' =>
          have h : (decide (f = f') && noComp ea && chkE t w.G N sc cm b eb && chkE t w.G N sc cm a ea) = true := h
          simp only [Bool.and_eq_true, decide_eq_true_eq] at h
          obtain ⟨⟨⟨rfl, h1⟩, h2⟩, h3⟩ := h
          exact st_fld E.C g.hK h1 (chkE_ok E b g tk h2) (chkE_ok E a g tk h3)
        | _ => exact no h
    | _ => exact no h
  | .seti b c a, st, cm, ax, W, X, g, tk, sg, h => by
    cases st with
    | Assign tgs ea p =>
      match tgs, h with
      | [], h => exact no h
      | t1 :: _ :: _, h => cases t1 <;> exact no h
      | [tg], h =>
        cases tg with
        | Subscript eb ec p' =>
          have h : (noSlice ec && noComp ea && chkE t w.G N sc cm b eb && chkE t w.G N sc cm c ec && chkE t w.G N sc cm a ea) = true := h
          simp only [Bool.and_eq_true] at h
          obtain ⟨⟨⟨⟨h0, h1⟩, h2⟩, h3⟩, h4⟩ := h
          exact st_seti h0 h1 (chkE_ok E b g tk h2) (chkE_ok E c g tk h3) (chkE_ok E a g tk h4)
        | _ => exact no h
    | _ => exact no h
  | .aug i op a, st, cm, ax, W, X, g, tk, sg, h => by
    cases st with
    | AugAssign tg op' ea p =>
      cases tg with
      | Name x p' =>
        have h : (decide (N[i]? = some x) && locB true sc x && decide (op = op') && (decide (op = .Add) || decide (op = .Sub)) && chkE t w.G N sc cm a ea) = true := h
        simp only [Bool.and_eq_true, Bool.or_eq_true, decide_eq_true_eq] at h
        obtain ⟨⟨⟨⟨h1, h2⟩, rfl⟩, h3⟩, h4⟩ := h
        obtain ⟨l1, l2⟩ := loc_ok (fun _ x _ => sg.fn x) g.hs h2
        exact st_aug (by rw [g.hN]; exact g.nd) (by rw [g.hN]; exact h1) l1 l2 h3 (chkE_ok E a g tk h4)
      | _ => exact no h
    | _ => exact no h
  | .augf b f op a, st, cm, ax, W, X, g, tk, sg, h => by
    cases op with
    | Add =>
      cases st with
      | AugAssign tg op' ea p =>
        cases tg with
        | Attribute eb f' p' =>
          cases op' with
          | Add =>
            have h : (decide (f = f') && chkE t w.G N sc cm b eb && chkE t w.G N sc cm a ea) = true := h
            simp only [Bool.and_eq_true, decide_eq_true_eq] at h
            obtain ⟨⟨rfl, h1⟩, h2⟩ := h
            exact st_augf E.C g.hK (chkE_ok E b g tk h1) (chkE_ok E a g tk h2)
          | _ => exact no h
        | _ => exact no h
      | _ => exact no h
    | _ => cases st <;> exact no h
  | .for_ tg it b, st, cm, ax, W, X, g, tk, sg, h => by
    cases st with
    | For tgt iter body els p =>
      cases els with
      | cons _ _ => exact no h
      | nil =>
        have h : (cm && noSetI iter && chkI t w.G N sc cm it tg.length tgt iter && chkTg true N sc tg tgt && chkSs t w.G N sc cm b body) = true := h
        rw [Bool.and_eq_true, Bool.and_eq_true, Bool.and_eq_true, Bool.and_eq_true] at h
        obtain ⟨⟨⟨⟨rfl, h1⟩, h2⟩, h3⟩, h4⟩ := h
        exact st_for sg.po (g.hc rfl) h1 (chkI_ok E it g tk h2) (chkTg_ok (cl := true) (fun _ x _ => sg.fn x) g h3) (chkSs_ok E EA EX b g tk sg h4)
    | _ => exact no h
  | .whl c b, st, cm, ax, W, X, g, tk, sg, h => by
    cases st with
    | While ec body els p =>
      cases els with
      | cons _ _ => exact no h
      | nil =>
        have h : (chkT t w.G N sc cm c ec && chkSs t w.G N sc cm b body) = true := h
        rw [Bool.and_eq_true] at h
        exact st_whl sg.po (chkT_ok E c g tk h.1).1 (chkSs_ok E EA EX b g tk sg h.2)
    | _ => exact no h
  | .brk, st, cm, ax, W, X, g, tk, sg, h => by
    cases st with
    | Break p => exact st_brk
    | _ => exact no h
  | .cnt, st, cm, ax, W, X, g, tk, sg, h => by
    cases st with
    | Continue p => exact st_cnt
    | _ => exact no h
  | .rais c .nil, st, cm, ax, W, X, g, tk, sg, h => no (by cases st <;> exact h)
  | .rais c (.cons _ (.cons _ _)), st, cm, ax, W, X, g, tk, sg, h => no (by cases st <;> exact h)
  | .rais c (.cons a .nil), st, cm, ax, W, X, g, tk, sg, h => by
    obtain ⟨x, p, ea, p2, p3, rfl⟩ : ∃ x p ea p2 p3, st = .Raise (some (.Call (.Name x p) [ea] [] p2)) none p3 := rais_of h
    have h : (cm && decide (c = x) && glB sc c && t.cls.contains c && ((w.G.cls c).bind (·.exc)).isSome && notStar ea && chkE t w.G N sc cm a ea) = true := h
    rw [Bool.and_eq_true, Bool.and_eq_true, Bool.and_eq_true, Bool.and_eq_true, Bool.and_eq_true, Bool.and_eq_true] at h
    obtain ⟨⟨⟨⟨⟨⟨rfl, h1⟩, h2⟩, h3⟩, h4⟩, h5⟩, h6⟩ := h
    obtain rfl := of_decide_eq_true h1
    obtain ⟨k1, k2⟩ := gl_ok g h2
    exact st_raise EA g tk E.nm.sup k1 (E.nm.cl c (List.contains_iff_mem.mp h3)) k2 h5 h4 (chkE_ok E a g tk h6)
  | .try_ b hs, st, cm, ax, W, X, g, tk, sg, h => by
    cases st with
    | Try body hds els fin p =>
      match hds, els, fin, h with
      | [], _, _, h => exact no h
      | _ :: _, _ :: _, _, h => exact no h
      | _ :: _, [], _ :: _, h => exact no h
      | h0 :: hds, [], [], h =>
        have h : (cm && chkSs t w.G N sc cm b body && hndOk w.G hs && chkH t w.G N sc hs (h0 :: hds)) = true := h
        rw [Bool.and_eq_true, Bool.and_eq_true, Bool.and_eq_true] at h
        obtain ⟨⟨⟨rfl, h1⟩, h2⟩, h3⟩ := h
        have ea := g.nx rfl
        subst ea
        exact st_try EX g tk sg.st sg.fr (fun W' pn xe tk' po => chkSs_ok E EA EX b g.tr tk' (sg.tr po) h1) (chkH_ok E EA EX hs g sg h3) h2
    | _ => exact no h
  | .hnd c sl su r, st, cm, ax, W, X, g, tk, sg, h => by cases st <;> exact no h
  | .hnil, st, cm, ax, W, X, g, tk, sg, h => by cases st <;> exact no h
theorem chkSs_ok (E : Evd w t P wl base j o) (EA : w.ErrAll P) (EX : w.ExmOk) : ∀ (b : St) {sts : List Stmt} {cm : Bool} {ax : Ax} {W : WX} {X : Cx}, Good w ax P wl base (j + 1) N sc cm X → Takes X W → SGood X → chkSs t w.G N sc cm b sts = true → PSs X sts (tS w ax W o b)
  | .skip, sts, cm, ax, W, X, g, tk, sg, h => by
    cases sts with
    | nil => exact st_nil
    | cons _ _ => exact no h
  | .seq a b, sts, cm, ax, W, X, g, tk, sg, h => by
    cases sts with
    | nil => exact no h
    | cons st rest =>
      have h : (chkS t w.G N sc cm a st && chkSs t w.G N sc cm b rest) = true := h
      rw [Bool.and_eq_true] at h
      exact st_cons (chkS_ok E EA EX a g tk sg h.1) (chkSs_ok E EA EX b g tk sg h.2)
  | .expr _, sts, cm, ax, W, X, g, tk, sg, h => no (by cases sts <;> exact h)
  | .ret _, sts, cm, ax, W, X, g, tk, sg, h => no (by cases sts <;> exact h)
  | .ifs _ _ _, sts, cm, ax, W, X, g, tk, sg, h => no (by cases sts <;> exact h)
  | .asg _ _, sts, cm, ax, W, X, g, tk, sg, h => no (by cases sts <;> exact h)
  | .par _ _, sts, cm, ax, W, X, g, tk, sg, h => no (by cases sts <;> exact h)
  | .fld _ _ _, sts, cm, ax, W, X, g, tk, sg, h => no (by cases sts <;> exact h)
  | .seti _ _ _, sts, cm, ax, W, X, g, tk, sg, h => no (by cases sts <;> exact h)
  | .aug _ _ _, sts, cm, ax, W, X, g, tk, sg, h => no (by cases sts <;> exact h)
  | .augf _ _ _ _, sts, cm, ax, W, X, g, tk, sg, h => no (by cases sts <;> exact h)
  | .for_ _ _ _, sts, cm, ax, W, X, g, tk, sg, h => no (by cases sts <;> exact h)
  | .whl _ _, sts, cm, ax, W, X, g, tk, sg, h => no (by cases sts <;> exact h)
  | .brk, sts, cm, ax, W, X, g, tk, sg, h => no (by cases sts <;> exact h)
  | .cnt, sts, cm, ax, W, X, g, tk, sg, h => no (by cases sts <;> exact h)
  | .rais _ _, sts, cm, ax, W, X, g, tk, sg, h => no (by cases sts <;> exact h)
  | .try_ _ _, sts, cm, ax, W, X, g, tk, sg, h => no (by cases sts <;> exact h)
  | .hnd _ _ _ _, sts, cm, ax, W, X, g, tk, sg, h => no (by cases sts <;> exact h)
  | .hnil, sts, cm, ax, W, X, g, tk, sg, h => no (by cases sts <;> exact h)
theorem chkH_ok (E : Evd w t P wl base j o) (EA : w.ErrAll P) (EX : w.ExmOk) : ∀ (hs : St) {hds : List ExceptHandler} {X : Cx}, Good w none P wl base (j + 1) N sc true X → SGood X → chkH t w.G N sc hs hds = true → MixOk X hds (clz w o hs)
  | .hnil, hds, X, g, sg, h => by
    cases hds with
    | nil => exact .nil
    | cons _ _ => exact no h
  | .hnd c sl su r, hds, X, g, sg, h => by
    cases hds with
    | nil => exact no h
    | cons hd hds =>
      cases hd with
      | ExceptHandler ty nm body p =>
        cases ty with
        | none => exact no h
        | some te =>
          cases te with
          | Name x np =>
            cases body with
            | nil => exact no h
            | cons st suite =>
              have h : (decide (c = x) && glB sc c && t.cls.contains c && nameB N sc sl nm && chkSs t w.G N sc false su (st :: suite) && chkH t w.G N sc r hds) = true := h
              rw [Bool.and_eq_true, Bool.and_eq_true, Bool.and_eq_true, Bool.and_eq_true, Bool.and_eq_true] at h
              obtain ⟨⟨⟨⟨⟨h1, h2⟩, h3⟩, h4⟩, h5⟩, h6⟩ := h
              obtain rfl := of_decide_eq_true h1
              obtain ⟨k1, k2⟩ := gl_ok g h2
              refine .cons (z := ⟨.ref (w.D.ca c), sl, fun a cls d D σ H => ∃ k, tS w (some (k, a, cls, d)) WF o su D σ H⟩) ⟨k1, k2, .inl (by rw [g.hm]; exact E.nm.cl c (List.contains_iff_mem.mp h3))⟩ ?_ (fun a oe cls d pn hz hf => st_some fun k => chkSs_ok E EA EX su (g.suite hz hf) takes_F sg.suite h5) (chkH_ok E EA EX r g sg h6)
              cases sl with
              | none => cases nm with
                | none => trivial
                | some _ => exact no h4
              | some i => cases nm with
                | none => exact no h4
                | some n =>
                  have h4 : (decide (N[i]? = some n) && decide (sc.names.lookup n = some .local)) = true := h4
                  simp only [Bool.and_eq_true, decide_eq_true_eq] at h4
                  exact ⟨by rw [g.hN]; exact h4.1, by show X.env.scope.names.lookup n = _; rw [g.hs]; exact h4.2⟩
          | _ => exact no h
  | .skip, hds, X, g, sg, h => no (by cases hds <;> exact h)
  | .seq _ _, hds, X, g, sg, h => no (by cases hds <;> exact h)
  | .expr _, hds, X, g, sg, h => no (by cases hds <;> exact h)
  | .ret _, hds, X, g, sg, h => no (by cases hds <;> exact h)
  | .ifs _ _ _, hds, X, g, sg, h => no (by cases hds <;> exact h)
  | .asg _ _, hds, X, g, sg, h => no (by cases hds <;> exact h)
  | .par _ _, hds, X, g, sg, h => no (by cases hds <;> exact h)
  | .fld _ _ _, hds, X, g, sg, h => no (by cases hds <;> exact h)
  | .seti _ _ _, hds, X, g, sg, h => no (by cases hds <;> exact h)
  | .aug _ _ _, hds, X, g, sg, h => no (by cases hds <;> exact h)
  | .augf _ _ _ _, hds, X, g, sg, h => no (by cases hds <;> exact h)
  | .for_ _ _ _, hds, X, g, sg, h => no (by cases hds <;> exact h)
  | .whl _ _, hds, X, g, sg, h => no (by cases hds <;> exact h)
  | .brk, hds, X, g, sg, h => no (by cases hds <;> exact h)
  | .cnt, hds, X, g, sg, h => no (by cases hds <;> exact h)
  | .rais _ _, hds, X, g, sg, h => no (by cases hds <;> exact h)
  | .try_ _ _, hds, X, g, sg, h => no (by cases hds <;> exact h)
end
end
end Dv

set_option linter.all false
set_option autoImplicit false
set_option maxRecDepth 100000
set_option maxHeartbeats 4000000
namespace Dv
open PySem L2 PySem.Spec PyProof.Rows LamX
/-- a def of the text, as it was written; a maker of lambdas (it has the slot #): its code object and its table -/
structure FnTx (w : Wd) (t : Nm) (cs : List (Addr × Addr)) (f : Str) (fi : Fn) : Prop where
  ex : ∃ (name qual : Str) (params : Arguments) (body : List Stmt) (scope : Scope) (dV kV doc pm cdv ct oc : Value) (an od : Option Addr) (osl : Array (Option Value)) (N ps : List Str),
    w.K.lookup (w.D.fa f) = some ⟨oc, od, .func (PySem.W.fnOf name qual params body scope dV kV doc pm an cdv ct), osl⟩ ∧ PySem.W.codeIn w.K cdv qual = true ∧ FnScope N ps scope ∧ ps.length = fi.np ∧ N.length = fi.ns ∧
    PySem.W.keepIn w.K (.ref (w.D.fa f)) = true ∧ (fi.kw = [] → Binds w.K (PySem.W.fnOf name qual params body scope dV kV doc pm an cdv ct) ps []) ∧ (∀ p ∈ fi.kw, KbP w (PySem.W.fnOf name qual params body scope dV kV doc pm an cdv ct) ps p) ∧ chkSs t w.G N scope true fi.body body = true ∧
    (N.contains "#" = true → ∃ c Pt, cdv = .ref c ∧ (c, Pt) ∈ cs ∧ (Pt, qual ++ ".<locals>." ++ "<lambda>") ∈ w.D.tb ∧ ∀ p ∈ w.D.tb, p.1 = Pt → p.2 = qual ++ ".<locals>." ++ "<lambda>")
def Wd.FnAll (w : Wd) (t : Nm) (cs : List (Addr × Addr)) : Prop := ∀ f fi, w.G.fns f = some fi → FnTx w t cs f fi
structure Txt (w : Wd) (t : Nm) (P : Program) (cs : List (Addr × Addr)) : Prop where
  F : Fac w
  C : w.ClsAll
  nm : w.NmOk t
  EA : w.ErrAll P
  EX : w.ExmOk
  fn : w.FnAll t cs
  lok : ∀ l lm, w.D.lok l lm ↔ lamOk t w.G l lm
/-- the same text, in a def -/
abbrev Wd.at (w : Wd) (cu : Option (Addr × Addr × Str)) : Wd := { w with cur := cu }
section
variable {w : Wd} {P : Program} {wl : World} {base : Heap} {t : Nm} {n : Nat} {cu : Option (Addr × Addr × Str)} {cs : List (Addr × Addr)}
theorem FnV.at_ {f : Addr} {fd : FuncData} {ps : List Str} {call : List Vv → VH → Option (Re Vv)} (F : FnV w P wl base n f fd ps (spR w call)) : FnV (w.at cu) P wl base n f fd ps (spR (w.at cu) call) := ⟨F.run⟩
theorem OrcOk.at_ {call : Str → List Vv → VH → Option (Re Vv)} (O : OrcOk w P wl base n call) : OrcOk (w.at cu) P wl base n call :=
  ⟨fun f fi h k => let ⟨fd, ps, h1, h2, h3, h4⟩ := O.fn f fi h k; ⟨fd, ps, h1, h2.at_, h3, h4⟩, O.some_⟩
theorem OrcK.at_ {call : Str → Kp → List Vv → VH → Option (Re Vv)} (O : OrcK w P wl base n call) : OrcK (w.at cu) P wl base n call :=
  ⟨fun f p vs h r e => let ⟨fd, ps, g, h1, h2, h3, h4⟩ := O.fn f p vs h r e; ⟨fd, ps, g, h1.at_, h2, h3, h4⟩⟩
theorem OrcL.at_ {call : Lf → List Vv → VH → Option (Re Vv)} (O : OrcL w P wl base n call) : OrcL (w.at cu) P wl base n call := ⟨O.run⟩
theorem Fac.at_ (F : Fac w) : Fac (w.at cu) := ⟨⟨F.con.only⟩, ⟨F.isi.inst, F.isi.isi⟩, F.kp, F.fi⟩
theorem cls_at (C : w.ClsAll) : (w.at cu).ClsAll := fun c k h => let z := C c k h; ⟨z.cl, z.fl, z.pr, z.me, z.ini, z.ne, z.xf⟩
theorem ea_at (N : w.ErrAll P) : (w.at cu).ErrAll P := fun c k fs h1 h2 => ⟨(N c k fs h1 h2).own⟩
theorem ex_at (N : w.ExmOk) : (w.at cu).ExmOk := fun c c' h1 h2 => N c c' h1 h2
theorem nm_at (N : w.NmOk t) : (w.at cu).NmOk t := ⟨N.fn, N.cl, N.kn, N.bl, N.np, N.sup⟩
end
section
variable {w : Wd} {P : Program} {wl : World} {base : Heap} {t : Nm} {cs : List (Addr × Addr)}
theorem sl_start {D : Ad} {m : Mp} {vvs : List Vv} {vs : List V} {N : List Str} {k : Nat} (rl : RL D m vvs vs) (hk : N.length - vs.length = k) : SlR D m (vvs.map some ++ List.replicate k none) (L2.start N vs) := by
  unfold L2.start
  refine Paired.app (Paired.mapL rl fun x y r => ⟨y, rfl, r⟩) ?_
  rw [hk]
  clear hk
  induction k with
  | zero => exact .nil
  | succ k ih => exact .cons trivial ih
theorem evd_at {cu : Option (Addr × Addr × Str)} (T : Txt w t P cs) (n : Nat) (O1 : FnsOk w P wl base (n + 1) (run w.G (n + 1))) (O2 : FnsOk w P wl base n (run w.G n)) (L1 : OrcL w P wl base (n + 1) (lrun w.G (n + 1))) : Evd (w.at cu) t P wl base n (orcAt w.G n) :=
  ⟨T.F.at_, cls_at T.C, nm_at T.nm, O1.pos.at_, O2.pos.at_, O1.kws.at_, O2.kws.at_, L1.at_, fun l lm h => (T.lok l lm).mpr h⟩
theorem fn_step (T : Txt w t P cs) (TB : ∀ p ∈ cs, LamX.TabB base w.mg p.1 p.2) (n : Nat) (O1 : FnsOk w P wl base (n + 1) (run w.G (n + 1))) (O2 : FnsOk w P wl base n (run w.G n)) (L1 : OrcL w P wl base (n + 1) (lrun w.G (n + 1))) : FnsOk w P wl base (n + 2) (run w.G (n + 2)) := by
  refine ⟨fun f fi hf => ?_, fun f vs h r e => ?_⟩
  · obtain ⟨name, qual, params, body, scope, dV, kV, doc, pm, cdv, ct, oc, an, od, osl, N, ps, lk, hcd, S, hnp, hns, kp, hb, hkb, chk, hmk⟩ := (T.fn f fi hf).ex
    refine ⟨_, ps, hnp, ⟨fun A outer s H args us vs Q E hr hd e0 hbt r hl hsp => ?_⟩, kp, hb, hkb⟩
    obtain ⟨m, h, vvs, r0, rl, sm, ev, post⟩ := hsp
    have KX : w.K.In s.heap := e0.mod.kin.keeps fun b o e => (e0.bs b o e).1
    have lim : s.heap.NoLimit := e0.mod.nolimit.keeps fun b o e => (e0.bs b o e).1
    have hvl : vs.length = ps.length := by rw [r.length]; exact hl
    have hkind : ∀ y ∈ ps.zip us, scope.names.lookup y.1 = some .local ∨ (scope.names.lookup y.1 = some .cell ∧ ((cellsFrom (s.heap.objs.size + 1) scope.names []).lookup y.1).isSome = true) := fun ⟨n, v⟩ hy => by
      rcases S.par n (List.of_mem_zip hy).1 with q | q
      · exact .inl q
      · exact .inr ⟨q, PySem.W.cellsFrom_some _ _ _ (.inl q)⟩
    have hdp := hr.dp
    refine codeAny_call_function (by omega) (KX _ _ lk) rfl S.co S.gen rfl (PySem.W.codeRec_of KX hcd) (hbt _ _ _ _ ?_)
    refine wpAny_newFunctionEnv_cells S.kind hkind fun env he s1 x => ?_
    subst he
    refine ⟨lim.keeps x.toInCall.keep, codeAny_func ?_⟩
    generalize hX : cxOf (L2.CX P wl) P wl w.K w.mg base N qual scope (w.D.fa f) cdv A outer s H E = X
    have I : Inv X [] (L2.start N vs) H s1 := by rw [← hX]; exact inv_start S hd e0 hvl r x
    obtain ⟨cu, hcu1, hcu2⟩ : ∃ cu : Option (Addr × Addr × Str), (∀ c Pt q, cu = some (c, Pt, q) → X.env.code = .ref c ∧ X.env.qual = q ∧ LamX.TabB X.base X.mg c Pt ∧ (Pt, q ++ "<lambda>") ∈ w.D.tb ∧ ∀ p ∈ w.D.tb, p.1 = Pt → p.2 = q ++ "<lambda>") ∧ (N.contains "#" = true → ∃ c Pt q, cu = some (c, Pt, q)) := by
      cases hN : N.contains "#" with
      | false => exact ⟨none, ⟨fun _ _ _ z => (by cases z), fun z => (by cases z)⟩⟩
      | true =>
        obtain ⟨c, Pt, hc, hcs, htb, hone⟩ := hmk hN
        refine ⟨some (c, Pt, qual ++ ".<locals>."), ⟨fun c' Pt' q' z => ?_, fun _ => ⟨_, _, _, rfl⟩⟩⟩
        cases z
        subst hX
        exact ⟨hc, rfl, TB _ hcs, htb, hone⟩
    have g : Good (w.at cu) none P wl base (n + 1) N scope true X := by
      subst hX
      exact ⟨rfl, rfl, rfl, rfl, rfl, rfl, S.nd, rfl, hr.deeper _, fun _ => hd, fun _ => rfl, fun _ => rfl, (fun _ _ _ _ z => by cases z), hcu1, hcu2⟩
    have tk : Takes X (fun cls d _ H => E cls d H) := by subst hX; exact takes_of rfl rfl rfl rfl
    have sg : SGood X := by subst hX; exact ⟨rfl, rfl, passes_of rfl, fun _ => rfl⟩
    have ht := chkSs_ok (w := w.at cu) (o := orcAt w.G n) (evd_at T n O1 O2 L1) (ea_at T.EA) (ex_at T.EX) fi.body g tk sg chk
    have hbody : bodyF w.G (orcAt w.G n) fi vvs h = some r0 := by
      have ev : (match w.G.fns f with | some fd => bodyF w.G (orcAt w.G n) fd vvs h | none => none) = some r0 := ev
      rw [hf] at ev
      exact ev
    have hread : tS w none (fun cls d _ H => E cls d H) (orcAt w.G n) fi.body { nx := fun _ H' => Q .non H', rt := Q } (L2.start N vs) H := by
      unfold bodyF at hbody
      split at hbody
      · rename_i hlen
        cases q : evS w.G (orcAt w.G n) fi.body (vvs.map some ++ List.replicate (fi.ns - fi.np) none) h with
        | none => rw [q] at hbody; cases hbody
        | some r1 =>
          rw [q] at hbody
          refine ⟨m, _, h, r1, sl_start rl (by rw [← rl.length, hlen, hns]), sm, q, ?_⟩
          cases r1 with
          | nx s2 h2 => cases hbody; exact fun m' H' σ' l sm' _ => post m' H' .non l sm' rfl
          | rt v h2 => cases hbody; exact post
          | bk s2 h2 => cases hbody
          | ct s2 h2 => cases hbody
          | ex x s2 h2 => cases hbody; exact fun m' H' σ' dd gs l sm' _ hd' rf => post m' H' dd gs l sm' hd' rf
      · cases hbody
    have run1 := ht.run [] s1 (L2.start N vs) H _ I hread
    have fin : ∀ {σ' : L2.St} {H' : Hp} {v : V} {u : Value} {s' : Shared}, Inv X [] σ' H' s' → RelV v u → Q v H' → CE outer P wl H s Q u s' := fun {σ' H' v u s'} J rv q => by
      subst hX
      exact ⟨v, H', J.os, J.bare, J.base, J.hok, rv, q⟩
    have fin2 : ∀ (fl : Flow) (s' : Shared), SP X [] { nx := fun _ H' => Q .non H', rt := Q } fl s' → CR (L2.CX P wl) outer P wl H s Q E (.ok (.ret (match fl with | .ret v => v | _ => .none))) s' := fun fl s' q => by
      cases fl with
      | ret u =>
        obtain ⟨v, σ', H', J, rv, q⟩ := q
        exact fin J rv q
      | next =>
        obtain ⟨σ', H', J, q⟩ := q
        exact fin (v := V.non) (u := Value.none) J rfl q
      | brk => obtain ⟨_, _, _, q⟩ := q; exact q.elim
      | cont => obtain ⟨_, _, _, q⟩ := q; exact q.elim
    subst hX
    exact wpAny_mono run1 (fun fl s' q => fin2 fl s' q) fun e s' q => q
  · have ev : (match w.G.fns f with | some fd => bodyF w.G (orcAt w.G n) fd vs h | none => none) = some r := e
    split at ev
    · rename_i fi hf
      refine ⟨fi, hf, ?_⟩
      unfold bodyF at ev
      split at ev
      · assumption
      · cases ev
    · cases ev
/-- a lambda's run -/
theorem lam_step (T : Txt w t P cs) (n : Nat) (O1 : FnsOk w P wl base (n + 1) (run w.G (n + 1))) (O2 : FnsOk w P wl base n (run w.G n)) (L1 : OrcL w P wl base (n + 1) (lrun w.G (n + 1))) : OrcL w P wl base (n + 2) (lrun w.G (n + 2)) := by
  refine ⟨fun A outer s H a c l lm us vs Q E hr hd e0 hl hc hlok rv hsp => ?_⟩
  obtain ⟨m, h, vvs, r0, rl, sm, ev, post⟩ := hsp
  obtain ⟨N, x, p, hp, hnp, hns, hxn, hno, S, chk⟩ := (T.lok l lm).mp hlok
  have ev : (if vvs.length = l.np then evE w.G (orcAt w.G n) l.e (vvs.map some ++ List.replicate (l.ns - l.np) none) h else none) = some r0 := ev
  split at ev
  · rename_i hlen
    obtain ⟨⟨pm, ctv, ho⟩, _, _⟩ := e0.hok a _ hl
    have crec := NdefX.codeO_at e0.hok hc
    have lim : s.heap.NoLimit := e0.mod.nolimit.keeps fun b o e => (e0.bs b o e).1
    have hvl : vs.length = 1 := by rw [← rl.length, hlen, hnp]
    obtain ⟨u, rfl⟩ : ∃ u, us = [u] := by
      have := rv.length
      rw [hvl] at this
      match us, this with
      | [u], _ => exact ⟨u, rfl⟩
    have hkind : ∀ y ∈ [x].zip [u], lm.scope.names.lookup y.1 = some .local ∨ (lm.scope.names.lookup y.1 = some .cell ∧ ((cellsFrom (s.heap.objs.size + 1) lm.scope.names []).lookup y.1).isSome = true) := fun ⟨n, v⟩ hy => by
      rcases S.par n (List.of_mem_zip hy).1 with q | q
      · exact .inl q
      · exact .inr ⟨q, PySem.W.cellsFrom_some _ _ _ (.inl q)⟩
    have hdp := hr.dp
    have hbind : bindArgs (PySem.W.kla_fn "<lambda>" lm.qual lm.params lm.body lm.scope [] pm (.ref c) ctv) ⟨[u], []⟩ = pure [(x, u)] := by
      rw [hp]
      rcases hxn with rfl | rfl <;> rfl
    refine PySem.W.kla_callFunE (by omega) ho rfl S.co S.gen rfl crec ?_
    rw [hbind]
    refine wpAny_pure (wpAny_newFunctionEnv_cells S.kind hkind fun env he s1 y => ?_)
    subst he
    refine ⟨lim.keeps y.toInCall.keep, PySem.W.kla_codeExpr ?_⟩
    generalize hX : cxOf (L2.CX P wl) P wl w.K w.mg base N lm.qual lm.scope a (.ref c) A outer s H E = X
    have I : Inv X [] (L2.start N vs) H s1 := by rw [← hX]; exact inv_start (ps := [x]) (us := [u]) S hd e0 hvl rv y
    have g : Good (w.at none) none P wl base (n + 1) N lm.scope true X := by
      subst hX
      exact ⟨rfl, rfl, rfl, rfl, rfl, rfl, S.nd, rfl, hr.deeper _, fun _ => hd, fun _ => rfl, fun _ => rfl, (fun _ _ _ _ z => by cases z), (fun _ _ _ z => by cases z), fun z => by rw [hno] at z; cases z⟩
    have tk : Takes X (fun cls d _ H => E cls d H) := by subst hX; exact takes_of rfl rfl rfl rfl
    have ht := chkE_ok (w := w.at none) (o := orcAt w.G n) (evd_at T n O1 O2 L1) l.e g tk chk
    have run1 := ht.run [] s1 (L2.start N vs) H Q I ⟨m, _, h, r0, sl_start rl (by rw [hvl, hns, hnp]), sm, ev, post⟩
    subst hX
    exact wpAny_mono run1 (fun v s' ⟨v', H', J, rv', q⟩ => ⟨v', H', J.os, J.bare, J.base, J.hok, rv', q⟩) fun e s' q => q
  · cases ev
theorem lam_zero (n : Nat) (hn : lrun w.G n = fun _ _ _ => none) : OrcL w P wl base n (lrun w.G n) := by
  refine ⟨fun A outer s H a c l lm us vs Q E hr hd e0 hl hc hlok rv ⟨m, h, vvs, r0, rl, sm, ev, post⟩ => ?_⟩
  rw [hn] at ev
  cases ev
theorem fn_zero (T : Txt w t P cs) (n : Nat) (hn : run w.G n = fun _ _ _ => none) : FnsOk w P wl base n (run w.G n) := by
  refine ⟨fun f fi hf => ?_, fun f vs h r e => by rw [hn] at e; cases e⟩
  obtain ⟨name, qual, params, body, scope, dV, kV, doc, pm, cdv, ct, oc, an, od, osl, N, ps, lk, hcd, S, hnp, hns, kp, hb, hkb, chk, hmk⟩ := (T.fn f fi hf).ex
  refine ⟨PySem.W.fnOf name qual params body scope dV kV doc pm an cdv ct, ps, hnp, ⟨fun A outer s H args us vs Q E hr hd e0 hbt r hl ⟨m, h, vvs, r0, rl, sm, ev, post⟩ => ?_⟩, kp, hb, hkb⟩
  rw [hn] at ev
  cases ev
theorem fn_all (T : Txt w t P cs) (TB : ∀ p ∈ cs, LamX.TabB base w.mg p.1 p.2) : ∀ n, (FnsOk w P wl base n (run w.G n) ∧ FnsOk w P wl base (n + 1) (run w.G (n + 1))) ∧ OrcL w P wl base (n + 1) (lrun w.G (n + 1))
  | 0 => ⟨⟨fn_zero T 0 (by funext _ _ _; rfl), fn_zero T 1 (by funext _ _ _; rfl)⟩, lam_zero 1 (by funext _ _ _; rfl)⟩
  | n + 1 => let z := fn_all T TB n; ⟨⟨z.1.2, fn_step T TB n z.1.2 z.1.1 z.2⟩, lam_step T n z.1.2 z.1.1 z.2⟩
end
end Dv

set_option linter.all false
set_option autoImplicit false
set_option maxRecDepth 100000
set_option maxHeartbeats 4000000
namespace Dv
open PySem L2 PySem.Spec PyProof.Rows
theorem room_caller {n : Nat} (h : n ≤ 500) : RoomU n callerA := by
  have e1 : callerA.depth = 301 := by decide +kernel
  have e2 : callerA.units = 4 := by decide +kernel
  have e3 : recursionLimit = 1000 := by decide +kernel
  have e4 : cLine = 9900 := by decide +kernel
  exact ⟨rfl, by rw [e1, e3]; omega, by rw [e2, e4]; omega⟩
section
variable {w : Wd} {t : Nm} {P : Program} {wl : World} {mb : Str → Option Value} {fi : Fn} {n : Nat} {h' : VH} {a : Addr} {s1 : Shared} {vs : List Value} {ns : List Int} {cs : List (Addr × Addr)}
theorem law_D (T : Txt w t P cs) (hf : w.G.fns "law" = some fi) (hkw : fi.kw = []) (hn : n ≤ 500) (hx : run w.G n "law" [.ref 0] [.rol (ns.map .int)] = some (.ok (.bl true) h'))
    (KX : w.K.In s1.heap) (hG : s1.heap.Ns mainGlobals w.mg) (hB : s1.heap.Ns builtinsNs mb) (hBB : ∀ x : Str, x ≠ "__name__" → mb x = bootBuiltins x) (hlim : s1.heap.NoLimit) (hgen : s1.gens = #[])
    (tabs : ∀ q ∈ cs, s1.heap.get? q.2 = some { cls := .none, data := .fields #[] } ∧ w.K.lookup q.2 = none ∧ PySem.W.CodeHd s1.heap q.1 q.2) (htb : ∀ p ∈ w.D.tb, ∃ q ∈ cs, q.2 = p.1)
    (hmod : ∃ (bm : Addr) (ob : Obj), w.mg "__builtins__" = some (.ref bm) ∧ bm ≠ builtinsNs ∧ s1.heap.get? bm = some ob ∧ ob.cls = .type "module" ∧ ob.dict = some builtinsNs ∧ ob.data = .plain)
    (ha : s1.heap.get? a = some { cls := .type "list", data := .seq vs.toArray }) (hi : IntsAre vs ns) (hl : ns.length ≤ sizeLine) :
    codeAny (model P wl) callerA (.call (.ref (w.D.fa "law")) ⟨[.ref a], []⟩) (fun r s' => r = .ok (.ret (.bool true)) ∧ OldK s1.heap s'.heap ∧ s'.os = s1.os ∧ AllBare s'.gens) s1 := by
  have rv := vals_ints hi
  have lenV := hi.length
  let ts : List Addr := cs.map (·.2)
  have inT : ∀ {b : Addr}, b ∈ ts → ∃ q ∈ cs, q.2 = b := fun {b} hb => List.mem_map.mp hb
  have toT : ∀ {q : Addr × Addr}, q ∈ cs → q.2 ∈ ts := fun {q} hq => List.mem_map.mpr ⟨q, hq, rfl⟩
  have obT : ∀ {b : Addr}, b ∈ ts → s1.heap.get? b = some { cls := .none, data := .fields #[] } ∧ w.K.lookup b = none := fun {b} hb => by
    obtain ⟨q, hq, rfl⟩ := inT hb
    exact ⟨(tabs q hq).1, (tabs q hq).2.1⟩
  have aT : a ∉ ts := fun z => by
    have e := (obT z).1
    rw [ha] at e
    cases (show Data.seq vs.toArray _ = Data.fields #[] from congrArg Obj.data (Option.some.inj e))
  let mp : Mp := fun i => if i = 0 then some a else none
  let fz : HO := .frz { cls := .type "list", data := .seq vs.toArray } (.lst (ns.map V.int))
  have go : ∀ H : Hp, (∀ b, H b = none ∨ (b ∈ ts ∧ H b = some (.tbl #[])) ∨ (b = a ∧ w.K.lookup a = none ∧ H b = some fz)) → (∀ b ∈ ts, H b = some (.tbl #[])) → (H a = some fz ∨ ∀ H', SqL w.K H' a (ns.map V.int)) →
      codeAny (model P wl) callerA (.call (.ref (w.D.fa "law")) ⟨[.ref a], []⟩) (fun r s' => r = .ok (.ret (.bool true)) ∧ OldK s1.heap s'.heap ∧ s'.os = s1.os ∧ AllBare s'.gens) s1 := by
    intro H spec tbls q
    have hok : HOk P wl H s1.heap := fun b u e => by
      rcases spec b with z | ⟨hb, z⟩ | ⟨hb, _, z⟩
      · rw [e] at z; cases z
      · rw [e] at z; cases z; exact (obT hb).1
      · rw [e] at z; cases z; subst hb; exact ⟨ha, by rw [List.length_map]; exact hl, vs, _, rv, ha⟩
    have sm : SimW w none mp [.rol (ns.map .int)] H := by
      refine ⟨fun i o e => ?_, fun i b e => ?_, fun i j o o' b e1 e2 w1 w2 _ _ => ?_, fun i c fs e => ?_, fun p hp => ?_⟩
      · cases i with
        | zero =>
          cases e
          exact ⟨a, if_pos rfl, ns.map V.int, Paired.mapL (F := fun (x y : Int) => x = y) (by clear hx hi hl lenV rv q hok fz spec; induction ns with | nil => exact .nil | cons x r ih => exact .cons rfl ih) fun x y z => by subst z; rfl, q.elim (fun z => .inl ⟨_, z⟩) .inr⟩
        | succ i => simp at e
      · by_cases hi0 : i = 0
        · subst hi0; show 0 < 1; omega
        · have e' : (if i = 0 then some a else none) = some b := e
          rw [if_neg hi0] at e'
          cases e'
      · cases i with
        | zero => cases e1; cases w1
        | succ i => simp at e1
      · cases i with
        | zero => cases e
        | succ i => simp at e
      · obtain ⟨q, hq, e⟩ := htb p hp
        rw [← e]
        exact LamX.TabS.nil (tbls _ (toT hq))
    -- an object of another kind is not tracked
    have free : ∀ {b : Addr} {o : Obj}, s1.heap.get? b = some o → (∀ us k, o.data ≠ .seq us k) → o.data ≠ .fields #[] → H b = none := fun {b o} e d1 d2 => by
      rcases spec b with z | ⟨hb, _⟩ | ⟨hb, _, _⟩
      · exact z
      · rw [(obT hb).1] at e; cases e; exact absurd rfl d2
      · subst hb; rw [ha] at e; cases e; exact absurd rfl (d1 _ _)
    have nsB : ∀ {b : Addr} {m : Str → Option Value}, s1.heap.Ns b m → (hidT s1.heap H).Ns b m := fun {b m} ⟨o, es, ep, e, d, r⟩ => ⟨o, es, ep, hidT_get e (free e (fun us k z => by rw [d] at z; cases z) fun z => by rw [d] at z; cases z), d, r⟩
    have kinB : w.K.In (hidT s1.heap H) := fun b o e => hidT_get (KX b o e) (by
      rcases spec b with z | ⟨hb, _⟩ | ⟨hb, hk, _⟩
      · exact z
      · rw [(obT hb).2] at e; cases e
      · subst hb; rw [hk] at e; cases e)
    have modB : Mod w.K w.mg (hidT s1.heap H) := ⟨kinB, nsB hG, ⟨mb, nsB hB, hBB⟩, let ⟨mc, k1, k2⟩ := hlim; ⟨mc, nsB k1, k2⟩⟩
    have e0 : Env0 P wl w.K w.mg (hidT s1.heap H) callerA [] s1 H := ⟨rfl, modB, fun b o e => of_hidT e, Nat.le_of_eq (hidT_size _ _), trivial, fun b hb => absurd (show b ∈ ([] : List Addr) from hb) (by simp), hok, .of_eq hgen⟩
    have gData : ∃ o es ep, s1.heap.get? mainGlobals = some o ∧ o.data = .dict es ep := let ⟨o, es, ep, e, d, _⟩ := hG; ⟨o, es, ep, e, d⟩
    have TB : ∀ q ∈ cs, LamX.TabB (hidT s1.heap H) w.mg q.1 q.2 := fun q hq => by
      obtain ⟨tq, _, cq⟩ := tabs q hq
      obtain ⟨go, ges, gep, ge, gd⟩ := gData
      refine ⟨?_, ?_, fun z => ?_⟩
      · obtain ⟨oc, us, fl, ft, gs, gt, inF, tx, tt, c1, c2, c3, c4, c5, c6, c7, c8, c9, cn⟩ := cq
        refine ⟨oc, us, fl, ft, gs, gt, inF, tx, tt, hidT_get c1 (free c1 (fun _ _ z => by rw [c3] at z; cases z) fun z => ?_), c2, c3, c4, c5, c6, c7, c8, c9, cn⟩
        rw [c3] at z; cases z; simp at c4
      · obtain ⟨bm, ob, m1, m2, m3, m4, m5, m6⟩ := hmod
        refine ⟨bm, ob, m1, m2, fun z => ?_, fun z => ?_, hidT_get m3 (free m3 (fun _ _ z => by rw [m6] at z; cases z) fun z => by rw [m6] at z; cases z), m4, m5, m6⟩
        · rw [z, ge] at m3; cases m3; rw [gd] at m6; cases m6
        · rw [z, tq] at m3; cases m3; cases m6
      · rw [z, tq] at ge; cases ge; cases gd
    obtain ⟨fd, ps, hp, FV, kp, bnd, _⟩ := (fn_all (w := w) (P := P) (wl := wl) (base := hidT s1.heap H) T TB n).1.1.fn "law" fi hf
    obtain ⟨fi', hf', hlen⟩ := (fn_all (w := w) (P := P) (wl := wl) (base := hidT s1.heap H) T TB n).1.1.some_ _ _ _ _ hx
    rw [hf] at hf'
    cases hf'
    have hps : [Value.ref a].length = ps.length := by rw [hp]; exact hlen
    have b1 := bnd hkw s1 [.ref a] KX (by rw [List.append_nil]; exact hps)
    rw [List.append_nil] at b1
    refine codeAny_mono (FV.run callerA [] s1 H ⟨[.ref a], []⟩ [.ref a] [.ref a] (fun v _ => v = .bl true) (fun _ _ _ => False) (room_caller hn) rfl e0 b1 (.cons rfl .nil) hps
      ⟨mp, [.rol (ns.map .int)], [.ref 0], _, .cons ⟨a, if_pos rfl, rfl⟩ .nil, sm, hx, fun m' H' x _ _ rx => rx⟩) fun r s' z => ?_
    cases r with
    | error e =>
      obtain ⟨_, _, _, _, _, _, _, _, _, _, _, _, y⟩ := z
      exact y.elim
    | ok fl =>
      cases fl with
      | next => exact z.elim
      | brk => exact z.elim
      | cont => exact z.elim
      | ret u =>
        obtain ⟨v, H', os, bare, un, hok', rv', q'⟩ := z
        have q' : v = .bl true := q'
        subst q'
        obtain rfl : u = Value.bool true := rv'
        have big : ∀ b ∈ ts, ∃ more : Array Value, s'.heap.get? b = some { cls := .none, data := .fields more } := fun b hb => by
          obtain ⟨more, y⟩ := un.tbls b #[] (tbls b hb)
          exact ⟨_, hok' b _ y⟩
        have old : ∀ b o, b ∉ ts → s1.heap.get? b = some o → s'.heap.get? b = some o := fun b o nb e => by
          rcases spec b with y | ⟨hb, _⟩ | ⟨hb, _, y⟩
          · exact un.keep b o e y (by intro z; exact absurd (show b ∈ ([] : List Addr) from z) (by simp)) (by simp)
          · exact absurd hb nb
          · obtain ⟨k1, _⟩ := hok b _ y
            obtain ⟨k2, _⟩ := hok' b _ (un.frzs b _ _ y)
            rw [e] at k1; cases k1
            exact k2
        refine ⟨rfl, ⟨fun b o e => ?_, fun b o e => ?_⟩, os, bare⟩
        · by_cases hb : b ∈ ts
          · obtain ⟨more, hm⟩ := big b hb
            obtain ⟨q, hq, rfl⟩ := inT hb
            rw [(obT hb).1] at e
            cases e
            exact .inr (.inl ⟨((tabs q hq).2.2.tab (tabs q hq).1).isCodeTable, rfl, #[], more, rfl, by simpa using hm⟩)
          · exact .inl (old b o hb e)
        · by_cases hb : b ∈ ts
          · obtain ⟨more, hm⟩ := big b hb; exact ⟨_, hm⟩
          · exact ⟨o, old b o hb e⟩
  cases hk : w.K.lookup a with
  | some o =>
    have e := KX a o hk
    rw [ha] at e
    cases e
    refine go (fun b => if b ∈ ts then some (.tbl #[]) else none) (fun b => ?_) (fun b hb => if_pos hb) (.inr fun H' => .inr ⟨_, vs.toArray, _, hk, rfl, rfl, rfl, by rw [List.size_toArray, lenV]; exact hl, by simpa using rv⟩)
    by_cases hb : b ∈ ts
    · exact .inr (.inl ⟨hb, if_pos hb⟩)
    · exact .inl (if_neg hb)
  | none =>
    refine go (fun b => if b ∈ ts then some (.tbl #[]) else if b = a then some fz else none) (fun b => ?_) (fun b hb => if_pos hb) (.inl ((if_neg aT).trans (if_pos rfl)))
    by_cases hb : b ∈ ts
    · exact .inr (.inl ⟨hb, if_pos hb⟩)
    · by_cases hb2 : b = a
      · exact .inr (.inr ⟨hb2, hk, (if_neg hb).trans (if_pos hb2)⟩)
      · exact .inl ((if_neg hb).trans (if_neg hb2))
end
/-- the walk of a law: what the top has written makes a text; its law runs to True at every script -/
theorem walk_D {l : PySem.W.OpenLaw} {most : Nat} {q : Program} {loose : List Str} {XP : (Str → Option Value) → Heap → Prop} {YP : World → Heap → Prop} {d : DefRec} (G : Tx) (t : Nm)
    (hn : l.most = some most) (hn2 : most ≤ sizeLine) (hdf : d.params.defaults = []) (hlaw : ∃ fi, G.fns "law" = some fi ∧ fi.kw = [])
    (F : ∀ (wl : World) (mg : Str → Option Value) (fa : Addr) (h : Heap), YP wl h → h.Ns mainGlobals mg → mg d.name = some (.ref fa) → ∃ (w : Wd) (cs : List (Addr × Addr)), w.G = G ∧ w.mg = mg ∧ w.D.fa "law" = fa ∧ w.K.In h ∧ Txt w t l.prog cs ∧ (∀ q ∈ cs, h.get? q.2 = some { cls := .none, data := .fields #[] } ∧ w.K.lookup q.2 = none ∧ PySem.W.CodeHd h q.1 q.2) ∧ ∀ p ∈ w.D.tb, ∃ q ∈ cs, q.2 = p.1)
    (run_ok : ∀ ns : List Int, ns.length ≤ most → ∃ n h', n ≤ 500 ∧ run G n "law" [.ref 0] [.rol (ns.map .int)] = some (.ok (.bl true) h')) :
    PySem.W.WalkO q loose XP YP l.row.toRowW d [] (fun f vs => PySem.call f vs) := by
  refine Att.attach_call hn hdf fun wl s₀ s₁ mg mb fa o pm cd doc a vs ns GG Y ho hd hcd hmg hobj hints hlen hg => ?_
  obtain ⟨w, cs, rfl, rfl, rfl, KX, T, tabs, htb⟩ := F wl mg fa _ Y GG.T.g hmg
  obtain ⟨fi, hfi, hkw⟩ := hlaw
  obtain ⟨n, h', hn5, hx⟩ := run_ok ns hlen
  exact law_D T hfi hkw hn5 hx KX GG.T.g GG.T.b GG.T.builtins GG.T.nolimit hg tabs htb GG.T.bmain hobj hints (Nat.le_trans hlen hn2)
end Dv

set_option linter.all false
set_option autoImplicit false
set_option maxRecDepth 100000
set_option maxHeartbeats 4000000
namespace Dv
open PySem L2 PySem.Spec PyProof.Rows
/-- where a def's function object stands -/
inductive At where
  | glo (x : Str)
  | met (c m : Str)
  | prp (c f : Str)
def At.addr (K : PySem.W.Frag) : At → Addr
  | .glo x => He.ga K x
  | .met c m => He.ma K (He.ga K c) m
  | .prp c f => match PySem.W.recIn K (He.ma K (He.ga K c) f) "property" with
    | some (.ref g :: _) => g
    | _ => 0
/-- a def of the text: its place, its syntax, its names by slots, its form in the small language -/
structure Df where
  at_ : At
  name : Str
  qual : Str
  params : Arguments
  body : List Stmt
  scope : Scope
  N : List Str
  ps : List Str
  ir : Fn
  kd : List (Str × Vv)
def Df.obs (K : PySem.W.Frag) (d : Df) : He.FnW := match K.lookup (d.at_.addr K) with
  | some ⟨_, _, .func fd, _⟩ => some (fd.name, fd.qualname, fd.params, fd.body, fd.scope, fd.globals, fd.closure, fd.builtins)
  | _ => none
def Df.val (d : Df) : He.FnW := some (d.name, d.qual, d.params, .stmts d.body, d.scope, mainGlobals, [], builtinsNs)
def scalB (v : Vv) (u : Value) : Bool := match v, u with
  | .non, .none => true
  | .bl b, .bool b' => b == b'
  | .int i, .int j _ => decide (i = j)
  | .str x, .str y _ => decide (x = y)
  | _, _ => false
def scalO (v : Vv) : V := match v with
  | .bl b => .bl b
  | .int i => .int i
  | .str z => .str z
  | _ => .non
theorem scalB_ok {v : Vv} {u : Value} (h : scalB v u = true) : RelV (scalO v) u ∧ ∀ (D : Ad) (m : Mp), R D m v (scalO v) := by
  unfold scalB at h
  split at h
  · exact ⟨rfl, fun _ _ => rfl⟩
  · obtain rfl := beq_iff_eq.mp h; exact ⟨rfl, fun _ _ => rfl⟩
  · obtain rfl := of_decide_eq_true h; exact ⟨⟨_, rfl⟩, fun _ _ => rfl⟩
  · obtain rfl := of_decide_eq_true h; exact ⟨⟨_, rfl⟩, fun _ _ => rfl⟩
  · cases h
def kdB (K : PySem.W.Frag) (kV : Value) (kd : List (Str × Vv)) : Bool := kd.isEmpty || (match kV with
  | .ref D => kd.all fun q => match PySem.W.nsIn K D q.1 with | some (some u) => scalB q.2 u | _ => false
  | _ => false)
def Df.ok (K : PySem.W.Frag) (d : Df) : Bool := PySem.W.keepIn K (.ref (d.at_.addr K)) && (match K.lookup (d.at_.addr K) with
  | some ⟨_, _, .func fd, _⟩ => PySem.W.codeIn K fd.code d.qual && (match fd.defaults with | .none => true | _ => false) && kdB K fd.kwdefaults d.kd
  | _ => false)
/-- what is known of the def without the program -/
structure Df.Pf (t : Nm) (G : Tx) (d : Df) : Prop where
  sc : FnScope d.N d.ps d.scope
  np : d.ps.length = d.ir.np
  ns : d.N.length = d.ir.ns
  bnd : d.ir.kw = [] → ∀ (kV doc pm : Value) (an : Option Addr) (cdv ct : Value) (us : List Value), us.length = d.ps.length → bindArgs (PySem.W.fnOf d.name d.qual d.params d.body d.scope .none kV doc pm an cdv ct) ⟨us, []⟩ = pure (d.ps.zip us)
  kbn : ∀ p ∈ d.ir.kw, d.kd ≠ [] ∧ (∀ q ∈ p.ms, q ∈ d.kd) ∧ p.arr.length = d.ps.length ∧ ∀ (D : Addr) (doc pm : Value) (an : Option Addr) (cdv ct : Value) (us mv ws : List Value), us.length = p.n → mv.length = p.ms.length → ws.length = p.ks.length →
    KwChain D ((p.ms.map (·.1)).zip mv) (bindArgs (PySem.W.fnOf d.name d.qual d.params d.body d.scope .none (.ref D) doc pm an cdv ct) ⟨us, p.ks.zip ws⟩) (d.ps.zip (arrG .none p.arr (us ++ ws) mv))
  chk : chkSs t G d.N d.scope true d.ir.body d.body = true
/-- an own error of one field: its class, its field, its __init__'s qualified name, text, places -/
structure Er where
  c : Str
  fld : Str
  qual : Str
  txt : Str
  k : Nat
  p : Nat → Pos
abbrev FnE : Type := Option (Str × Str × Arguments × FuncBody × Scope × Addr × List Str × Value × Value × Addr)
def Er.fI (K : PySem.W.Frag) (e : Er) : Addr := He.ma K (He.ga K e.c) "__init__"
def Er.obs (K : PySem.W.Frag) (e : Er) : FnE := match K.lookup (e.fI K) with
  | some ⟨_, _, .func fd, _⟩ => some (fd.name, fd.qualname, fd.params, fd.body, fd.scope, fd.globals, fd.closure.map (·.1), fd.defaults, fd.kwdefaults, fd.builtins)
  | _ => none
def Er.val (e : Er) : FnE := some ("__init__", e.qual, ownArgs (some e.fld) e.p, .stmts (ownBody e.txt e.k (some e.fld) e.p), ownScope (some e.fld), mainGlobals, ["__class__"], .none, .none, builtinsNs)
/-- a maker of lambdas: its code object, its table -/
def mkD (d : Df) : Bool := d.N.contains "#"
def codeZ (K : PySem.W.Frag) (d : Df) : Addr := match K.lookup (d.at_.addr K) with
  | some ⟨_, _, .func fd, _⟩ => (match fd.code with
    | .ref c => c
    | _ => 0)
  | _ => 0
def ctZ (K : PySem.W.Frag) (d : Df) : Addr × Addr := (codeZ K d, He.tabOf K (codeZ K d))
def lqZ (d : Df) : Str := d.qual ++ ".<locals>." ++ "<lambda>"
def csZ (ds : List Df) (K : PySem.W.Frag) : List (Addr × Addr) := (ds.filter mkD).map (ctZ K)
def tbZ (ds : List Df) (K : PySem.W.Frag) : List (Addr × Str) := (ds.filter mkD).map fun d => ((ctZ K d).2, lqZ d)
def tabZ (g : Addr → Option Obj) (ds : List Df) (K : PySem.W.Frag) : Bool := (csZ ds K).all (fun q => PySem.W.codeHdIn K q.1 q.2 && (match g q.2 with
  | some o => He.emptyTab o
  | none => false)) && (tbZ ds K).all fun p => (tbZ ds K).all fun q => !decide (p.1 = q.1) || decide (p.2 = q.2)
/-- the head's word: the defs, the errors' __init__s as they were written, and a Bool of the written part -/
abbrev AlZ : Type := List He.FnW × List FnE × Bool
def asZ (g : Addr → Option Obj) (n : Nat) : List Addr := cStatics :: He.asD g n
def obsK (g : Addr → Option Obj) (ds : List Df) (es : List Er) (ex : PySem.W.Frag → Bool) (K : PySem.W.Frag) : AlZ := (ds.map (Df.obs K), es.map (Er.obs K), ds.all (Df.ok K) && ex K && tabZ g ds K)
def obsZ (n : Nat) (ds : List Df) (es : List Er) (ex : PySem.W.Frag → Bool) (g : Addr → Option Obj) : AlZ := obsK g ds es ex (He.frT g (asZ g n))
structure SaysZ (ds : List Df) (es : List Er) (ex : PySem.W.Frag → Bool) (K : PySem.W.Frag) (h : Heap) : Prop where
  fn : ds.map (Df.obs K) = ds.map Df.val
  er : es.map (Er.obs K) = es.map Er.val
  ok : ds.all (Df.ok K) = true
  ex : ex K = true
  hd : ∀ q ∈ csZ ds K, PySem.W.codeHdIn K q.1 q.2 = true ∧ K.lookup q.2 = none ∧ h.get? q.2 = some { cls := .none, data := .fields #[] }
  uni : ∀ p ∈ tbZ ds K, ∀ q ∈ tbZ ds K, p.1 = q.1 → p.2 = q.2
theorem saysZ_of {n : Nat} {ds : List Df} {es : List Er} {ex : PySem.W.Frag → Bool} {h : Heap} (e : obsZ n ds es ex h.get? = (ds.map Df.val, es.map Er.val, true)) : SaysZ ds es ex (He.frT h.get? (asZ h.get? n)) h := by
  have e1 := congrArg Prod.fst e
  have e2 := congrArg (fun z : AlZ => z.2.1) e
  obtain ⟨e3, e4⟩ := He.ba (congrArg (fun z : AlZ => z.2.2) e)
  obtain ⟨e5, e6⟩ := He.ba e3
  obtain ⟨e7, e8⟩ := He.ba (show ((csZ ds (He.frT h.get? (asZ h.get? n))).all _ && (tbZ ds (He.frT h.get? (asZ h.get? n))).all _) = true from e4)
  refine ⟨e1, e2, e5, e6, fun q hq => ?_, fun p hp q hq hpq => ?_⟩
  · obtain ⟨z1, z2⟩ := He.ba (List.all_eq_true.mp e7 q hq)
    cases hg : h.get? q.2 with
    | none => rw [hg] at z2; cases z2
    | some o =>
      rw [hg] at z2
      exact ⟨z1, He.frT_none hg z2, by rw [He.emptyTab_eq z2]⟩
  · have z := List.all_eq_true.mp (List.all_eq_true.mp e8 p hp) q hq
    rw [Bool.or_eq_true] at z
    rcases z with z | z
    · rw [hpq] at z; simp at z
    · exact of_decide_eq_true z
def hookZ (n : Nat) (ds : List Df) (es : List Er) (ex : PySem.W.Frag → Bool) : PySem.W.Hook where
  α := AlZ
  obs := fun s => obsZ n ds es ex s.heap.get?
  val := fun _ => (ds.map Df.val, es.map Er.val, true)
  says := fun _ h => ∃ K : PySem.W.Frag, K.In h ∧ SaysZ ds es ex K h
  of := fun _ _ e => ⟨_, He.frT_in, saysZ_of e⟩
  keeps := fun _ _ _ ⟨K, hK, c⟩ k => ⟨K, PySem.W.Frag.In.keeps hK k, ⟨c.fn, c.er, c.ok, c.ex, fun q hq => ⟨(c.hd q hq).1, (c.hd q hq).2.1, k _ _ (c.hd q hq).2.2⟩, c.uni⟩⟩
def obZ (n : Nat) (ds : List Df) (es : List Er) (ex : PySem.W.Frag → Bool) (s : PySem.W.SharedT) : AlZ := obsZ n ds es ex (HandSHeadRun.getT s)
theorem obZ_eq {n : Nat} {ds : List Df} {es : List Er} {ex : PySem.W.Frag → Bool} (s : PySem.W.SharedT) : obZ n ds es ex s = (hookZ n ds es ex).obs s.abs := by
  have e : HandSHeadRun.getT s = s.abs.heap.get? := funext (HandSHeadRun.getT_eq s)
  unfold obZ
  rw [e]
  rfl
section
variable {K : PySem.W.Frag} {d : Df} {ds : List Df} {es : List Er} {ex : PySem.W.Frag → Bool} {w : Wd} {t : Nm} {f : Str}
theorem SaysZ.df {hp : Heap} (c : SaysZ ds es ex K hp) (h : d ∈ ds) : d.obs K = d.val ∧ d.ok K = true := by
  refine ⟨?_, List.all_eq_true.mp c.ok d h⟩
  obtain ⟨i, hi, rfl⟩ := List.mem_iff_getElem.mp h
  have e := congrArg (fun l => l[i]?) c.fn
  simp only [List.getElem?_map, List.getElem?_eq_getElem hi, Option.map_some] at e
  exact Option.some.inj e
theorem SaysZ.err {e : Er} {hp : Heap} (c : SaysZ ds es ex K hp) (h : e ∈ es) : e.obs K = e.val := by
  obtain ⟨i, hi, rfl⟩ := List.mem_iff_getElem.mp h
  have z := congrArg (fun l => l[i]?) c.er
  simp only [List.getElem?_map, List.getElem?_eq_getElem hi, Option.map_some] at z
  exact Option.some.inj z
theorem fn_tx (hK : w.K = K) (ha : w.D.fa f = d.at_.addr K) (e : d.obs K = d.val ∧ d.ok K = true) (p : d.Pf t w.G) {ds : List Df} (hd : d ∈ ds) (htb : w.D.tb = tbZ ds K) (uni : ∀ p ∈ tbZ ds K, ∀ q ∈ tbZ ds K, p.1 = q.1 → p.2 = q.2) : FnTx w t (csZ ds K) f d.ir := by
  subst hK
  obtain ⟨e1, e2⟩ := e
  unfold Df.obs at e1
  unfold Df.ok at e2
  rw [Bool.and_eq_true] at e2
  obtain ⟨kp, e2⟩ := e2
  cases q : w.K.lookup (d.at_.addr w.K) with
  | none => rw [q] at e2; cases e2
  | some ob =>
    obtain ⟨oc, od, dt, osl⟩ := ob
    rw [q] at e1 e2
    cases dt with
    | func fd =>
      obtain ⟨n1, n2, n3, n4, n5, n6, n7, n8, n9, n10, n11, n12, n13, n14, n15⟩ := fd
      have e1 : (some (n1, n2, n3, n4, n5, n6, n7, n15) : He.FnW) = some (d.name, d.qual, d.params, .stmts d.body, d.scope, mainGlobals, [], builtinsNs) := e1
      simp only [Option.some.injEq, Prod.mk.injEq] at e1
      obtain ⟨h1, h2, h3, h4, h5, h6, h7, h8⟩ := e1
      subst h1 h2 h3 h4 h5 h6 h7 h8
      have e2 : (PySem.W.codeIn w.K n13 d.qual && (match (generalizing := false) n8 with | .none => true | _ => false) && kdB w.K n9 d.kd) = true := e2
      rw [Bool.and_eq_true, Bool.and_eq_true] at e2
      obtain ⟨⟨k1, k2⟩, k3⟩ := e2
      cases n8 with
      | none =>
        refine ⟨d.name, d.qual, d.params, d.body, d.scope, .none, n9, n10, n11, n13, n14, oc, n12, od, osl, d.N, d.ps, by rw [ha]; exact q, k1, p.sc, p.np, p.ns, by rw [ha]; exact kp, fun hk => Binds.all fun us hl => p.bnd hk _ _ _ _ _ _ us hl, ?_, p.chk, fun hm => ?_⟩
        rotate_left
        · obtain ⟨c, rfl⟩ := He.codeIn_ref k1
          have hc : codeZ w.K d = c := by unfold codeZ; rw [q]
          have hin : d ∈ ds.filter mkD := List.mem_filter.mpr ⟨hd, hm⟩
          have h1 : (ctZ w.K d) ∈ csZ ds w.K := List.mem_map.mpr ⟨d, hin, rfl⟩
          have h2 : ((ctZ w.K d).2, lqZ d) ∈ tbZ ds w.K := List.mem_map.mpr ⟨d, hin, rfl⟩
          have e : ctZ w.K d = (c, (ctZ w.K d).2) := by rw [← hc]; rfl
          refine ⟨c, (ctZ w.K d).2, rfl, by rw [← e]; exact h1, by rw [htb]; exact h2, fun p hp hpe => ?_⟩
          rw [htb] at hp
          exact uni p hp _ h2 hpe
        intro kq hkq
        obtain ⟨hd, hms, hl, hb⟩ := p.kbn kq hkq
        unfold kdB at k3
        rw [Bool.or_eq_true] at k3
        rcases k3 with k3 | k3
        · exact absurd (List.isEmpty_iff.mp k3) hd
        · cases n9 with
          | ref Dk =>
            have k3 : d.kd.all (fun q => match (generalizing := false) PySem.W.nsIn w.K Dk q.1 with | some (some u) => scalB q.2 u | _ => false) = true := k3
            have each : ∀ q' ∈ kq.ms.map (fun z => (z.1, scalO z.2)), ∃ u, PySem.W.nsIn w.K Dk q'.1 = some (some u) ∧ RelV q'.2 u := fun q' hq' => by
              obtain ⟨z, hz, rfl⟩ := List.mem_map.mp hq'
              have k4 := List.all_eq_true.mp k3 z (hms z hz)
              cases k5 : PySem.W.nsIn w.K Dk z.1 with
              | none => rw [k5] at k4; cases k4
              | some r =>
                rw [k5] at k4
                cases r with
                | none => cases k4
                | some u => exact ⟨u, rfl, (scalB_ok k4).1⟩
            obtain ⟨mv, l1, r1, hks⟩ := kwd_vals each
            rw [List.length_map] at l1
            refine ⟨mv, kq.ms.map (fun z => scalO z.2), ⟨fun s us ws X e1 e2 => BindsTo.of_looks fun M => KwChain.looks X hks ?_, fun r2 r3 => arr_P (F := RelV) (z := V.non) (z' := Value.none) rfl (r2.append r3) ?_ kq.arr⟩, fun m => ?_, hl⟩
            · rw [show (kq.ms.map fun z => (z.1, scalO z.2)).map (·.1) = kq.ms.map (·.1) by rw [List.map_map]; rfl]
              exact hb Dk _ _ _ _ _ us mv ws e1 l1 e2
            · rw [show (kq.ms.map fun z => scalO z.2) = (kq.ms.map fun z => (z.1, scalO z.2)).map (·.2) by rw [List.map_map]; rfl]
              exact r1
            · have go : ∀ l : List (Str × Vv), (∀ z ∈ l, z ∈ d.kd) → RL w.D m (l.map (·.2)) (l.map fun z => scalO z.2) := fun l => by
                induction l with
                | nil => intro _; exact .nil
                | cons z r ih =>
                  intro hz
                  refine .cons ?_ (ih fun y hy => hz y (List.mem_cons_of_mem _ hy))
                  have k4 := List.all_eq_true.mp k3 z (hz z List.mem_cons_self)
                  cases k5 : PySem.W.nsIn w.K Dk z.1 with
                  | none => rw [k5] at k4; cases k4
                  | some r =>
                    rw [k5] at k4
                    cases r with
                    | none => cases k4
                    | some u => exact (scalB_ok k4).2 _ _
              exact go kq.ms hms
          | _ => cases k3
      | _ => cases k2
    | _ => cases e2
end
end Dv

set_option linter.all false
set_option autoImplicit false
set_option maxRecDepth 100000
set_option maxHeartbeats 4000000
namespace Dv
open PySem L2 PySem.Spec PyProof.Rows
/-- a text's tables -/
structure Bd where
  ds : List (Str × Df)
  cls : List (Str × Cl)
  cons : List (Str × Ho)
  t : Nm
def Bd.G (b : Bd) : Tx := { fns := fun f => (b.ds.lookup f).map (·.ir), cls := fun c => b.cls.lookup c, cons := fun k => b.cons.lookup k, clsL := b.cls.map (·.1), clsI := (b.cls.filter (·.2.exc.isNone)).map (·.1) }
def Bd.D (b : Bd) (K : PySem.W.Frag) : Ad := ⟨fun f => match b.ds.lookup f with | some d => d.at_.addr K | none => 0, fun c => He.ga K c, fun k => He.ga K k, tbZ (b.ds.map (·.2)) K, lamOk b.t b.G⟩
theorem look_mem {α : Type} {x : Str} {v : α} : ∀ {l : List (Str × α)}, l.lookup x = some v → (x, v) ∈ l
  | [], h => by cases h
  | (y, u) :: r, h => by
    rw [List.lookup_cons] at h
    cases q : x == y with
    | true => rw [q] at h; cases h; rw [beq_iff_eq.mp q]; exact List.mem_cons_self
    | false => rw [q] at h; exact List.mem_cons_of_mem _ (look_mem h)
def scalV : Vv → Option V
  | .non => some .non
  | .bl b => some (.bl b)
  | .int i => some (.int i)
  | .str z => some (.str z)
  | _ => none
theorem scal_R {D : Ad} {v : Vv} {x : V} (h : scalV v = some x) (m : Mp) : R D m v x := by
  cases v <;> first | (cases h; rfl) | cases h
def scals : List Vv → Option (List V)
  | [] => some []
  | v :: r => match scalV v, scals r with
    | some x, some xs => some (x :: xs)
    | _, _ => none
theorem scals_R {D : Ad} (m : Mp) : ∀ {vs : List Vv} {xs : List V}, scals vs = some xs → RL D m vs xs
  | [], xs, h => by cases h; exact .nil
  | v :: r, xs, h => by
    unfold scals at h
    split at h
    · rename_i x ys h1 h2
      cases h
      exact .cons (scal_R h1 m) (scals_R m h2)
    · cases h
def tupB (K : PySem.W.Frag) (a : Addr) (ys : List V) : Bool := match K.lookup a with
  | some ⟨.type c, _, .seq its _, _⟩ => decide (c = "tuple") && decide (its.size ≤ sizeLine) && He.relAll ys its.toList
  | _ => false
theorem tupB_ok {K : PySem.W.Frag} {a : Addr} {ys : List V} (h : tupB K a ys = true) (H : Hp) : SqT K H a ys := by
  unfold tupB at h
  split at h
  · rename_i c d its n sl q
    rw [Bool.and_eq_true, Bool.and_eq_true] at h
    obtain ⟨⟨h1, h2⟩, h3⟩ := h
    obtain rfl := of_decide_eq_true h1
    exact .inr ⟨_, its, n, q, rfl, rfl, of_decide_eq_true h2, He.relAll_ok h3⟩
  · cases h
def conB (b : Bd) (K : PySem.W.Frag) : Bool := b.cons.all fun p => match p.2 with
  | .tup xs => (match scals xs with | some ys => tupB K (He.ga K p.1) ys | none => false)
  | _ => false
theorem conB_ok {b : Bd} {K : PySem.W.Frag} {mg : Str → Option Value} (h : conB b K = true) : Wd.ConOk ⟨b.G, b.D K, K, mg, none⟩ := by
  refine ⟨fun k o e => ?_⟩
  have z := List.all_eq_true.mp h (k, o) (look_mem e)
  cases o with
  | tup xs =>
    have z : (match (generalizing := false) scals xs with | some ys => tupB K (He.ga K k) ys | none => false) = true := z
    cases hy : scals xs with
    | none => rw [hy] at z; cases z
    | some ys =>
      rw [hy] at z
      exact ⟨xs, ys, rfl, fun H => tupB_ok z H, fun m => scals_R m hy⟩
  | _ => cases z
def clsIB (K : PySem.W.Frag) (c : Str) : Bool := (He.Fa.cls c).ok K && decide (PySem.W.findIn K (.ref (He.ga K c)) "__class__" = some (some (.builtin "object.__class__"))) && decide (PySem.W.specialIn K (.builtin "object.__class__") "__get__" = some (some (.builtin "getset_descriptor.__get__"))) &&
  decide (PySem.W.takesIn K (.builtin "object.__class__") = some true) && decide (PySem.W.mroIn K (He.ga K c) (.type "object") = some true)
def tys7 : List String := ["NoneType", "int", "bool", "str", "list", "tuple", "dict"]
def tys6 : List String := ["int", "bool", "str", "list", "tuple", "dict"]
def isiB (b : Bd) (K : PySem.W.Frag) : Bool := (tys7.map Vv.ty ++ b.G.clsI.map Vv.cls).all fun t => (tys6.map Vv.ty ++ b.G.clsL.map Vv.cls).all fun c => match isiT b.G t c with
  | some r => decide (PySem.W.kitOne K (tval (b.D K) t) (tval (b.D K) c) = some r)
  | none => true
theorem isi_ok {b : Bd} {K : PySem.W.Frag} {mg : Str → Option Value} (h1 : b.G.clsI.all (clsIB K) = true) (h2 : isiB b K = true) : Wd.IsiOk ⟨b.G, b.D K, K, mg, none⟩ := by
  refine ⟨fun c hc => ?_, fun t c r ht hr => ?_⟩
  · have z := List.all_eq_true.mp h1 c (List.contains_iff_mem.mp hc)
    unfold clsIB at z
    simp only [Bool.and_eq_true, decide_eq_true_eq] at z
    obtain ⟨⟨⟨⟨k1, k2⟩, k3⟩, k4⟩, k5⟩ := z
    exact ⟨He.cls_ok k1, k2, k3, k4, k5⟩
  · have mt : t ∈ tys7.map Vv.ty ++ b.G.clsI.map Vv.cls := by
      unfold tyK at ht
      split at ht
      · exact List.mem_append_left _ (List.mem_map_of_mem (List.contains_iff_mem.mp ht))
      · exact List.mem_append_right _ (List.mem_map_of_mem (List.contains_iff_mem.mp ht))
      · cases ht
    have mc : c ∈ tys6.map Vv.ty ++ b.G.clsL.map Vv.cls := by
      unfold isiT at hr
      split at hr
      · split at hr
        · rename_i q; exact List.mem_append_left _ (List.mem_map_of_mem (List.contains_iff_mem.mp q))
        · cases hr
      · split at hr
        · rename_i q; exact List.mem_append_right _ (List.mem_map_of_mem (List.contains_iff_mem.mp q))
        · cases hr
      · split at hr
        · rename_i q; exact List.mem_append_left _ (List.mem_map_of_mem (List.contains_iff_mem.mp q))
        · cases hr
      · split at hr
        · rename_i q; exact List.mem_append_right _ (List.mem_map_of_mem (List.contains_iff_mem.mp q))
        · cases hr
      · cases hr
    have z := List.all_eq_true.mp (List.all_eq_true.mp h2 t mt) c mc
    have hr : isiT b.G t c = some r := hr
    rw [hr] at z
    exact of_decide_eq_true z
def propB (K : PySem.W.Frag) (C : Addr) (f : Str) (g : Addr) : Bool := decide (PySem.W.findIn K (.ref C) f = some (some (.ref (He.ma K C f)))) && decide (PySem.W.specialIn K (.ref (He.ma K C f)) "__get__" = some (some (.builtin "property.__get__"))) && decide (PySem.W.takesIn K (.ref (He.ma K C f)) = some true) &&
  (match PySem.W.recIn K (He.ma K C f) "property" with
  | some (.ref g' :: _) => decide (g' = g)
  | _ => false)
theorem propB_ok {K : PySem.W.Frag} {C : Addr} {f : Str} {g : Addr} (h : propB K C f g = true) : PropOf K C f (He.ma K C f) g := by
  unfold propB at h
  simp only [Bool.and_eq_true, decide_eq_true_eq] at h
  obtain ⟨⟨⟨h1, h2⟩, h3⟩, h4⟩ := h
  refine ⟨h1, h2, h3, ?_⟩
  split at h4
  · rename_i g' rest q
    obtain rfl := of_decide_eq_true h4
    exact ⟨rest, q⟩
  · cases h4
def clsB (b : Bd) (K : PySem.W.Frag) (c : Str) (k : Cl) : Bool := (k.flds.all fun f => (He.Fa.noat c f).ok K) && (if k.exc.isNone then (He.Fa.cls c).ok K && (k.props.all fun p => propB K (He.ga K c) p.1 ((b.D K).fa p.2)) &&
    (k.meths.all fun p => (He.Fa.meth c p.1).ok K && decide ((b.D K).fa p.2 = He.ma K (He.ga K c) p.1) && (if p.1 = ("__init__" : Str) then (He.Fa.mkr c).ok K else true) && (if p.1 = ("__eq__" : Str) then He.eqO (PySem.W.findIn K (.ref (He.ga K c)) "__ne__") (some (some (.builtin "object.__ne__"))) else true))
  else k.props.isEmpty && k.meths.isEmpty && xfB K (He.ga K c))
theorem clsB_ok {b : Bd} {K : PySem.W.Frag} {mg : Str → Option Value} {c : Str} {k : Cl} (h : clsB b K c k = true) : ClsOk ⟨b.G, b.D K, K, mg, none⟩ c k := by
  unfold clsB at h
  rw [Bool.and_eq_true] at h
  obtain ⟨h1, h2⟩ := h
  have fl : ∀ f, k.flds.contains f = true → PySem.W.findIn K (.ref (He.ga K c)) f = some none := fun f hf => He.noat_ok (List.all_eq_true.mp h1 f (List.contains_iff_mem.mp hf))
  cases he : k.exc with
  | none =>
    rw [he] at h2
    simp only [Option.isNone_none, if_true, Bool.and_eq_true] at h2
    obtain ⟨⟨h3, h4⟩, h5⟩ := h2
    have me : ∀ m fk, k.meths.lookup m = some fk → Meth K (He.ga K c) m ((b.D K).fa fk) ∧ (m = ("__init__" : Str) → Mk K (He.ga K c) ((b.D K).fa fk)) ∧ (m = ("__eq__" : Str) → PySem.W.findIn K (.ref (He.ga K c)) "__ne__" = some (some (.builtin "object.__ne__"))) := fun m fk e => by
      have z := List.all_eq_true.mp h5 (m, fk) (look_mem e)
      simp only [Bool.and_eq_true, decide_eq_true_eq] at z
      obtain ⟨⟨⟨z1, z2⟩, z3⟩, z4⟩ := z
      rw [z2]
      refine ⟨He.meth_ok z1, fun hm => ?_, fun hm => ?_⟩
      · rw [if_pos hm] at z3
        subst hm
        exact He.mkr_ok z3
      · rw [if_pos hm] at z4
        exact He.eqO_ok z4
    exact ⟨fun _ => He.cls_ok h3, fl, fun f fk e => ⟨_, propB_ok (List.all_eq_true.mp h4 (f, fk) (look_mem e))⟩, fun m fk e => ⟨he, (me m fk e).1⟩, fun fk e => (me _ fk e).2.1 rfl, fun fk e => (me _ fk e).2.2 rfl, fun z => (z he).elim⟩
  | some fs =>
    rw [he] at h2
    simp only [Option.isNone_some, Bool.false_eq_true, if_false, Bool.and_eq_true] at h2
    obtain ⟨⟨h3, h4⟩, h5⟩ := h2
    have e3 : k.props = [] := List.isEmpty_iff.mp h3
    have e4 : k.meths = [] := List.isEmpty_iff.mp h4
    refine ⟨fun z => ?_, fl, fun f fk e => ?_, fun m fk e => ?_, fun fk e => ?_, fun fk e => ?_, fun _ => xfB_ok h5⟩
    · rw [he] at z; cases z
    · rw [e3] at e; cases e
    · rw [e4] at e; cases e
    · rw [e4] at e; cases e
    · rw [e4] at e; cases e
end Dv

set_option linter.all false
set_option autoImplicit false
set_option maxRecDepth 100000
set_option maxHeartbeats 4000000
namespace Dv
open PySem L2 PySem.Spec PyProof.Rows
def konV (b : Bd) (K : PySem.W.Frag) (v : Vv) (u : Value) : Bool := match v with
  | .con k => (match u with | .ref a => decide (a = He.ga K k) | _ => false)
  | v => (match scalV v with | some x => He.relB x u | none => false)
def nmB (b : Bd) (t : Nm) (K : PySem.W.Frag) : Bool :=
  (t.fns.all fun f => (He.Fa.glo f).ok K && decide ((b.D K).fa f = He.ga K f) && PySem.W.keepIn K (.ref ((b.D K).fa f))) && (t.cls.all fun c => (He.Fa.glo c).ok K) &&
  (t.kon.all fun p => match PySem.W.nsIn K mainGlobals p.1 with | some (some u) => konV b K p.2 u | _ => false) &&
  (t.blt.all fun x => (He.Fa.free x).ok K) && (t.npr.all fun f => b.cls.all fun p => (p.2.props.lookup f).isNone) && (He.Fa.free "super").ok K
theorem nmB_ok {b : Bd} {t : Nm} {K : PySem.W.Frag} {h : Heap} {mg : Str → Option Value} (X : K.In h) (G : h.Ns mainGlobals mg) (e : nmB b t K = true) : Wd.NmOk ⟨b.G, b.D K, K, mg, none⟩ t := by
  unfold nmB at e
  rw [Bool.and_eq_true, Bool.and_eq_true, Bool.and_eq_true, Bool.and_eq_true, Bool.and_eq_true] at e
  obtain ⟨⟨⟨⟨⟨h1, h2⟩, h3⟩, h4⟩, h5⟩, h6⟩ := e
  refine ⟨fun f hf => ?_, fun c hc => He.glo_ok X G (List.all_eq_true.mp h2 c hc), fun p hp => ?_, fun x hx => He.free_ok X G (List.all_eq_true.mp h4 x hx), fun f hf c => ?_, He.free_ok X G h6⟩
  · have z := List.all_eq_true.mp h1 f hf
    simp only [Bool.and_eq_true, decide_eq_true_eq] at z
    obtain ⟨⟨z1, z2⟩, z3⟩ := z
    exact ⟨by show mg f = some (.ref ((b.D K).fa f)); rw [z2]; exact He.glo_ok X G z1, z3⟩
  · have z := List.all_eq_true.mp h3 p hp
    cases q : PySem.W.nsIn K mainGlobals p.1 with
    | none => rw [q] at z; cases z
    | some r =>
      rw [q] at z
      cases r with
      | none => cases z
      | some u =>
        have z : konV b K p.2 u = true := z
        have hm : mg p.1 = some u := PySem.W.mg_of X G q
        have scal : ∀ {x : V}, scalV p.2 = some x → He.relB x u = true → ∃ u x, mg p.1 = some u ∧ RelV x u ∧ ∀ m, R (b.D K) m p.2 x := fun {x} k1 k2 => ⟨u, x, hm, He.relB_ok k2, fun m => scal_R k1 m⟩
        obtain ⟨x, v⟩ := p
        cases v with
        | con k =>
          cases u with
          | ref a =>
            have z : decide (a = He.ga K k) = true := z
            obtain rfl := of_decide_eq_true z
            exact ⟨_, .ref (He.ga K k), hm, rfl, fun m => rfl⟩
          | _ => cases z
        | non => exact scal rfl z
        | bl _ => exact scal rfl z
        | int _ => exact scal rfl z
        | str _ => exact scal rfl z
        | _ => cases z
  · show ((b.cls.lookup c).bind fun k => if k.exc.isNone then k.props.lookup f else none) = none
    cases q : b.cls.lookup c with
    | none => rfl
    | some k =>
      have z := List.all_eq_true.mp (List.all_eq_true.mp h5 f hf) (c, k) (look_mem q)
      show (if k.exc.isNone then k.props.lookup f else none) = none
      split
      · exact Option.isNone_iff_eq_none.mp z
      · rfl
def excB (K : PySem.W.Frag) (C : Addr) : Bool := match K.lookup C with
  | some ⟨.type ty, _, .cls cd, sl⟩ => decide (ty = "type") && (match cd.mro, sl.toList with
    | .ref C' :: bm, [_, _, _, _, some (.builtin n), _] => decide (C' = C) && decide (n = "ValueError.__new__") && !cd.hasDel && cd.hasDict && PySem.HandSPX.refsVE bm
    | _, _ => false)
  | _ => false
theorem excB_ok {K : PySem.W.Frag} {C : Addr} (h : excB K C = true) : ∃ nm q N bs bm sn sub ab col dd k0 k1 k2 k3 k5, K.lookup C = some (excClassObj nm q C N bs bm true sn sub ab col dd k0 k1 k2 k3 k5 "ValueError.__new__") ∧ PySem.HandSPX.refsVE bm = true := by
  unfold excB at h
  split at h
  · rename_i ty dd cd sl ho
    rw [Bool.and_eq_true] at h
    obtain ⟨h0, h⟩ := h
    obtain rfl := of_decide_eq_true h0
    split at h
    · rename_i C' bm k0 k1 k2 k3 n k5 hm hs
      simp only [Bool.and_eq_true, decide_eq_true_eq, Bool.not_eq_true'] at h
      obtain ⟨⟨⟨⟨rfl, rfl⟩, hd⟩, hdc⟩, hb⟩ := h
      obtain ⟨n1, n2, n3, n4, n5, n6, n7, n8, n9, n10, n11⟩ := cd
      dsimp only at hm hd hdc
      subst hm hd hdc
      have hsl : sl = #[k0, k1, k2, k3, some (.builtin "ValueError.__new__"), k5] := by
        obtain ⟨l⟩ := sl
        simp only at hs
        rw [hs]
      subst hsl
      exact ⟨n1, n5, n4, n2, bm, n7, n8, n9, n10, dd, k0, k1, k2, k3, k5, ho, hb⟩
    · cases h
  · cases h
def fileB (P : Program) (K : PySem.W.Frag) (cd : Value) : Bool := match cd with
  | .ref a => (match K.lookup a with
    | some ⟨_, _, .fields vs, _⟩ => (match (vs[2]? : Option Value) with
      | some (Value.str file _) => (P.main.file : Str) == file
      | _ => false)
    | _ => false)
  | _ => false
theorem fileB_ok {P : Program} {K : PySem.W.Frag} {cd : Value} (h : fileB P K cd = true) : ∃ a ccl cdd vs ccs file tf, cd = .ref a ∧ K.lookup a = some ⟨ccl, cdd, .fields vs, ccs⟩ ∧ vs[2]? = some (.str file tf) ∧ ((P.main.file : Str) == file) = true := by
  unfold fileB at h
  split at h
  · rename_i a
    split at h
    · rename_i ccl cdd vs ccs q
      split at h
      · rename_i file tf q2
        exact ⟨a, ccl, cdd, vs, ccs, file, tf, rfl, q, q2, h⟩
      · cases h
    · cases h
  · cases h
def cellB (K : PySem.W.Frag) (C : Addr) (cl : List (Str × Addr)) : Bool := match cl with
  | [(_, cc)] => (match K.lookup cc with
    | some ⟨_, _, .cell (some (.ref D)), _⟩ => decide (D = C)
    | _ => false)
  | _ => false
theorem cellB_ok {K : PySem.W.Frag} {C : Addr} {cl : List (Str × Addr)} (h : cellB K C cl = true) : ∃ x cc k kd ks, cl = [(x, cc)] ∧ K.lookup cc = some ⟨k, kd, .cell (some (.ref C)), ks⟩ := by
  unfold cellB at h
  split at h
  · rename_i x cc
    split at h
    · rename_i k kd D ks q
      obtain rfl := of_decide_eq_true h
      exact ⟨x, cc, k, kd, ks, rfl, q⟩
    · cases h
  · cases h
def erB (P : Program) (K : PySem.W.Frag) (e : Er) : Bool :=
  excB K (He.ga K e.c) && He.eqO (PySem.W.findIn K (.ref (He.ga K e.c)) "__setattr__") (some (some (.builtin "object.__setattr__"))) && He.eqO (PySem.W.findIn K (.ref (He.ga K e.c)) "__init__") (some (some (.ref (e.fI K)))) &&
  decide (PySem.W.typeIn K (.ref (e.fI K)) = some (.type "function")) && PySem.W.keepIn K (.ref (He.ga K e.c)) && decide (PySem.W.subIn K (.ref (He.ga K e.c)) (.type "BaseException") = some true) && decide (PySem.W.typeIn K (.ref (He.ga K e.c)) = some (.type "type")) &&
  PySem.W.hasDictIn K (He.ga K e.c) && He.eqO (PySem.W.ks_superIn K (He.ga K e.c) (He.ga K e.c) "__init__") (some (some (.builtin "ValueError.__init__"))) && decide (PySem.W.subIn K (.ref (He.ga K e.c)) (.type "ValueError") = some true) && decide (PySem.W.mroIn K (He.ga K e.c) (.ref (He.ga K e.c)) = some true) &&
  He.eqO (PySem.W.nsIn K cStatics "thirdparty.any") (some none) && He.eqO (PySem.W.findIn K (.ref (He.ga K e.c)) e.fld) (some none) &&
  (match K.lookup (e.fI K) with
  | some ⟨_, _, .func fd, _⟩ => PySem.W.codeIn K fd.code e.qual && fileB P K fd.code && cellB K (He.ga K e.c) fd.closure
  | _ => false)
/-- what is known of it without the program -/
structure Er.Pf (P : Program) (e : Er) : Prop where
  top : (P.main.scope.names.lookup ("super" : Str)).isSome = false
  fld : (e.fld == ("__debug__" : Str)) = false ∧ (ownScope (some e.fld)).names.lookup e.fld = some .local ∧ e.fld ≠ ("self" : Str)
  sc : (ownScope (some e.fld)).names.lookup ("super" : Str) = some .globalImplicit ∧ (ownScope (some e.fld)).names.lookup ("__class__" : Str) = some .free ∧ (ownScope (some e.fld)).names.lookup ("self" : Str) = some .local ∧ (∀ x ∈ (ownScope (some e.fld)).names, x.2 ≠ .cell)
  ln : ((e.p 2).endLine == (e.p 4).line) = true
  bnd : ∀ (doc pm : Value) (an : Option Addr) (cd ct : Value) (cc : Addr) (u v : Value), bindArgs (PySem.W.ksFn "__init__" e.qual (ownArgs (some e.fld) e.p) (ownBody e.txt e.k (some e.fld) e.p) (ownScope (some e.fld)) .none .none doc pm an cd ct cc) ⟨[u, v], []⟩ = pure [(("self" : Str), u), (e.fld, v)]
theorem er_tx {P : Program} {K : PySem.W.Frag} {e : Er} (ob : e.obs K = e.val) (h : erB P K e = true) (p : e.Pf P) : OwnTx P K (He.ga K e.c) (e.fI K) (some e.fld) := by
  unfold erB at h
  iterate 13 rw [Bool.and_eq_true] at h
  obtain ⟨⟨⟨⟨⟨⟨⟨⟨⟨⟨⟨⟨⟨h1, h2⟩, h3⟩, h4⟩, h5⟩, h6⟩, h7⟩, h8⟩, h9⟩, h10⟩, h11⟩, h12⟩, h13⟩, h14⟩ := h
  unfold Er.obs at ob
  cases q : K.lookup (e.fI K) with
  | none => rw [q] at h14; cases h14
  | some o =>
    obtain ⟨oc, od, dt, osl⟩ := o
    rw [q] at ob h14
    cases dt with
    | func fd =>
      obtain ⟨n1, n2, n3, n4, n5, n6, n7, n8, n9, n10, n11, n12, n13, n14, n15⟩ := fd
      have ob : (some (n1, n2, n3, n4, n5, n6, n7.map (·.1), n8, n9, n15) : FnE) = e.val := ob
      unfold Er.val at ob
      simp only [Option.some.injEq, Prod.mk.injEq] at ob
      obtain ⟨e1, e2, e3, e4, e5, e6, e7, e8, e9, e10⟩ := ob
      subst e1 e2 e3 e4 e5 e6 e8 e9 e10
      have h14 : (PySem.W.codeIn K n13 e.qual && fileB P K n13 && cellB K (He.ga K e.c) n7) = true := h14
      rw [Bool.and_eq_true, Bool.and_eq_true] at h14
      obtain ⟨⟨k1, k2⟩, k3⟩ := h14
      obtain ⟨a, ccl, cdd, vs, ccs, file, tf, rfl, l1, l2, l3⟩ := fileB_ok k2
      obtain ⟨x, cc, kc, kd, ks, rfl, l4⟩ := cellB_ok k3
      have ex : x = ("__class__" : Str) := by simpa using e7
      subst ex
      exact ⟨excB_ok h1, He.eqO_ok h2, He.eqO_ok h3, of_decide_eq_true h4, h5, of_decide_eq_true h6, of_decide_eq_true h7, h8, He.eqO_ok h9, of_decide_eq_true h10, of_decide_eq_true h11, He.eqO_ok h12, p.top, fun y hy => by cases hy; exact ⟨He.eqO_ok h13, p.fld.1, p.fld.2.1, p.fld.2.2⟩, p.sc,
        ⟨oc, od, e.qual, n10, n11, n12, a, n14, cc, osl, e.txt, e.k, e.p, ccl, kc, cdd, kd, ccs, ks, vs, file, tf, q, k1, fun fld hf u v => by cases hf; exact p.bnd _ _ _ _ _ _ u v, p.ln, l1, l2, l3, l4⟩⟩
    | _ => cases h14
end Dv

set_option linter.all false
set_option autoImplicit false
set_option maxRecDepth 100000
set_option maxHeartbeats 4000000
namespace Dv
open PySem L2 PySem.Spec PyProof.Rows
def errL (b : Bd) : List Str := (b.cls.filter (·.2.exc.isSome)).map (·.1)
def exmB (b : Bd) (K : PySem.W.Frag) : Bool := (errL b).all fun c => (errL b).all fun c' => decide (PySem.W.exmOne K (.ref (He.ga K c)) (.ref (He.ga K c')) = some (decide (c = c')))
def txB (b : Bd) (t : Nm) (P : Program) (es : List Er) (K : PySem.W.Frag) : Bool := conB b K && b.G.clsI.all (clsIB K) && isiB b K && b.cls.all (fun p => clsB b K p.1 p.2) && nmB b t K && es.all (erB P K) && exmB b K
def erAll (b : Bd) (es : List Er) : Bool := b.cls.all fun p => match p.2.exc with
  | none => true
  | some fs => es.any fun e => decide (e.c = p.1) && decide (fs = [e.fld])
section
variable {b : Bd} {t : Nm} {P : Program} {es : List Er} {K : PySem.W.Frag} {h : Heap} {mg : Str → Option Value}
theorem err_mem {c : Str} (e : ((b.G.cls c).bind (·.exc)).isSome = true) : c ∈ errL b := by
  have e : ((b.cls.lookup c).bind (·.exc)).isSome = true := e
  cases q : b.cls.lookup c with
  | none => rw [q] at e; cases e
  | some k =>
    rw [q] at e
    exact List.mem_map.mpr ⟨(c, k), List.mem_filter.mpr ⟨look_mem q, e⟩, rfl⟩
theorem txt_ok (X : K.In h) (G : h.Ns mainGlobals mg) (c : SaysZ (b.ds.map (·.2)) es (txB b b.t P es) K h) (hs : erAll b es = true) (pe : ∀ e ∈ es, e.Pf P) (pd : ∀ p ∈ b.ds, p.2.Pf b.t b.G) : Txt ⟨b.G, b.D K, K, mg, none⟩ b.t P (csZ (b.ds.map (·.2)) K) := by
  have e := c.ex
  unfold txB at e
  iterate 6 rw [Bool.and_eq_true] at e
  obtain ⟨⟨⟨⟨⟨⟨h1, h2⟩, h3⟩, h4⟩, h5⟩, h6⟩, h7⟩ := e
  have fnOf : ∀ f fi, b.G.fns f = some fi → ∃ d, b.ds.lookup f = some d ∧ d.ir = fi := fun f fi hf => by
    obtain ⟨d, q, rfl⟩ := Option.map_eq_some_iff.mp (show (b.ds.lookup f).map (·.ir) = some fi from hf)
    exact ⟨d, q, rfl⟩
  have faOf : ∀ {f d}, b.ds.lookup f = some d → (b.D K).fa f = d.at_.addr K := fun {f d} q => by
    show (match b.ds.lookup f with | some d => d.at_.addr K | none => 0) = _
    rw [q]
  have inD : ∀ {f d}, b.ds.lookup f = some d → d ∈ b.ds.map (·.2) := fun {f d} q => List.mem_map.mpr ⟨(f, d), look_mem q, rfl⟩
  refine ⟨⟨conB_ok h1, isi_ok h2 h3, fun f hf => ?_, fun f hf => ?_⟩, fun c' k hk => clsB_ok (List.all_eq_true.mp h4 (c', k) (look_mem hk)), nmB_ok X G h5, fun c' k fs hk hx => ?_, fun c1 c2 k1 k2 => ?_, fun f fi hf => ?_, fun l lm => Iff.rfl⟩
  · obtain ⟨fi, hf⟩ := Option.isSome_iff_exists.mp hf
    obtain ⟨d, q, _⟩ := fnOf f fi hf
    have z := (c.df (inD q)).2
    unfold Df.ok at z
    rw [Bool.and_eq_true] at z
    show PySem.W.keepIn K (.ref ((b.D K).fa f)) = true
    rw [faOf q]
    exact z.1
  · obtain ⟨fi, hf⟩ := Option.isSome_iff_exists.mp hf
    obtain ⟨d, q, _⟩ := fnOf f fi hf
    have z := (c.df (inD q)).2
    unfold Df.ok at z
    rw [Bool.and_eq_true] at z
    have z := z.2
    show PySem.W.fnIn K ((b.D K).fa f) = true
    rw [faOf q]
    unfold PySem.W.fnIn
    split at z
    · rename_i q2; rw [q2]
    · cases z
  · have z := List.all_eq_true.mp hs (c', k) (look_mem hk)
    dsimp only at z
    rw [hx] at z
    obtain ⟨er, hm, z⟩ := List.any_eq_true.mp z
    simp only [Bool.and_eq_true, decide_eq_true_eq] at z
    obtain ⟨rfl, rfl⟩ := z
    exact ⟨er.fI K, er.fld, rfl, er_tx (c.err hm) (List.all_eq_true.mp h6 er hm) (pe er hm)⟩
  · exact of_decide_eq_true (List.all_eq_true.mp (List.all_eq_true.mp h7 c1 (err_mem k1)) c2 (err_mem k2))
  · obtain ⟨d, q, rfl⟩ := fnOf f fi hf
    exact fn_tx (w := ⟨b.G, b.D K, K, mg, none⟩) rfl (faOf q) (c.df (inD q)) (pd (f, d) (look_mem q)) (inD q) rfl c.uni
end
/-- the walk over the head's word -/
theorem walk_Z {l : PySem.W.OpenLaw} {most n : Nat} {q : Program} {loose : List Str} {XP : (Str → Option Value) → Heap → Prop} {d : DefRec} {b : Bd} {es : List Er}
    (hn : l.most = some most) (hn2 : most ≤ sizeLine) (hdf : d.params.defaults = []) (hd : d.name = "law") (hl : ∃ d0, b.ds.lookup ("law" : Str) = some d0 ∧ d0.ir.kw = []) (hf : b.t.fns.contains "law" = true) (hs : erAll b es = true) (pe : ∀ e ∈ es, e.Pf l.prog) (pd : ∀ p ∈ b.ds, p.2.Pf b.t b.G)
    (run_ok : ∀ ns : List Int, ns.length ≤ most → ∃ n h', n ≤ 500 ∧ run b.G n "law" [.ref 0] [.rol (ns.map .int)] = some (.ok (.bl true) h')) :
    PySem.W.WalkO q loose XP (hookZ n (b.ds.map (·.2)) es (txB b b.t l.prog es)).says l.row.toRowW d [] (fun f vs => PySem.call f vs) := by
  refine walk_D b.G b.t hn hn2 hdf ?_ (fun wl mg fa h Y G hmg => ?_) run_ok
  · obtain ⟨d, q, q2⟩ := hl
    exact ⟨d.ir, by show (b.ds.lookup ("law" : Str)).map (·.ir) = _; rw [q]; rfl, q2⟩
  · obtain ⟨K, KX, c⟩ := Y
    have T := txt_ok KX G c hs pe pd
    refine ⟨⟨b.G, b.D K, K, mg, none⟩, csZ (b.ds.map (·.2)) K, rfl, rfl, ?_, KX, T, fun q hq => ?_, fun p hp => ?_⟩
    rotate_left
    · obtain ⟨z1, z2, z3⟩ := c.hd q hq
      exact ⟨z3, z2, PySem.W.codeHd_of_K KX z1⟩
    · obtain ⟨d, hd, rfl⟩ := List.mem_map.mp (show p ∈ tbZ (b.ds.map (·.2)) K from hp)
      exact ⟨ctZ K d, List.mem_map.mpr ⟨d, hd, rfl⟩, rfl⟩
    have z := (T.nm.fn "law" (List.contains_iff_mem.mp hf)).1
    rw [hd] at hmg
    have z2 : mg "law" = some (.ref ((b.D K).fa "law")) := z
    rw [hmg] at z2
    injection z2 with z3
    injection z3 with z4
    exact z4.symm
end Dv

set_option linter.all false
set_option autoImplicit false
set_option maxRecDepth 100000
set_option maxHeartbeats 1000000
namespace Pl
open PySem Dv
section
variable {G : Tx}
abbrev oc (G : Tx) (n : Nat) : Orc := orcOf G (run G (n - 1)) (run G (n - 2)) (lrun G (n - 1))
theorem run_of {n : Nat} {f : Str} {fi : Fn} {vs : List Vv} {h : VH} (hf : G.fns f = some fi) (hn : 2 ≤ n) : run G n f vs h = bodyF G (oc G n) fi vs h := by
  obtain ⟨k, rfl⟩ : ∃ k, n = k + 2 := ⟨n - 2, by omega⟩
  show (match G.fns f with | some fd => bodyF G (orcOf G (run G (k + 1)) (run G k) (lrun G (k + 1))) fd vs h | none => none) = _
  rw [hf]
  rfl
theorem lrun_of {n : Nat} {l : Lf} {vs : List Vv} {h : VH} (hn : 2 ≤ n) : lrun G n l vs h = lamF G (oc G n) l vs h := by
  obtain ⟨k, rfl⟩ : ∃ k, n = k + 2 := ⟨n - 2, by omega⟩
  rfl
theorem call_of {g : Str → List Vv → VH → Option (Re Vv)} {f : Str} {fi : Fn} {vs : List Vv} {h : VH} (hf : G.fns f = some fi) (hk : fi.kw = []) : callP G g f vs h = g f vs h := by
  unfold callP; rw [hf]; simp [hk]
end
def retR : Option Sr → Option (Re Vv)
  | some (.nx _ h) => some (.ok .non h)
  | some (.rt v h) => some (.ok v h)
  | some (.ex x _ h) => some (.ex x h)
  | _ => none
section
variable {G : Tx} {o : Orc} {s s1 : Sl} {h h1 h2 : VH} {a b : St} {c : Tt} {e : Ex} {es : Exs} {r : Option Sr} {v : Vv} {x : Xv}
theorem body_of {f : Fn} {vs : List Vv} (hl : vs.length = f.np) : bodyF G o f vs h = retR (evS G o f.body (vs.map some ++ List.replicate (f.ns - f.np) none) h) := by
  unfold bodyF
  rw [if_pos hl]
  cases evS G o f.body (vs.map some ++ List.replicate (f.ns - f.np) none) h with
  | none => rfl
  | some r => cases r <;> rfl
theorem run_ev {n : Nat} {f : Str} {fi : Fn} {vs : List Vv} {q : Option (Re Vv)} (hf : G.fns f = some fi) (hn : 2 ≤ n) (hl : vs.length = fi.np) (hs : vs.map some ++ List.replicate (fi.ns - fi.np) none = s) (k : evS G (oc G n) fi.body s h = r) (hr : retR r = q) : run G n f vs h = q := by
  rw [run_of hf hn, body_of hl, hs, k, hr]
theorem seq_nx (h1' : evS G o a s h = some (.nx s1 h1)) (k : evS G o b s1 h1 = r) : evS G o (.seq a b) s h = r := by
  show sthen (evS G o a s h) _ = r
  rw [h1']; exact k
theorem seq_rt (k : evS G o a s h = some (.rt v h1)) : evS G o (.seq a b) s h = some (.rt v h1) := by
  show sthen (evS G o a s h) _ = _
  rw [k]; rfl
theorem seq_ex (k : evS G o a s h = some (.ex x s1 h1)) : evS G o (.seq a b) s h = some (.ex x s1 h1) := by
  show sthen (evS G o a s h) _ = _
  rw [k]; rfl
theorem seq_bk (k : evS G o a s h = some (.bk s1 h1)) : evS G o (.seq a b) s h = some (.bk s1 h1) := by
  show sthen (evS G o a s h) _ = _
  rw [k]; rfl
theorem seq_ct (k : evS G o a s h = some (.ct s1 h1)) : evS G o (.seq a b) s h = some (.ct s1 h1) := by
  show sthen (evS G o a s h) _ = _
  rw [k]; rfl
theorem ifs_t (k1 : evT G o c s h = some (.ok true h1)) (k : evS G o a s h1 = r) : evS G o (.ifs c a b) s h = r := by
  show Sb (evT G o c s h) s _ = r
  rw [k1]; exact k
theorem ifs_f (k1 : evT G o c s h = some (.ok false h1)) (k : evS G o b s h1 = r) : evS G o (.ifs c a b) s h = r := by
  show Sb (evT G o c s h) s _ = r
  rw [k1]; exact k
theorem ret_of (k : evE G o e s h = some (.ok v h1)) : evS G o (.ret e) s h = some (.rt v h1) := by
  show Sb (evE G o e s h) s _ = _
  rw [k]; rfl
theorem asg_of {i : Nat} (k : evE G o e s h = some (.ok v h1)) : evS G o (.asg (.one i) e) s h = some (.nx (s.set i (some v)) h1) := by
  show Sb (evE G o e s h) s _ = _
  rw [k]; rfl
end
theorem orc_call {G : Tx} {n : Nat} : (oc G n).call = callP G (run G (n - 1)) := rfl
theorem orc_call2 {G : Tx} {n : Nat} : (oc G n).call2 = callP G (run G (n - 2)) := rfl
theorem orc_callk {G : Tx} {n : Nat} : (oc G n).callk = callK G (run G (n - 1)) := rfl
theorem orc_callk2 {G : Tx} {n : Nat} : (oc G n).callk2 = callK G (run G (n - 2)) := rfl
theorem orc_callL {G : Tx} {n : Nat} : (oc G n).callL = lrun G (n - 1) := rfl
/-- what stands in h stands in h' -/
def HLe (h h' : VH) : Prop := ∀ (j : Nat) (o : Ho), h[j]? = some o → h'[j]? = some o
def HLx (i : Nat) (h h' : VH) : Prop := ∀ (j : Nat) (o : Ho), j ≠ i → h[j]? = some o → h'[j]? = some o
theorem HLe.refl (h : VH) : HLe h h := fun _ _ e => e
theorem HLe.trans {a b c : VH} (x : HLe a b) (y : HLe b c) : HLe a c := fun j o e => y j o (x j o e)
theorem HLe.app (h g : VH) : HLe h (h ++ g) := fun j o e => by
  have := (List.getElem?_eq_some_iff.mp e).1
  rw [List.getElem?_append_left this]; exact e
theorem HLe.x {h h' : VH} (a : HLe h h') (i : Nat) : HLx i h h' := fun j o _ e => a j o e
theorem HLx.trans {i : Nat} {a b c : VH} (x : HLx i a b) (y : HLx i b c) : HLx i a c := fun j o n e => y j o n (x j o n e)
theorem HLx.set (i : Nat) (h : VH) (o : Ho) : HLx i h (h.set i o) := fun j u n e => by rw [List.getElem?_set_ne (Ne.symm n)]; exact e
theorem lt_of_get {h : VH} {i : Nat} {o : Ho} (e : h[i]? = some o) : i < h.length := (List.getElem?_eq_some_iff.mp e).1
theorem get_app {h g : VH} {i : Nat} {o : Ho} (e : h[i]? = some o) : (h ++ g)[i]? = some o := HLe.app h g i o e
theorem get_new {h : VH} {o : Ho} : (h ++ [o])[h.length]? = some o := by simp

def xTake : St := (.seq (.ifs (.val (.cmp .Gt (.idx (.var 0) (.cst (.int 0))) (.cst (.int 0)))) (.seq (.asg (.one 2) (.bin .Mod (.bf .int (.cons (.idx (.var 0) (.cst (.int 0))) .nil)) (.var 1))) (.seq (.seti (.var 0) (.cst (.int 0)) (.bin .FloorDiv (.idx (.var 0) (.cst (.int 0))) (.var 1))) (.seq (.ret (.var 2)) .skip))) .skip) (.seq (.seti (.var 0) (.cst (.int 2)) (.bin .Add (.idx (.var 0) (.cst (.int 2))) (.cst (.int 1)))) (.seq (.asg (.one 3) (.bin .Mod (.bf .int (.cons (.bin .Pow (.bin .Add (.idx (.var 0) (.cst (.int 1))) (.bin .Mult (.cst (.int 1000151)) (.idx (.var 0) (.cst (.int 2))))) (.cst (.int 3))) .nil)) (.cst (.int 2305843009213693921)))) (.seq (.asg (.one 3) (.bin .Mod (.bf .int (.cons (.bin .Pow (.bin .Add (.var 3) (.bin .Mult (.cst (.int 27644437)) (.idx (.var 0) (.cst (.int 2))))) (.cst (.int 2))) .nil)) (.cst (.int 2305843009213693951)))) (.seq (.ret (.bin .Mod (.bf .int (.cons (.bin .FloorDiv (.var 3) (.cst (.int 1024))) .nil)) (.var 1))) .skip)))))
def xOf : St := (.seq (.ret (.idx (.var 1) (.call "_law_take" (.cons (.var 0) (.cons (.bf .len (.cons (.var 1) .nil)) .nil))))) .skip)
def xBag : St := (.seq (.asg (.one 2) (.ite (.val (.cmp .Lt (.var 1) (.bf .len (.cons (.var 0) .nil)))) (.idx (.var 0) (.var 1)) (.cst (.int 0)))) (.seq (.asg (.one 3) (.ite (.val (.cmp .GtE (.bf .abs (.cons (.var 2) .nil)) (.bin .Pow (.cst (.int 10)) (.cst (.int 18))))) (.bf .abs (.cons (.var 2) .nil)) (.cst (.int 0)))) (.seq (.ret (.lst (.cons (.var 3) (.cons (.bin .Mod (.bin .Mult (.bf .int (.cons (.bin .Add (.bin .Add (.bin .Mod (.bf .int (.cons (.var 2) .nil)) (.cst (.int 2305843009213693951))) (.bin .Mult (.cst (.int 7817)) (.var 1))) (.cst (.int 77))) .nil)) (.cst (.int 6700417))) (.cst (.int 2305843009213693951))) (.cons (.cst (.int 0)) .nil))))) .skip)))
/-- a bag at i: B draws may come -/
def Bag (h : VH) (i : Nat) (B : Nat) : Prop := ∃ d c k : Int, h[i]? = some (.lst [.int d, .int c, .int k]) ∧ 0 ≤ d ∧ 0 ≤ c ∧ c < 2305843009213693951 ∧ 0 ≤ k ∧ k + B ≤ 1000000000
theorem Bag.mono {h : VH} {i B B' : Nat} (b : Bag h i B) (l : B' ≤ B) : Bag h i B' := by
  obtain ⟨d, c, k, h1, h2, h3, h4, h5, h6⟩ := b
  exact ⟨d, c, k, h1, h2, h3, h4, h5, by omega⟩
theorem Bag.keep {h h' : VH} {i B : Nat} (b : Bag h i B) (l : HLe h h') : Bag h' i B := by
  obtain ⟨d, c, k, h1, r⟩ := b
  exact ⟨d, c, k, l _ _ h1, r⟩
section
variable {G : Tx}
/-- what a def's texts give: the draws -/
structure Drw (G : Tx) : Prop where
  bag : G.fns "_law_bag" = some ⟨2, 4, xBag, []⟩
  take : G.fns "_law_take" = some ⟨2, 4, xTake, []⟩
  of_ : G.fns "_law_of" = some ⟨2, 2, xOf, []⟩
theorem take_ok (D : Drw G) {n : Nat} (hn : 2 ≤ n) {h : VH} {i B : Nat} {m : Int} (b : Bag h i (B + 1)) (h0 : 0 < m) (h1 : m < 1073741824) : ∃ (r : Int) (h' : VH), run G n "_law_take" [.ref i, .int m] h = some (.ok (.int r) h') ∧ 0 ≤ r ∧ r < m ∧ Bag h' i B ∧ HLx i h h' := by
  rw [run_of D.take hn]
  obtain ⟨d, c, k, e, hd, hc, hc2, hk, hB⟩ := b
  have hl := lt_of_get e
  by_cases q : 0 < d
  · refine ⟨d % m, h.set i (.lst [.int (d / m), .int c, .int k]), ?_, Int.emod_nonneg _ (by omega), Int.emod_lt_of_pos _ h0, ⟨d / m, c, k, by simp [hl], Int.ediv_nonneg hd (by omega), hc, hc2, hk, by omega⟩, HLx.set _ _ _⟩
    simp [bodyF, xTake, evS, evE, evEs, evT, Rb, Sb, sthen, index, seqOf, obj, e, place, cmpop, ok1, truth, binop, callb, h0, h1, q]
  · have a1 : (c + 1000151 * (k + 1)).natAbs < 18446744073709551616 := by omega
    have m1a : 0 ≤ (c + 1000151 * (k + 1)) ^ 3 % 2305843009213693921 := Int.emod_nonneg _ (by omega)
    have m1b : (c + 1000151 * (k + 1)) ^ 3 % 2305843009213693921 < 2305843009213693921 := Int.emod_lt_of_pos _ (by omega)
    have a2 : ((c + 1000151 * (k + 1)) ^ 3 % 2305843009213693921 + 27644437 * (k + 1)).natAbs < 18446744073709551616 := by omega
    have es : ∀ o : Ho, (h.set i o)[i]? = some o := fun o => by rw [List.getElem?_set_self hl]
    refine ⟨_, h.set i (.lst [.int d, .int c, .int (k + 1)]), ?_, Int.emod_nonneg (((c + 1000151 * (k + 1)) ^ 3 % 2305843009213693921 + 27644437 * (k + 1)) ^ 2 % 2305843009213693951 / 1024) (by omega), Int.emod_lt_of_pos _ h0, ⟨d, c, k + 1, es _, hd, hc, hc2, by omega, by omega⟩, HLx.set _ _ _⟩
    simp [bodyF, xTake, evS, evE, evEs, evT, Rb, Sb, sthen, index, seqOf, obj, e, place, cmpop, ok1, truth, binop, callb, h0, h1, q, es, a1, a2]
theorem of_ok (D : Drw G) {n : Nat} (hn : 4 ≤ n) {h : VH} {i B j : Nat} {xs : List Vv} (b : Bag h i (B + 1)) (hj : h[j]? = some (.lst xs)) (hx : 0 < xs.length) (hx2 : xs.length < 1000000) (hij : j ≠ i) : ∃ (v : Vv) (h' : VH), run G n "_law_of" [.ref i, .ref j] h = some (.ok v h') ∧ v ∈ xs ∧ Bag h' i B ∧ HLx i h h' := by
  rw [run_of D.of_ (by omega)]
  obtain ⟨r, h', e1, r0, r1, b', x⟩ := take_ok D (n := n - 1) (by omega) (m := xs.length) b (by omega) (by omega)
  have hj' := x j _ hij hj
  obtain ⟨k, rfl⟩ := Int.eq_ofNat_of_zero_le r0
  have hk : k < xs.length := by omega
  refine ⟨xs[k], h', ?_, List.getElem_mem hk, b', x⟩
  simp [bodyF, xOf, evS, evE, evEs, evT, Rb, Sb, sthen, index, seqOf, obj, hj, hj', place, ok1, callb, orc_call, call_of D.take, e1, hk]
theorem pow18 {h : VH} : binop .Pow (.int 10) (.int 18) h = some (.ok (.int 1000000000000000000) h) := by
  have e : (10 : Int) ^ 18 = 1000000000000000000 := by decide +kernel
  show (if 0 ≤ (18 : Int) ∧ (18 : Int) ≤ 1000000 ∧ (10 : Int).natAbs < 2 ^ 64 then ok1 (.int ((10 : Int) ^ (18 : Int).toNat)) h else none) = _
  rw [if_pos (by decide)]
  show ok1 (.int ((10 : Int) ^ 18)) h = _
  rw [e]
  rfl
theorem bAdd {i j : Int} {h : VH} : binop .Add (.int i) (.int j) h = some (.ok (.int (i + j)) h) := rfl
theorem bMod {i j : Int} {h : VH} (q : 0 < j) : binop .Mod (.int i) (.int j) h = some (.ok (.int (i % j)) h) := if_pos q
theorem bMul {i j : Int} {h : VH} (q : -(2 ^ 64) < j ∧ j < 2 ^ 64) : binop .Mult (.int i) (.int j) h = some (.ok (.int (i * j)) h) := if_pos (.inr q)
theorem bMulL {i j : Int} {h : VH} (q : -(2 ^ 64) < i ∧ i < 2 ^ 64) : binop .Mult (.int i) (.int j) h = some (.ok (.int (i * j)) h) := if_pos (.inl q)
theorem bag_new {h : VH} {d c : Int} (h1 : 0 ≤ d) (h2 : 0 ≤ c) (h3 : c < 2305843009213693951) {B : Nat} (hB : B ≤ 1000000000) : Bag (h ++ [Ho.lst [.int d, .int c, .int 0]]) h.length B := by
  refine ⟨d, c, 0, get_new, h1, h2, h3, Int.le_refl 0, ?_⟩
  rw [Int.zero_add]
  exact Int.ofNat_le.mpr hB
theorem bag_c (z : Int) (at_ : Nat) : ∃ c : Int, c = (z % 2305843009213693951 + 7817 * at_ + 77) * 6700417 % 2305843009213693951 ∧ 0 ≤ c ∧ c < 2305843009213693951 := ⟨_, rfl, Int.emod_nonneg _ (by decide), Int.emod_lt_of_pos _ (by decide)⟩
theorem bag_d (z : Int) : ∃ u d : Int, u = (if z < 0 then -z else z) ∧ d = (if 1000000000000000000 ≤ u then u else 0) ∧ 0 ≤ d := ⟨_, _, rfl, rfl, by split <;> split <;> omega⟩
def xBag2 : St := (.seq (.asg (.one 3) (.ite (.val (.cmp .GtE (.bf .abs (.cons (.var 2) .nil)) (.bin .Pow (.cst (.int 10)) (.cst (.int 18))))) (.bf .abs (.cons (.var 2) .nil)) (.cst (.int 0)))) (.seq (.ret (.lst (.cons (.var 3) (.cons (.bin .Mod (.bin .Mult (.bf .int (.cons (.bin .Add (.bin .Add (.bin .Mod (.bf .int (.cons (.var 2) .nil)) (.cst (.int 2305843009213693951))) (.bin .Mult (.cst (.int 7817)) (.var 1))) (.cst (.int 77))) .nil)) (.cst (.int 6700417))) (.cst (.int 2305843009213693951))) (.cons (.cst (.int 0)) .nil))))) .skip))
theorem bag2 {o : Orc} {h : VH} {z : Int} {at_ : Nat} {x : Option Vv} {u d c : Int} (hu : u = (if z < 0 then -z else z)) (hd : d = (if 1000000000000000000 ≤ u then u else 0)) (hc : c = (z % 2305843009213693951 + 7817 * at_ + 77) * 6700417 % 2305843009213693951) :
    evS G o xBag2 [x, some (.int at_), some (.int z), none] h = some (.rt (.ref h.length) (h ++ [Ho.lst [.int d, .int c, .int 0]])) := by
  by_cases q : 1000000000000000000 ≤ u
  · rw [if_pos q] at hd
    subst hd
    simp [xBag2, evS, evE, evEs, evT, Rb, Sb, sthen, cmpop, ok1, truth, pow18, bAdd, bMod, bMul, bMulL, callb, q, new, sz, ← hu, ← hc]
  · rw [if_neg q] at hd
    subst hd
    simp [xBag2, evS, evE, evEs, evT, Rb, Sb, sthen, cmpop, ok1, truth, pow18, bAdd, bMod, bMul, bMulL, callb, q, new, sz, ← hu, ← hc]
/-- the bag of a cell -/
theorem bag_ok (D : Drw G) {n : Nat} (hn : 2 ≤ n) {h : VH} {i : Nat} {ns : List Int} {at_ : Nat} (hi : h[i]? = some (.rol (ns.map .int))) : ∃ h', run G n "_law_bag" [.ref i, .int at_] h = some (.ok (.ref h.length) h') ∧ Bag h' h.length 1000000000 ∧ HLe h h' := by
  rw [run_of D.bag hn]
  have go : ∀ z : Int, evS G (oc G n) (.asg (.one 2) (.ite (.val (.cmp .Lt (.var 1) (.bf .len (.cons (.var 0) .nil)))) (.idx (.var 0) (.var 1)) (.cst (.int 0)))) [some (.ref i), some (.int at_), none, none] h = some (.nx [some (.ref i), some (.int at_), some (.int z), none] h) →
      ∃ h', bodyF G (oc G n) ⟨2, 4, xBag, []⟩ [.ref i, .int at_] h = some (.ok (.ref h.length) h') ∧ Bag h' h.length 1000000000 ∧ HLe h h' := fun z e => by
    obtain ⟨c, hc, h1, h2⟩ := bag_c z at_
    obtain ⟨u, d, hu, hd, h3⟩ := bag_d z
    refine ⟨_, ?_, bag_new h3 h1 h2 (Nat.le_refl _), HLe.app _ _⟩
    rw [body_of rfl]
    exact congrArg retR (seq_nx e (bag2 hu hd hc))
  by_cases q : at_ < ns.length
  · exact go ns[at_] (by simp [evS, evE, evEs, evT, Rb, Sb, index, seqOf, obj, hi, place, cmpop, ok1, truth, callb, q])
  · exact go 0 (by simp [evS, evE, evEs, evT, Rb, Sb, index, seqOf, obj, hi, place, cmpop, ok1, truth, callb, q])
end
end Pl

set_option linter.all false
set_option autoImplicit false
set_option maxRecDepth 100000
set_option maxHeartbeats 1000000
namespace Pl
open PySem Dv
def LETTERS : Str := "abcdefghijklmnopqrstuvwxyz"
def hasS (b a : Str) : Bool := !(Builtin.Str.occurrences b a 0 b.length 1).isEmpty
def letter (c : Nat) : Bool := hasS LETTERS ⟨#[c]⟩
def reserved : List Vv := [(.str "define"), (.str "undef"), (.str "include"), (.str "body"), (.str "need"), (.str "stop"), (.str "if"), (.str "elif"), (.str "else"), (.str "endif"), (.str "not"), (.str "and"), (.str "or"), (.str "was"), (.str "has"), (.str "name"), (.str "header")]
def isRes (z : Str) : Bool := reserved.any fun u => feq u (.str z)
def isW (z : Str) : Bool := decide (1 ≤ (z.length : Int)) && decide ((z.length : Int) ≤ 8) && !isRes z && z.cps.toList.all letter
def isWV : Vv → Bool
  | .str z => isW z
  | _ => false
def xIsInt : St := (.seq (.ret (.and (.bf .isinst (.cons (.var 0) (.cons (.cst (.ty "int")) .nil))) (.not (.bf .isinst (.cons (.var 0) (.cons (.cst (.ty "bool")) .nil)))))) .skip)
def xIsWord : St := (.seq (.ifs (.or (.not (.val (.bf .isinst (.cons (.var 0) (.cons (.cst (.ty "str")) .nil))))) (.or (.not (.val (.chain .LtE .LtE (.cst (.int 1)) (.bf .len (.cons (.var 0) .nil)) (.cst (.int 8))))) (.val (.cmp .In (.var 0) (.cst (.con "RESERVED")))))) (.seq (.ret (.cst (.bl false))) .skip) .skip) (.seq (.ret (.bf .all (.cons (.lc (.cmp .In (.var 1) (.cst (.str "abcdefghijklmnopqrstuvwxyz"))) [1] [1] (.val (.var 0)) .yes) .nil))) .skip))
def xIsVal : St := (.seq (.ret (.or (.cmp .Is (.var 0) (.cst .non)) (.and (.call "is_integer" (.cons (.var 0) .nil)) (.chain .LtE .Lt (.cst (.int 0)) (.var 0) (.var 1))))) .skip)
structure WrdW (G : Tx) : Prop where
  word : G.fns "is_word" = some ⟨1, 2, xIsWord, []⟩
  res : G.cons "RESERVED" = some (.tup reserved)
structure Wrd (G : Tx) : Prop extends WrdW G where
  int : G.fns "is_integer" = some ⟨1, 1, xIsInt, []⟩
  val : G.fns "is_value" = some ⟨2, 2, xIsVal, []⟩
section
variable {G : Tx} {n : Nat} {h : VH} {v : Vv} {T : String}
theorem isi_ty {m : String} (t : tyv G h v = some (.ty T)) (hm : m ∈ ["int", "bool", "str", "list", "tuple", "dict"]) : isinst G v (.ty m) h = some (T == m || (T == "bool" && m == "int")) := by
  unfold isinst
  rw [t]
  show (if (["int", "bool", "str", "list", "tuple", "dict"].contains m) = true then some (T == m || (T == "bool" && m == "int")) else none) = _
  exact if_pos (List.contains_iff_mem.mpr hm)
theorem ty_obj {o : Option Ho} (t : (match o with
    | some (.lst _) => some (.ty "list")
    | some (.rol _) => some (.ty "list")
    | some (.tup _) => some (.ty "tuple")
    | some (.dct _) => some (.ty "dict")
    | some (.ins c _) => if G.clsI.contains c then some (.cls c) else none
    | _ => none) = some (Vv.ty T)) : T = "list" ∨ T = "tuple" ∨ T = "dict" := by
  split at t
  · simp only [Option.some.injEq, Vv.ty.injEq] at t; exact .inl t.symm
  · simp only [Option.some.injEq, Vv.ty.injEq] at t; exact .inl t.symm
  · simp only [Option.some.injEq, Vv.ty.injEq] at t; exact .inr (.inl t.symm)
  · simp only [Option.some.injEq, Vv.ty.injEq] at t; exact .inr (.inr t.symm)
  · split at t <;> cases t
  · cases t
theorem ty_ref {i : Nat} (t : tyv G h (.ref i) = some (.ty T)) : T = "list" ∨ T = "tuple" ∨ T = "dict" := ty_obj (o := h[i]?) t
theorem ty_con {i : Str} (t : tyv G h (.con i) = some (.ty T)) : T = "list" ∨ T = "tuple" ∨ T = "dict" := ty_obj (o := G.cons i) t
theorem isint_ok (D : Wrd G) (hn : 2 ≤ n) (t : tyv G h v = some (.ty T)) : run G n "is_integer" [v] h = some (.ok (.bl (T == "int")) h) := by
  refine run_ev D.int hn rfl rfl (r := some (.rt (.bl (T == "int")) h)) ?_ rfl
  have e1 := isi_ty (m := "int") t (by decide)
  have e2 := isi_ty (m := "bool") t (by decide)
  by_cases q : T = "int"
  · subst q
    simp [-List.append_assoc, evS, evE, evEs, evT, evI, Rb, Sb, sthen, ok1, truth, xIsInt, callb, e1, e2]
  · by_cases q2 : T = "bool"
    · subst q2
      simp [-List.append_assoc, evS, evE, evEs, evT, evI, Rb, Sb, sthen, ok1, truth, xIsInt, callb, e1, e2]
    · have q' : (T == "int") = false := by simpa using q
      have q2' : (T == "bool") = false := by simpa using q2
      simp [-List.append_assoc, evS, evE, evEs, evT, evI, Rb, Sb, sthen, ok1, truth, xIsInt, callb, e1, e2, q', q2']
/-- a comprehension whose parts only read -/
theorem lc_pure {α : Type} {e : Sl → VH → Option (Re Vv)} {cd : Sl → VH → Option (Re Bool)} {s : Sl} {tg : List Nat} {kp : VH → Bool} {it : α → List Vv} {g : α → Bool} {f : α → Vv} (hk : ∀ acc, kp (h ++ [.lst acc]) = true)
    (he : ∀ x acc, ∃ s1, setT tg s (it x) = some s1 ∧ cd s1 (h ++ [.lst acc]) = some (.ok (g x) (h ++ [.lst acc])) ∧ (g x = true → e s1 (h ++ [.lst acc]) = some (.ok (f x) (h ++ [.lst acc])))) :
    ∀ (xs : List α) (acc : List Vv), acc.length + xs.length ≤ sz → lcF e cd s tg kp h.length (xs.map it) (h ++ [.lst acc]) = some (.ok (.ref h.length) (h ++ [.lst (acc ++ (xs.filter g).map f)]))
  | [], acc, _ => by simp [lcF, hk]
  | x :: xs, acc, hl => by
    obtain ⟨s1, e1, e2, e3⟩ := he x acc
    simp only [List.length_cons] at hl
    have ac : acc.length < sz := by omega
    cases q : g x with
    | true =>
      have ih := lc_pure (it := it) (g := g) (f := f) hk he xs (acc ++ [f x]) (by rw [List.length_append, List.length_singleton]; omega)
      simp only [List.map_cons, lcF, hk, e1, e2, q, e3 q, get_new, ac, if_true]
      rw [show (h ++ [Ho.lst acc]).set h.length (.lst (acc ++ [f x])) = h ++ [.lst (acc ++ [f x])] by simp]
      rw [ih]
      simp [List.filter_cons, q]
    | false =>
      have ih := lc_pure (it := it) (g := g) (f := f) hk he xs acc (by omega)
      simp only [List.map_cons, lcF, hk, e1, e2, q, if_true]
      rw [ih]
      simp [List.filter_cons, q]
theorem bools_map {α : Type} (f : α → Bool) : ∀ xs : List α, bools (xs.map fun x => .bl (f x)) = some (xs.map f)
  | [] => rfl
  | x :: xs => by
    show (bools (xs.map fun x => .bl (f x))).map (f x :: ·) = _
    rw [bools_map f xs]; rfl
theorem bools_all (bs : List Bool) : bools (bs.map .bl) = some bs := by
  induction bs with
  | nil => rfl
  | cons b r ih => show (bools (r.map .bl)).map (b :: ·) = _; rw [ih]; rfl
theorem filter_true {α : Type} (xs : List α) : xs.filter (fun _ => true) = xs := by simp
theorem wword_no (D : WrdW G) (hn : 2 ≤ n) (t : tyv G h v = some (.ty T)) (q : T ≠ "str") : run G n "is_word" [v] h = some (.ok (.bl false) h) := by
  refine run_ev D.word hn rfl rfl (r := some (.rt (.bl false) h)) ?_ rfl
  have e1 := isi_ty (m := "str") t (by decide)
  have q' : (T == "str") = false := by simpa using q
  simp [-List.append_assoc, evS, evE, evEs, evT, evI, Rb, Sb, sthen, ok1, truth, xIsWord, callb, e1, q']
theorem wword_str (D : WrdW G) (hn : 2 ≤ n) {z : Str} (hz : z.length ≤ 1000000) : ∃ g, run G n "is_word" [.str z] h = some (.ok (.bl (isW z)) (h ++ g)) := by
  have hz2 : z.length ≤ sz := Nat.le_trans hz (by decide)
  have e1 := isi_ty (G := G) (h := h) (v := .str z) (m := "str") (T := "str") rfl (by decide)
  have hin : cmpop G (oc G n) .In (.str z) (.con "RESERVED") h = some (.ok (.bl (isRes z)) h) := by
    have hf : (flat (.str z) && reserved.all flat) = true := rfl
    show (seqOf G h (.con "RESERVED")).bind _ = _
    have hs : seqOf G h (.con "RESERVED") = some reserved := by simp [seqOf, obj, D.res]
    rw [hs]
    show (if (flat (.str z) && reserved.all flat) = true then _ else none) = _
    rw [if_pos hf]
    rfl
  by_cases q1 : 1 ≤ (z.length : Int)
  · by_cases q2 : (z.length : Int) ≤ 8
    · cases q3 : isRes z with
      | true =>
        refine ⟨[], run_ev D.word hn rfl rfl (r := some (.rt (.bl false) h)) ?_ (by simp [retR, isW, q3])⟩
        have l1 : cmpop G (oc G n) .LtE (.int 1) (.int z.length) h = some (.ok (.bl true) h) := by simp [cmpop, ok1, q1]
        have l2 : cmpop G (oc G n) .LtE (.int z.length) (.int 8) h = some (.ok (.bl true) h) := by simp [cmpop, ok1, q2]
        simp [-List.append_assoc, evS, evE, evEs, evT, evI, Rb, Sb, sthen, ok1, truth, xIsWord, callb, e1, hz2, l1, l2, hin, q3]
      | false =>
        refine ⟨[.lst (z.cps.toList.map fun c => .bl (letter c))], run_ev D.word hn rfl rfl (r := some (.rt (.bl (z.cps.toList.all letter)) (h ++ [.lst (z.cps.toList.map fun c => .bl (letter c))]))) ?_ (by simp [retR, isW, q1, q2, q3])⟩
        have c1 : callb G .isinst [.str z, .ty "str"] h = some (.ok (.bl true) h) := by simp [callb, e1, ok1]
        have c2 : callb G .len [.str z] h = some (.ok (.int z.length) h) := by simp [callb, hz2, ok1]
        show evS G _ xIsWord [some (.str z), none] h = _
        unfold xIsWord
        refine seq_nx (s1 := [some (.str z), none]) (h1 := h) ?_ (seq_rt (ret_of ?_))
        · have l1 : cmpop G (oc G n) .LtE (.int 1) (.int z.length) h = some (.ok (.bl true) h) := by simp [cmpop, ok1, q1]
          have l2 : cmpop G (oc G n) .LtE (.int z.length) (.int 8) h = some (.ok (.bl true) h) := by simp [cmpop, ok1, q2]
          simp [-List.append_assoc, evS, evE, evEs, evT, evI, Rb, Sb, sthen, ok1, truth, c1, c2, l1, l2, hin, q3]
        · have lcr := lc_pure (h := h) (e := evE G (oc G n) (.cmp .In (.var 1) (.cst (.str "abcdefghijklmnopqrstuvwxyz")))) (cd := evT G (oc G n) .yes) (s := [some (.str z), none]) (tg := [1]) (kp := keeps G ⟨z.cps.toList.map fun c => [.str ⟨#[c]⟩], none, [], false, false⟩) (it := fun c : Nat => [.str ⟨#[c]⟩]) (g := fun _ => true) (f := fun c => .bl (letter c)) (fun _ => rfl)
            (fun c acc => ⟨[some (.str z), some (.str ⟨#[c]⟩)], rfl, rfl, fun _ => rfl⟩) z.cps.toList [] (by simp only [List.length_nil, Nat.zero_add]; exact hz2)
          have l1 : evE G (oc G n) (.lc (.cmp .In (.var 1) (.cst (.str "abcdefghijklmnopqrstuvwxyz"))) [1] [1] (.val (.var 0)) .yes) [some (.str z), none] h = some (.ok (.ref h.length) (h ++ [.lst (z.cps.toList.map fun c => .bl (letter c))])) := by
            simp only [filter_true, List.nil_append] at lcr
            exact lcr
          show Rb (Rb (evE G _ (.lc _ _ _ _ _) _ h) _) _ = _
          rw [l1]
          show callb G .all [.ref h.length] (h ++ [.lst _]) = _
          show (match (h ++ [Ho.lst (z.cps.toList.map fun c => Vv.bl (letter c))])[h.length]? with | some (.lst xs) => (bools xs).bind fun bs => ok1 (.bl (bs.all id)) (h ++ [Ho.lst (z.cps.toList.map fun c => Vv.bl (letter c))]) | _ => none) = _
          rw [get_new]
          show (bools _).bind _ = _
          rw [bools_map]
          simp [ok1, List.all_map]
    · refine ⟨[], run_ev D.word hn rfl rfl (r := some (.rt (.bl false) h)) ?_ (by simp [retR, isW, q2])⟩
      simp [-List.append_assoc, evS, evE, evEs, evT, evI, Rb, Sb, sthen, ok1, truth, xIsWord, callb, e1, hz2, cmpop, q1, q2]
  · refine ⟨[], run_ev D.word hn rfl rfl (r := some (.rt (.bl false) h)) ?_ (by simp [retR, isW, q1])⟩
    simp [-List.append_assoc, evS, evE, evEs, evT, evI, Rb, Sb, sthen, ok1, truth, xIsWord, callb, e1, hz2, cmpop, q1]
theorem wword_ok (D : WrdW G) (hn : 2 ≤ n) (t : tyv G h v = some (.ty T)) (hz : ∀ z, v = .str z → z.length ≤ 1000000) : ∃ g, run G n "is_word" [v] h = some (.ok (.bl (isWV v)) (h ++ g)) := by
  have nos : ∀ u, v = u → (∀ z, u ≠ .str z) → T ≠ "str" → isWV v = false → ∃ g, run G n "is_word" [v] h = some (.ok (.bl (isWV v)) (h ++ g)) := fun u _ _ q e => ⟨[], by rw [e, List.append_nil]; exact wword_no D hn t q⟩
  cases v with
  | str z => exact wword_str D hn (hz z rfl)
  | non => cases t; exact nos _ rfl nofun (by decide) rfl
  | bl b => cases t; exact nos _ rfl nofun (by decide) rfl
  | int b => cases t; exact nos _ rfl nofun (by decide) rfl
  | ref i =>
    refine nos _ rfl nofun ?_ rfl
    rcases ty_ref t with e | e | e <;> subst e <;> decide
  | con i =>
    refine nos _ rfl nofun ?_ rfl
    rcases ty_con t with e | e | e <;> subst e <;> decide
  | _ => cases t
theorem word_no (D : Wrd G) (hn : 2 ≤ n) (t : tyv G h v = some (.ty T)) (q : T ≠ "str") : run G n "is_word" [v] h = some (.ok (.bl false) h) := wword_no D.toWrdW hn t q
theorem word_str (D : Wrd G) (hn : 2 ≤ n) {z : Str} (hz : z.length ≤ 1000000) : ∃ g, run G n "is_word" [.str z] h = some (.ok (.bl (isW z)) (h ++ g)) := wword_str D.toWrdW hn hz
theorem word_ok (D : Wrd G) (hn : 2 ≤ n) (t : tyv G h v = some (.ty T)) (hz : ∀ z, v = .str z → z.length ≤ 1000000) : ∃ g, run G n "is_word" [v] h = some (.ok (.bl (isWV v)) (h ++ g)) := wword_ok D.toWrdW hn t hz
/-- None, or an integer from 0 to size - 1 -/
def isValV (size : Int) : Vv → Bool
  | .non => true
  | .int i => decide (0 ≤ i) && decide (i < size)
  | _ => false
theorem val_ok (D : Wrd G) (hn : 4 ≤ n) (t : tyv G h v = some (.ty T)) {size : Int} : run G n "is_value" [v, .int size] h = some (.ok (.bl (isValV size v)) h) := by
  refine run_ev D.val (by omega) rfl rfl (r := some (.rt (.bl (isValV size v)) h)) ?_ rfl
  have hi := isint_ok D (n := n - 1) (by omega) t
  have no : T ≠ "int" → v ≠ .non → isValV size v = false → evS G (oc G n) xIsVal [some v, some (.int size)] h = some (.rt (.bl (isValV size v)) h) := fun q q2 q3 => by
    have q' : (T == "int") = false := by simpa using q
    rw [q3]
    simp [-List.append_assoc, evS, evE, evEs, evT, evI, Rb, Sb, sthen, ok1, truth, xIsVal, cmpop, orc_call, call_of D.int, hi, q', q2]
  cases v with
  | non => simp [-List.append_assoc, evS, evE, evEs, evT, evI, Rb, Sb, sthen, ok1, truth, xIsVal, cmpop, isValV]
  | int i =>
    cases t
    by_cases q : 0 ≤ i
    · simp [-List.append_assoc, evS, evE, evEs, evT, evI, Rb, Sb, sthen, ok1, truth, xIsVal, cmpop, isValV, orc_call, call_of D.int, hi, q]
    · simp [-List.append_assoc, evS, evE, evEs, evT, evI, Rb, Sb, sthen, ok1, truth, xIsVal, cmpop, isValV, orc_call, call_of D.int, hi, q]
  | str z => cases t; exact no (by decide) nofun rfl
  | bl z => cases t; exact no (by decide) nofun rfl
  | ref i =>
    refine no ?_ nofun rfl
    rcases ty_ref t with e | e | e <;> subst e <;> decide
  | con i =>
    refine no ?_ nofun rfl
    rcases ty_con t with e | e | e <;> subst e <;> decide
  | _ => cases t
end
end Pl

set_option linter.all false
set_option autoImplicit false
set_option maxRecDepth 100000
set_option maxHeartbeats 1000000
namespace Pl
open PySem Dv
def xDigit : St := (.seq (.ret (.and (.bf .isinst (.cons (.var 0) (.cons (.cst (.ty "str")) .nil))) (.and (.cmp .Eq (.bf .len (.cons (.var 0) .nil)) (.cst (.int 1))) (.cmp .In (.var 0) (.cst (.str "0123456789")))))) .skip)
def xParse : St := (.seq (.ifs (.not (.val (.bf .isinst (.cons (.var 0) (.cons (.cst (.ty "str")) .nil))))) (.seq (.rais "BadCondition" (.cons (.cst (.int 0)) .nil)) .skip) .skip) (.seq (.asg (.one 2) (.mk "Reader" (.cons (.bm (.var 0) .split (.cons (.cst (.str " ")) .nil)) (.cons (.var 1) .nil)))) (.seq (.asg (.one 3) (.meth (.var 2) "either" .nil)) (.seq (.ifs (.val (.cmp .IsNot (.meth (.var 2) "here" .nil) (.cst .non))) (.seq (.rais "BadCondition" (.cons (.attr (.var 2) "place") .nil)) .skip) .skip) (.seq (.ret (.var 3)) .skip)))))
def xReadC : St := (.seq (.ret (.mk "Condition" (.cons (.var 0) (.cons (.call "parse" (.cons (.var 0) (.cons (.cst (.bl false)) .nil))) .nil)))) .skip)
def xRIni : St := (.seq (.fld (.var 0) "words" (.var 1)) (.seq (.fld (.var 0) "is_wide" (.var 2)) (.seq (.fld (.var 0) "place" (.cst (.int 0))) .skip)))
def xHere : St := (.seq (.ret (.ite (.val (.cmp .Lt (.attr (.var 0) "place") (.bf .len (.cons (.attr (.var 0) "words") .nil)))) (.idx (.attr (.var 0) "words") (.attr (.var 0) "place")) (.cst .non))) .skip)
def xTakeR : St := (.seq (.asg (.one 2) (.meth (.var 0) "here" .nil)) (.seq (.ifs (.or (.val (.cmp .Is (.var 2) (.cst .non))) (.or (.val (.cmp .GtE (.attr (.var 0) "place") (.cst (.int 60)))) (.not (.val (.cv 1 (.cons (.var 2) .nil)))))) (.seq (.rais "BadCondition" (.cons (.attr (.var 0) "place") .nil)) .skip) .skip) (.seq (.augf (.var 0) "place" .Add (.cst (.int 1))) (.seq (.ret (.var 2)) .skip))))
def xSkip : St := (.seq (.ifs (.val (.cmp .NotEq (.meth (.var 0) "here" .nil) (.var 1))) (.seq (.ret (.cst (.bl false))) .skip) .skip) (.seq (.expr (.meth (.var 0) "take" (.cons (.lam ["one"] (.cst (.bl true))) .nil))) (.seq (.ret (.cst (.bl true))) .skip)))
def xEither : St := (.seq (.asg (.one 1) (.meth (.var 0) "both" .nil)) (.seq (.whl (.val (.meth (.var 0) "skip" (.cons (.cst (.str "or")) .nil))) (.seq (.asg (.one 1) (.tup (.cons (.cst (.str "or")) (.cons (.var 1) (.cons (.meth (.var 0) "both" .nil) .nil))))) .skip)) (.seq (.ret (.var 1)) .skip)))
def xBoth : St := (.seq (.asg (.one 1) (.meth (.var 0) "single" .nil)) (.seq (.whl (.val (.meth (.var 0) "skip" (.cons (.cst (.str "and")) .nil))) (.seq (.asg (.one 1) (.tup (.cons (.cst (.str "and")) (.cons (.var 1) (.cons (.meth (.var 0) "single" .nil) .nil))))) .skip)) (.seq (.ret (.var 1)) .skip)))
def xSingle : St := (.seq (.ifs (.val (.meth (.var 0) "skip" (.cons (.cst (.str "not")) .nil))) (.seq (.ret (.tup (.cons (.cst (.str "not")) (.cons (.meth (.var 0) "single" .nil) .nil)))) .skip) .skip) (.seq (.ifs (.val (.meth (.var 0) "skip" (.cons (.cst (.str "(")) .nil))) (.seq (.asg (.one 1) (.meth (.var 0) "either" .nil)) (.seq (.expr (.meth (.var 0) "take" (.cons (.lam ["word"] (.cmp .Eq (.var 0) (.cst (.str ")")))) .nil))) (.seq (.ret (.var 1)) .skip))) .skip) (.seq (.ifs (.and (.val (.attr (.var 0) "is_wide")) (.val (.meth (.var 0) "skip" (.cons (.cst (.str "was")) .nil)))) (.seq (.ret (.meth (.var 0) "compared" (.cons (.meth (.var 0) "take" (.cons (.cst (.fn "is_word")) .nil)) (.cons (.cst (.str "was")) (.cons (.cst (.str "was equal")) (.cons (.cst (.str "was less")) .nil)))))) .skip) .skip) (.seq (.ifs (.and (.val (.attr (.var 0) "is_wide")) (.val (.meth (.var 0) "skip" (.cons (.cst (.str "has")) .nil)))) (.seq (.ret (.meth (.var 0) "had" (.cons (.meth (.var 0) "take" (.cons (.cst (.fn "is_word")) .nil)) .nil))) .skip) .skip) (.seq (.ret (.meth (.var 0) "compared" (.cons (.meth (.var 0) "take" (.cons (.cst (.fn "is_word")) .nil)) (.cons (.cst (.str "name")) (.cons (.cst (.str "equal")) (.cons (.cst (.str "less")) .nil)))))) .skip)))))
def xCmpd : St := (.seq (.ifs (.val (.meth (.var 0) "skip" (.cons (.cst (.str "=")) .nil))) (.seq (.ret (.tup (.cons (.var 3) (.cons (.var 1) (.cons (.bf .int (.cons (.meth (.var 0) "take" (.cons (.cst (.fn "is_digit")) .nil)) .nil)) .nil))))) .skip) .skip) (.seq (.ifs (.val (.meth (.var 0) "skip" (.cons (.cst (.str "<")) .nil))) (.seq (.ret (.tup (.cons (.var 4) (.cons (.var 1) (.cons (.bf .int (.cons (.meth (.var 0) "take" (.cons (.cst (.fn "is_digit")) .nil)) .nil)) .nil))))) .skip) .skip) (.seq (.ret (.tup (.cons (.var 2) (.cons (.var 1) .nil)))) .skip)))
def xCIni : St := (.seq (.fld (.var 0) "own_text" (.var 1)) (.seq (.fld (.var 0) "own_tree" (.var 2)) .skip))
def xCStr : St := (.seq (.ret (.bf .str (.cons (.attr (.var 0) "own_text") .nil))) .skip)
def xCEq : St := (.seq (.ret (.and (.bf .isinst (.cons (.var 1) (.cons (.cst (.cls "Condition")) .nil))) (.cmp .Eq (.attr (.var 0) "own_text") (.attr (.var 1) "own_text")))) .skip)
/-- a reader's fields -/
abbrev rf (wl p : Nat) : List (Str × Vv) := [("words", .ref wl), ("is_wide", .bl false), ("place", .int p)]
structure Rdr (G : Tx) : Prop where
  wrd : WrdW G
  digit : G.fns "is_digit" = some ⟨1, 1, xDigit, []⟩
  parse : G.fns "parse" = some ⟨2, 4, xParse, []⟩
  readC : G.fns "read_condition" = some ⟨1, 1, xReadC, []⟩
  ini : G.fns "Reader.__init__" = some ⟨3, 3, xRIni, []⟩
  here : G.fns "Reader.here" = some ⟨1, 1, xHere, []⟩
  take : G.fns "Reader.take" = some ⟨2, 3, xTakeR, []⟩
  skip : G.fns "Reader.skip" = some ⟨2, 3, xSkip, []⟩
  either : G.fns "Reader.either" = some ⟨1, 2, xEither, []⟩
  both : G.fns "Reader.both" = some ⟨1, 2, xBoth, []⟩
  single : G.fns "Reader.single" = some ⟨1, 3, xSingle, []⟩
  cmpd : G.fns "Reader.compared" = some ⟨5, 5, xCmpd, []⟩
  mIni : methOf G "Reader" "__init__" = some "Reader.__init__"
  mHere : methOf G "Reader" "here" = some "Reader.here"
  mTake : methOf G "Reader" "take" = some "Reader.take"
  mSkip : methOf G "Reader" "skip" = some "Reader.skip"
  mEither : methOf G "Reader" "either" = some "Reader.either"
  mBoth : methOf G "Reader" "both" = some "Reader.both"
  mSingle : methOf G "Reader" "single" = some "Reader.single"
  mCmpd : methOf G "Reader" "compared" = some "Reader.compared"
  fW : fldOf G "Reader" "words" = true
  fI : fldOf G "Reader" "is_wide" = true
  fP : fldOf G "Reader" "place" = true
  err : (G.cls "BadCondition").bind (·.exc) = some (["place"] : List Str)
  cIni : G.fns "Condition.__init__" = some ⟨3, 3, xCIni, []⟩
  cStr : G.fns "Condition.__str__" = some ⟨1, 1, xCStr, []⟩
  cEq : G.fns "Condition.__eq__" = some ⟨2, 2, xCEq, []⟩
  mcIni : methOf G "Condition" "__init__" = some "Condition.__init__"
  mcStr : methOf G "Condition" "__str__" = some "Condition.__str__"
  mcEq : methOf G "Condition" "__eq__" = some "Condition.__eq__"
  fT : fldOf G "Condition" "own_text" = true
  fTr : fldOf G "Condition" "own_tree" = true
/-- a reader at r, of the words ws that lie at wl, at the place p -/
structure Rd (h : VH) (r wl : Nat) (ws : List Str) (p : Nat) : Prop where
  at_ : h[r]? = some (.ins "Reader" (rf wl p))
  wsA : h[wl]? = some (.lst (ws.map .str))
  ne : wl ≠ r
  ok : ∀ w ∈ ws, SeqAt.shaped (.str w) = true ∧ w.length ≤ 1000
theorem Rd.keep {h h' : VH} {r wl p : Nat} {ws : List Str} (d : Rd h r wl ws p) (l : HLe h h') : Rd h' r wl ws p := ⟨l _ _ d.at_, l _ _ d.wsA, d.ne, d.ok⟩
def bc (p : Nat) : Xv := ⟨"BadCondition", [("place", .int p)]⟩
/-- the heap with the reader moved -/
def mv (h : VH) (r wl p : Nat) : VH := h.set r (.ins "Reader" (rf wl p))
theorem Rd.mv {h : VH} {r wl p : Nat} {ws : List Str} (d : Rd h r wl ws p) (q : Nat) : Rd (mv h r wl q) r wl ws q :=
  ⟨by have := lt_of_get d.at_; simp [Pl.mv, this], by rw [Pl.mv, List.getElem?_set_ne (Ne.symm d.ne)]; exact d.wsA, d.ne, d.ok⟩
def isDig (z : Str) : Bool := decide ((z.length : Int) = 1) && hasS "0123456789" z
section
variable {G : Tx} {n : Nat} {h : VH} {r wl p : Nat} {ws : List Str} {o : Orc}
theorem gPlace (D : Rdr G) (d : Rd h r wl ws p) : getattr G o (.ref r) "place" h = some (.ok (.int p) h) := by
  have : (rf wl p).lookup ("place" : Str) = some (.int p) := rfl
  simp [getattr, obj, d.at_, D.fP, this, ok1]
theorem gWords (D : Rdr G) (d : Rd h r wl ws p) : getattr G o (.ref r) "words" h = some (.ok (.ref wl) h) := by
  have : (rf wl p).lookup ("words" : Str) = some (.ref wl) := rfl
  simp [getattr, obj, d.at_, D.fW, this, ok1]
theorem gWide (D : Rdr G) (d : Rd h r wl ws p) : getattr G o (.ref r) "is_wide" h = some (.ok (.bl false) h) := by
  have : (rf wl p).lookup ("is_wide" : Str) = some (.bl false) := rfl
  simp [getattr, obj, d.at_, D.fI, this, ok1]
def hereV (ws : List Str) (p : Nat) : Vv := match ws[p]? with
  | some w => .str w
  | none => .non
theorem here_ok (D : Rdr G) (hn : 2 ≤ n) (d : Rd h r wl ws p) : run G n "Reader.here" [.ref r] h = some (.ok (hereV ws p) h) := by
  refine run_ev D.here hn rfl rfl (s := [some (.ref r)]) (r := some (.rt (hereV ws p) h)) ?_ rfl
  have hs : seqOf G h (.ref wl) = some (ws.map .str) := by simp [seqOf, obj, d.wsA]
  by_cases q : p < ws.length
  · have e : hereV ws p = .str ws[p] := by simp [hereV, q]
    have pl : place ws.length (p : Int) = some p := by simp [place, q]
    rw [e]
    simp [-List.append_assoc, evS, evE, evEs, evT, evI, Rb, Sb, sthen, ok1, truth, xHere, gPlace D d, gWords D d, callb, hs, cmpop, q, index, pl]
  · have e : hereV ws p = .non := by simp [hereV, q]
    rw [e]
    simp [-List.append_assoc, evS, evE, evEs, evT, evI, Rb, Sb, sthen, ok1, truth, xHere, gPlace D d, gWords D d, callb, hs, cmpop, q]
/-- a method of the reader, called -/
theorem meth_ok {m k : Str} {es : Exs} {s : Sl} {a : Ex} {vs : List Vv} {fi : Fn} {h2 : VH} (hm : methOf G "Reader" m = some k) (hm2 : (rf wl p).lookup m = none) (hf : G.fns k = some fi) (hk : fi.kw = []) (d : Rd h r wl ws p)
    (ha : evE G (oc G n) a s h = some (.ok (.ref r) h)) (he : evEs G (oc G n) es s h = some (.ok vs h2)) : evE G (oc G n) (.meth a m es) s h = run G (n - 1) k (.ref r :: vs) h2 := by
  simp only [evE, ha, Rb_ok, obj, d.at_, hm, hm2, he, orc_call, call_of hf hk]
theorem take_no (D : Rdr G) (hn : 4 ≤ n) (d : Rd h r wl ws p) {v : Vv} (q : ws.length ≤ p ∨ 60 ≤ p) : run G n "Reader.take" [.ref r, v] h = some (.ex (bc p) h) := by
  refine run_ev D.take (by omega) rfl rfl (s := [some (.ref r), some v, none]) (r := some (.ex (bc p) [some (.ref r), some v, some (hereV ws p)] h)) ?_ rfl
  have m1 : evE G (oc G n) (.meth (.var 0) "here" .nil) [some (.ref r), some v, none] h = some (.ok (hereV ws p) h) := by
    rw [meth_ok D.mHere rfl D.here rfl d rfl rfl]; exact here_ok D (by omega) d
  refine seq_nx (asg_of m1) (seq_ex (ifs_t (h1 := h) ?_ (seq_ex ?_)))
  · by_cases q1 : ws.length ≤ p
    · have e : hereV ws p = .non := by simp [hereV, q1]
      simp [-List.append_assoc, evS, evE, evEs, evT, evI, Rb, Sb, sthen, ok1, truth, e, cmpop]
    · have e : hereV ws p = .str ws[p] := by simp [hereV, Nat.lt_of_not_le q1]
      have q2 : (60 : Int) ≤ p := by omega
      simp [-List.append_assoc, evS, evE, evEs, evT, evI, Rb, Sb, sthen, ok1, truth, e, cmpop, gPlace D d, q2]
  · simp only [evS, evEs, evE, Rb_ok, Sb_ok, List.set, List.getElem?_cons_zero, gPlace D d, D.err]
    rfl
/-- the word that comes next, asked -/
theorem take_yes (D : Rdr G) (hn : 4 ≤ n) (d : Rd h r wl ws p) {v : Vv} {w : Str} {b : Bool} {h1 : VH} (q : ws[p]? = some w) (q2 : p < 60) (hc : evE G (oc G n) (.cv 1 (.cons (.var 2) .nil)) [some (.ref r), some v, some (.str w)] h = some (.ok (.bl b) h1)) (l : HLe h h1) :
    run G n "Reader.take" [.ref r, v] h = if b then some (.ok (.str w) (mv h1 r wl (p + 1))) else some (.ex (bc p) h1) := by
  have d1 := d.keep l
  have e : hereV ws p = .str w := by simp [hereV, q]
  have m1 : evE G (oc G n) (.meth (.var 0) "here" .nil) [some (.ref r), some v, none] h = some (.ok (.str w) h) := by
    rw [meth_ok D.mHere rfl D.here rfl d rfl rfl, ← e]; exact here_ok D (by omega) d
  have q3 : ¬ (60 : Int) ≤ p := by omega
  have c1 : evT G (oc G n) (.or (.val (.cmp .Is (.var 2) (.cst .non))) (.or (.val (.cmp .GtE (.attr (.var 0) "place") (.cst (.int 60)))) (.not (.val (.cv 1 (.cons (.var 2) .nil)))))) [some (.ref r), some v, some (.str w)] h = some (.ok (!b) h1) := by
    have t : evT G (oc G n) (.not (.val (.cv 1 (.cons (.var 2) .nil)))) [some (.ref r), some v, some (.str w)] h = some (.ok (!b) h1) := by
      simp only [evT, hc, Rb_ok, truth]
    simp only [evT] at t
    simp [evT, evE, Rb, cmpop, ok1, truth, gPlace D d, q3]
    simp [Rb] at t
    exact t
  cases b with
  | true =>
    refine run_ev D.take (by omega) rfl rfl (s := [some (.ref r), some v, none]) (r := some (.rt (.str w) (mv h1 r wl (p + 1)))) ?_ rfl
    refine seq_nx (asg_of m1) (seq_nx (s1 := [some (.ref r), some v, some (.str w)]) (h1 := h1) (ifs_f c1 rfl) (seq_nx (s1 := [some (.ref r), some v, some (.str w)]) (h1 := mv h1 r wl (p + 1)) ?_ (seq_rt (ret_of rfl))))
    have lk : (rf wl p).lookup ("place" : Str) = some (.int p) := rfl
    simp only [evS, evE, List.getElem?_cons_zero, Sb_ok, d1.at_, D.fP, lk, if_true]
    rfl
  | false =>
    refine run_ev D.take (by omega) rfl rfl (s := [some (.ref r), some v, none]) (r := some (.ex (bc p) [some (.ref r), some v, some (.str w)] h1)) ?_ rfl
    refine seq_nx (asg_of m1) (seq_ex (ifs_t c1 (seq_ex ?_)))
    simp only [evS, evEs, evE, Rb_ok, Sb_ok, List.set, List.getElem?_cons_zero, gPlace D d1, D.err]
    rfl
end
end Pl

set_option linter.all false
set_option autoImplicit false
set_option maxRecDepth 100000
set_option maxHeartbeats 1000000
namespace Pl
open PySem Dv
inductive Du where
  | beg | nam | val | fin
  deriving DecidableEq
def acc (u : Du) (d : Nat) : Bool := (u == .nam || u == .fin) && d == 0
def stepF (d : Nat) (w : Str) : Option (Du × Nat) := if w = "and" ∨ w = "or" then some (.beg, d) else if w = ")" ∧ 0 < d then some (.fin, d - 1) else none
def step (u : Du) (d : Nat) (w : Str) : Option (Du × Nat) := match u with
  | .beg => if w = "not" then some (.beg, d) else if w = "(" then some (.beg, d + 1) else if isW w = true then some (.nam, d) else none
  | .nam => if w = "=" ∨ w = "<" then some (.val, d) else stepF d w
  | .val => if isDig w = true then some (.fin, d) else none
  | .fin => stepF d w
/-- the walk over the words from a place on -/
def aut : List Str → Du → Nat → Nat → Int
  | [], u, d, p => if acc u d then (-1 : Int) else p
  | w :: r, u, d, p => if p = 60 then 60 else match step u d w with
    | some (u', d') => aut r u' d' (p + 1)
    | none => p
def au (ws : List Str) (u : Du) (d p : Nat) : Int := aut (ws.drop p) u d p
section
variable {ws : List Str} {u : Du} {d p : Nat} {w : Str}
theorem lt_of_w (q : ws[p]? = some w) : p < ws.length := (List.getElem?_eq_some_iff.mp q).1
theorem drop_w (q : ws[p]? = some w) : ws.drop p = w :: ws.drop (p + 1) := by
  obtain ⟨h, e⟩ := List.getElem?_eq_some_iff.mp q
  rw [List.drop_eq_getElem_cons h, e]
theorem au_end (q : ws.length ≤ p) : au ws u d p = if acc u d then (-1 : Int) else p := by
  unfold au; rw [List.drop_eq_nil_of_le q]; rfl
theorem au_60 (q : ws[60]? = some w) : au ws u d 60 = 60 := by
  unfold au; rw [drop_w q]; rfl
theorem au_step {u' : Du} {d' : Nat} (q : ws[p]? = some w) (hp : p < 60) (hs : step u d w = some (u', d')) : au ws u d p = au ws u' d' (p + 1) := by
  unfold au; rw [drop_w q]
  show (if p = 60 then (60 : Int) else match step u d w with
    | some (u', d') => aut (ws.drop (p + 1)) u' d' (p + 1)
    | none => p) = _
  rw [if_neg (by omega), hs]
theorem au_none (q : ws[p]? = some w) (hp : p < 60) (hs : step u d w = none) : au ws u d p = p := by
  unfold au; rw [drop_w q]
  show (if p = 60 then (60 : Int) else match step u d w with
    | some (u', d') => aut (ws.drop (p + 1)) u' d' (p + 1)
    | none => p) = _
  rw [if_neg (by omega), hs]
theorem w_or : (∃ w, ws[p]? = some w) ∨ ws.length ≤ p := by
  by_cases q : p < ws.length
  · exact .inl ⟨ws[p], by simp [q]⟩
  · exact .inr (by omega)
theorem au_stop (hu : acc u d = false) (hp : p ≤ 60) (hq : ws.length ≤ p ∨ 60 ≤ p ∨ ∃ w, ws[p]? = some w ∧ step u d w = none) : au ws u d p = p := by
  by_cases q : ws.length ≤ p
  · rw [au_end q, hu]; rfl
  · obtain ⟨w, e⟩ := (w_or (ws := ws) (p := p)).resolve_right q
    by_cases q2 : p = 60
    · subst q2; exact au_60 e
    · rcases hq with h | h | ⟨w', e', hs⟩
      · exact absurd h q
      · omega
      · exact au_none e' (by omega) hs
theorem au_norm (hp : p ≤ 60) (q : ws[p]? ≠ some ("=" : Str)) (q2 : ws[p]? ≠ some ("<" : Str)) : au ws .nam d p = au ws .fin d p := by
  rcases w_or (ws := ws) (p := p) with ⟨w, e⟩ | e
  · by_cases q3 : p = 60
    · subst q3; rw [au_60 e, au_60 e]
    · have h1 : w ≠ "=" := fun z => q (z ▸ e)
      have h2 : w ≠ "<" := fun z => q2 (z ▸ e)
      have hs : step .nam d w = step .fin d w := by simp [step, h1, h2]
      cases k : step .fin d w with
      | none => rw [au_none e (by omega) k, au_none e (by omega) (hs.trans k)]
      | some x => obtain ⟨u', d'⟩ := x; rw [au_step e (by omega) k, au_step e (by omega) (hs.trans k)]
  · rw [au_end e, au_end e]; rfl
end
section
variable {G : Tx} {n : Nat} {h : VH} {r wl p : Nat} {ws : List Str} {o : Orc}
theorem eqd_str {v u : Vv} {d e : PyData} (h1 : dat G h 8 v = some d) (h2 : dat G h 8 u = some e) (h3 : SeqAt.shaped d = true) (h4 : SeqAt.shaped e = true) : eqd G h v u = some (PyData.eqv d e) := by
  unfold eqd; rw [h1, h2]; simp only [h3, h4]; rfl
theorem ne_here {w : Str} (hs : SeqAt.shaped (.str w) = true) (ok : ∀ w ∈ ws, SeqAt.shaped (.str w) = true ∧ w.length ≤ 1000) : cmpop G o .NotEq (hereV ws p) (.str w) h = some (.ok (.bl (!decide (ws[p]? = some w))) h) := by
  unfold hereV
  cases e : ws[p]? with
  | none =>
    have e1 : eqd G h .non (.str w) = some false := eqd_str (v := .non) (d := .none) rfl rfl rfl hs
    simp [cmpop, e1, ok1]
  | some z =>
    have e1 : eqd G h (.str z) (.str w) = some (z == w) := eqd_str (v := .str z) (d := .str z) rfl rfl (ok z (List.mem_of_getElem? e)).1 hs
    by_cases q : z = w
    · subst q; simp [cmpop, e1, ok1]
    · simp [cmpop, e1, ok1, q]
theorem cv_lam {l : Lf} {a : Option Vv} {j : Nat} {w : Vv} (hn : 3 ≤ n) (hj : h[j]? = some (.lam l)) : evE G (oc G n) (.cv 1 (.cons (.var 2) .nil)) [a, some (.ref j), some w] h = lamF G (oc G (n - 1)) l [w] h := by
  rw [← lrun_of (n := n - 1) (by omega)]
  simp [evE, evEs, Rb, hj, orc_callL]
theorem skip_ok (D : Rdr G) (hn : 8 ≤ n) (d : Rd h r wl ws p) (w : Str) (hs : SeqAt.shaped (.str w) = true) :
    (ws[p]? ≠ some w ∧ run G n "Reader.skip" [.ref r, .str w] h = some (.ok (.bl false) h)) ∨
    (ws[p]? = some w ∧ p < 60 ∧ ∃ h', run G n "Reader.skip" [.ref r, .str w] h = some (.ok (.bl true) h') ∧ Rd h' r wl ws (p + 1) ∧ HLx r h h') ∨
    (ws[p]? = some w ∧ 60 ≤ p ∧ ∃ h', run G n "Reader.skip" [.ref r, .str w] h = some (.ex (bc p) h') ∧ HLx r h h') := by
  have m1 : evE G (oc G n) (.meth (.var 0) "here" .nil) [some (.ref r), some (.str w), none] h = some (.ok (hereV ws p) h) := by
    rw [meth_ok D.mHere rfl D.here rfl d rfl rfl]; exact here_ok D (by omega) d
  have c1 : evT G (oc G n) (.val (.cmp .NotEq (.meth (.var 0) "here" .nil) (.var 1))) [some (.ref r), some (.str w), none] h = some (.ok (!decide (ws[p]? = some w)) h) := by
    have m1' := m1
    simp only [evT, evE] at m1' ⊢
    rw [m1']
    simp [ne_here hs d.ok, truth]
  by_cases q : ws[p]? = some w
  · have d1 : Rd (h ++ [.lam ⟨1, 1, .cst (.bl true)⟩]) r wl ws p := d.keep (HLe.app _ _)
    have m2 : evE G (oc G n) (.meth (.var 0) "take" (.cons (.lam ["one"] (.cst (.bl true))) .nil)) [some (.ref r), some (.str w), none] h = run G (n - 1) "Reader.take" [.ref r, .ref h.length] (h ++ [.lam ⟨1, 1, .cst (.bl true)⟩]) := meth_ok D.mTake rfl D.take rfl d rfl rfl
    have c0 : (!decide (ws[p]? = some w)) = false := by simp [q]
    rw [c0] at c1
    by_cases q2 : p < 60
    · refine .inr (.inl ⟨q, q2, mv (h ++ [.lam ⟨1, 1, .cst (.bl true)⟩]) r wl (p + 1), ?_, d1.mv _, ((HLe.app _ _).x r).trans (HLx.set _ _ _)⟩)
      have t := take_yes D (n := n - 1) (by omega) d1 (v := .ref h.length) (b := true) (h1 := h ++ [.lam ⟨1, 1, .cst (.bl true)⟩]) q q2 (by rw [cv_lam (l := ⟨1, 1, .cst (.bl true)⟩) (w := .str w) (by omega) get_new]; rfl) (HLe.refl _)
      rw [t] at m2
      refine run_ev D.skip (by omega) rfl rfl (s := [some (.ref r), some (.str w), none]) (r := some (.rt (.bl true) (mv (h ++ [.lam ⟨1, 1, .cst (.bl true)⟩]) r wl (p + 1)))) ?_ rfl
      refine seq_nx (s1 := [some (.ref r), some (.str w), none]) (h1 := h) (ifs_f c1 rfl) (seq_nx (s1 := [some (.ref r), some (.str w), none]) (h1 := mv (h ++ [.lam ⟨1, 1, .cst (.bl true)⟩]) r wl (p + 1)) ?_ (seq_rt (ret_of rfl)))
      show Sb (evE _ _ _ _ _) _ _ = _
      rw [m2]; rfl
    · refine .inr (.inr ⟨q, by omega, h ++ [.lam ⟨1, 1, .cst (.bl true)⟩], ?_, (HLe.app _ _).x r⟩)
      have t := take_no D (n := n - 1) (by omega) d1 (v := .ref h.length) (.inr (by omega))
      rw [t] at m2
      refine run_ev D.skip (by omega) rfl rfl (s := [some (.ref r), some (.str w), none]) (r := some (.ex (bc p) [some (.ref r), some (.str w), none] (h ++ [.lam ⟨1, 1, .cst (.bl true)⟩]))) ?_ rfl
      refine seq_nx (s1 := [some (.ref r), some (.str w), none]) (h1 := h) (ifs_f c1 rfl) (seq_ex ?_)
      show Sb (evE _ _ _ _ _) _ _ = _
      rw [m2]; rfl
  · refine .inl ⟨q, ?_⟩
    have c0 : (!decide (ws[p]? = some w)) = true := by simp [q]
    rw [c0] at c1
    refine run_ev D.skip (by omega) rfl rfl (s := [some (.ref r), some (.str w), none]) (r := some (.rt (.bl false) h)) ?_ rfl
    exact seq_rt (ifs_t c1 (seq_rt (ret_of rfl)))
/-- a take: the word is right, or none is due here -/
theorem take_res (D : Rdr G) (hn : 4 ≤ n) (d : Rd h r wl ws p) {v : Vv} {f : Str → Bool} (hc : ∀ w, ws[p]? = some w → p < 60 → ∃ h1, evE G (oc G n) (.cv 1 (.cons (.var 2) .nil)) [some (.ref r), some v, some (.str w)] h = some (.ok (.bl (f w)) h1) ∧ HLe h h1) :
    (∃ w h', ws[p]? = some w ∧ p < 60 ∧ f w = true ∧ run G n "Reader.take" [.ref r, v] h = some (.ok (.str w) h') ∧ Rd h' r wl ws (p + 1) ∧ HLx r h h') ∨
    (∃ h', run G n "Reader.take" [.ref r, v] h = some (.ex (bc p) h') ∧ HLx r h h' ∧ (ws.length ≤ p ∨ 60 ≤ p ∨ ∃ w, ws[p]? = some w ∧ f w = false)) := by
  by_cases q : ws.length ≤ p ∨ 60 ≤ p
  · exact .inr ⟨h, take_no D hn d q, (HLe.refl _).x r, q.elim .inl (fun z => .inr (.inl z))⟩
  · obtain ⟨w, e⟩ := (w_or (ws := ws) (p := p)).resolve_right (by omega)
    have q2 : p < 60 := by omega
    obtain ⟨h1, e1, l⟩ := hc w e q2
    have t := take_yes D hn d e q2 e1 l
    cases k : f w with
    | true =>
      rw [k] at t
      exact .inl ⟨w, mv h1 r wl (p + 1), e, q2, k, t, (d.keep l).mv _, (l.x r).trans (HLx.set _ _ _)⟩
    | false =>
      rw [k] at t
      exact .inr ⟨h1, t, l.x r, .inr (.inr ⟨w, e, k⟩)⟩
end
end Pl

set_option linter.all false
set_option autoImplicit false
set_option maxRecDepth 100000
set_option maxHeartbeats 1000000
namespace Pl
open PySem Dv
theorem dig_cases {z : Str} (q : isDig z = true) : ∃ i, PySem.intText? z = some i := by
  unfold isDig at q
  simp only [Bool.and_eq_true, decide_eq_true_eq] at q
  obtain ⟨q1, q2⟩ := q
  obtain ⟨⟨l⟩⟩ := z
  match l, q1, q2 with
  | [], q1, _ => exact absurd q1 (by decide)
  | _ :: _ :: _, q1, _ => simp [Str.length] at q1; omega
  | [c], _, q2 =>
    have e : hasS "0123456789" ⟨#[c]⟩ = decide (c ∈ ("0123456789" : Str).cps.toList) := StrLaws.found_one _ c
    have q3 : hasS "0123456789" ⟨#[c]⟩ = true := q2
    rw [e, decide_eq_true_eq] at q3
    have q4 : c ∈ [48, 49, 50, 51, 52, 53, 54, 55, 56, 57] := q3
    simp only [List.mem_cons, List.not_mem_nil, or_false] at q4
    rcases q4 with h | h | h | h | h | h | h | h | h | h <;> subst h <;> exact Option.isSome_iff_exists.mp (by decide +kernel)
section
variable {G : Tx} {n : Nat} {h : VH} {r wl p : Nat} {ws : List Str} {o : Orc} {s : Sl}
theorem ifs_x {c : Tt} {a b : St} {x : Xv} {h1 : VH} (k1 : evT G o c s h = some (.ex x h1)) : evS G o (.ifs c a b) s h = some (.ex x s h1) := by
  show Sb (evT G o c s h) s _ = _
  rw [k1]; rfl
theorem ret_x {e : Ex} {x : Xv} {h1 : VH} (k1 : evE G o e s h = some (.ex x h1)) : evS G o (.ret e) s h = some (.ex x s h1) := by
  show Sb (evE G o e s h) s _ = _
  rw [k1]; rfl
theorem asg_x {i : Nat} {e : Ex} {x : Xv} {h1 : VH} (k1 : evE G o e s h = some (.ex x h1)) : evS G o (.asg (.one i) e) s h = some (.ex x s h1) := by
  show Sb (evE G o e s h) s _ = _
  rw [k1]; rfl
theorem expr_of {e : Ex} {v : Vv} {h1 : VH} (k1 : evE G o e s h = some (.ok v h1)) : evS G o (.expr e) s h = some (.nx s h1) := by
  show Sb (evE G o e s h) s _ = _
  rw [k1]; rfl
theorem expr_x {e : Ex} {x : Xv} {h1 : VH} (k1 : evE G o e s h = some (.ex x h1)) : evS G o (.expr e) s h = some (.ex x s h1) := by
  show Sb (evE G o e s h) s _ = _
  rw [k1]; rfl
theorem meth_x {m k : Str} {es : Exs} {a : Ex} {x : Xv} {h2 : VH} (hm : methOf G "Reader" m = some k) (hm2 : (rf wl p).lookup m = none) (d : Rd h r wl ws p)
    (ha : evE G (oc G n) a s h = some (.ok (.ref r) h)) (he : evEs G (oc G n) es s h = some (.ex x h2)) : evE G (oc G n) (.meth a m es) s h = some (.ex x h2) := by
  simp only [evE, ha, Rb_ok, obj, d.at_, hm, hm2, he, Rb_ex]
theorem var0 (h0 : s[0]? = some (some (.ref r))) : evE G o (.var 0) s h = some (.ok (.ref r) h) := by
  simp only [evE, h0]
theorem digit_ok (D : Rdr G) (hn : 2 ≤ n) {z : Str} (hz : z.length ≤ 1000) : run G n "is_digit" [.str z] h = some (.ok (.bl (isDig z)) h) := by
  have e1 := isi_ty (G := G) (h := h) (v := .str z) (m := "str") (T := "str") rfl (by decide)
  have hz2 : z.length ≤ sz := Nat.le_trans hz (by decide)
  have c1 : callb G .isinst [.str z, .ty "str"] h = some (.ok (.bl true) h) := by simp [callb, e1, ok1]
  have c2 : callb G .len [.str z] h = some (.ok (.int z.length) h) := by simp [callb, hz2, ok1]
  have c3 : cmpop G (oc G n) .Eq (.int z.length) (.int 1) h = some (.ok (.bl (decide ((z.length : Int) = 1))) h) := by
    have : eqd G h (.int z.length) (.int 1) = some ((z.length : Int) == 1) := eqd_str (d := .int z.length) (e := .int 1) rfl rfl rfl rfl
    simp only [cmpop, this]
    rfl
  have c4 : cmpop G (oc G n) .In (.str z) (.str "0123456789") h = some (.ok (.bl (hasS "0123456789" z)) h) := rfl
  refine run_ev D.digit hn rfl rfl (s := [some (.str z)]) (r := some (.rt (.bl (isDig z)) h)) ?_ rfl
  by_cases q : (z.length : Int) = 1
  · have e : isDig z = hasS "0123456789" z := by simp [isDig, q]
    rw [e]
    simp only [xDigit, evS, evE, evEs, List.getElem?_cons_zero, Rb_ok, c1, truth, c2, c3, decide_eq_true q, c4]
    rfl
  · have e : isDig z = false := by simp [isDig, q]
    rw [e]
    simp only [xDigit, evS, evE, evEs, List.getElem?_cons_zero, Rb_ok, c1, truth, c2, c3, decide_eq_false q]
    rfl
theorem cv_fn {f : Str} {fi : Fn} {a : Option Vv} {w : Vv} (hf : G.fns f = some fi) (hk : fi.kw = []) : evE G (oc G n) (.cv 1 (.cons (.var 2) .nil)) [a, some (.fn f), some w] h = run G (n - 1) f [w] h := by
  simp [evE, evEs, Rb, hf, orc_call, call_of hf hk]
theorem tskip (D : Rdr G) (hn : 9 ≤ n) (d : Rd h r wl ws p) (h0 : s[0]? = some (some (.ref r))) (w : Str) (hs : SeqAt.shaped (.str w) = true) :
    (ws[p]? ≠ some w ∧ evT G (oc G n) (.val (.meth (.var 0) "skip" (.cons (.cst (.str w)) .nil))) s h = some (.ok false h)) ∨
    (ws[p]? = some w ∧ p < 60 ∧ ∃ h', evT G (oc G n) (.val (.meth (.var 0) "skip" (.cons (.cst (.str w)) .nil))) s h = some (.ok true h') ∧ Rd h' r wl ws (p + 1) ∧ HLx r h h') ∨
    (ws[p]? = some w ∧ 60 ≤ p ∧ ∃ h', evT G (oc G n) (.val (.meth (.var 0) "skip" (.cons (.cst (.str w)) .nil))) s h = some (.ex (bc p) h') ∧ HLx r h h') := by
  have m : evE G (oc G n) (.meth (.var 0) "skip" (.cons (.cst (.str w)) .nil)) s h = run G (n - 1) "Reader.skip" [.ref r, .str w] h := meth_ok D.mSkip rfl D.skip rfl d (var0 h0) rfl
  have m2 : ∀ {q}, run G (n - 1) "Reader.skip" [.ref r, .str w] h = q → evT G (oc G n) (.val (.meth (.var 0) "skip" (.cons (.cst (.str w)) .nil))) s h = Rb q fun x h1 => match truth G x h1 with
    | some b => some (.ok b h1)
    | none => none := fun e => by rw [← e, ← m]; rfl
  rcases skip_ok D (n := n - 1) (by omega) d w hs with ⟨a, b⟩ | ⟨a, b, h', e, c1, c2⟩ | ⟨a, b, h', e, c1⟩
  · exact .inl ⟨a, (m2 b).trans rfl⟩
  · exact .inr (.inl ⟨a, b, h', (m2 e).trans rfl, c1, c2⟩)
  · exact .inr (.inr ⟨a, b, h', (m2 e).trans rfl, c1⟩)
theorem etake (D : Rdr G) (hn : 6 ≤ n) (d : Rd h r wl ws p) (s0 : s[0]? = some (some (.ref r))) {ae : Ex} {v : Vv} {h0 : VH} {f : Str → Bool} (ha : evE G (oc G n) ae s h = some (.ok v h0)) (l0 : HLe h h0)
    (hc : ∀ w, ws[p]? = some w → p < 60 → ∃ h1, evE G (oc G (n - 1)) (.cv 1 (.cons (.var 2) .nil)) [some (.ref r), some v, some (.str w)] h0 = some (.ok (.bl (f w)) h1) ∧ HLe h0 h1) :
    (∃ w h', ws[p]? = some w ∧ p < 60 ∧ f w = true ∧ evE G (oc G n) (.meth (.var 0) "take" (.cons ae .nil)) s h = some (.ok (.str w) h') ∧ Rd h' r wl ws (p + 1) ∧ HLx r h h') ∨
    (∃ h', evE G (oc G n) (.meth (.var 0) "take" (.cons ae .nil)) s h = some (.ex (bc p) h') ∧ HLx r h h' ∧ (ws.length ≤ p ∨ 60 ≤ p ∨ ∃ w, ws[p]? = some w ∧ f w = false)) := by
  have m : evE G (oc G n) (.meth (.var 0) "take" (.cons ae .nil)) s h = run G (n - 1) "Reader.take" [.ref r, v] h0 := meth_ok D.mTake rfl D.take rfl d (var0 s0) (by simp only [evEs, ha, Rb_ok])
  rw [m]
  rcases take_res D (n := n - 1) (by omega) (d.keep l0) hc with ⟨w, h', a, b, c, e, d', x⟩ | ⟨h', e, x, t⟩
  · exact .inl ⟨w, h', a, b, c, e, d', (l0.x r).trans x⟩
  · exact .inr ⟨h', e, (l0.x r).trans x, t⟩
theorem etake_word (D : Rdr G) (hn : 8 ≤ n) (d : Rd h r wl ws p) (s0 : s[0]? = some (some (.ref r))) :
    (∃ w h', ws[p]? = some w ∧ p < 60 ∧ isW w = true ∧ evE G (oc G n) (.meth (.var 0) "take" (.cons (.cst (.fn "is_word")) .nil)) s h = some (.ok (.str w) h') ∧ Rd h' r wl ws (p + 1) ∧ HLx r h h') ∨
    (∃ h', evE G (oc G n) (.meth (.var 0) "take" (.cons (.cst (.fn "is_word")) .nil)) s h = some (.ex (bc p) h') ∧ HLx r h h' ∧ (ws.length ≤ p ∨ 60 ≤ p ∨ ∃ w, ws[p]? = some w ∧ isW w = false)) :=
  etake D (by omega) d s0 (v := .fn "is_word") (h0 := h) (f := isW) rfl (HLe.refl _) fun w e _ => by
    obtain ⟨g, k⟩ := wword_str D.wrd (n := n - 1 - 1) (by omega) (h := h) (Nat.le_trans (d.ok w (List.mem_of_getElem? e)).2 (by decide))
    exact ⟨h ++ g, by rw [cv_fn D.wrd.word rfl]; exact k, HLe.app _ _⟩
theorem etake_dig (D : Rdr G) (hn : 8 ≤ n) (d : Rd h r wl ws p) (s0 : s[0]? = some (some (.ref r))) :
    (∃ w h', ws[p]? = some w ∧ p < 60 ∧ isDig w = true ∧ evE G (oc G n) (.meth (.var 0) "take" (.cons (.cst (.fn "is_digit")) .nil)) s h = some (.ok (.str w) h') ∧ Rd h' r wl ws (p + 1) ∧ HLx r h h') ∨
    (∃ h', evE G (oc G n) (.meth (.var 0) "take" (.cons (.cst (.fn "is_digit")) .nil)) s h = some (.ex (bc p) h') ∧ HLx r h h' ∧ (ws.length ≤ p ∨ 60 ≤ p ∨ ∃ w, ws[p]? = some w ∧ isDig w = false)) :=
  etake D (by omega) d s0 (v := .fn "is_digit") (h0 := h) (f := isDig) rfl (HLe.refl _) fun w e _ =>
    ⟨h, by rw [cv_fn D.digit rfl]; exact digit_ok D (by omega) (d.ok w (List.mem_of_getElem? e)).2, HLe.refl _⟩
def lpar : Ex := .lam ["word"] (.cmp .Eq (.var 0) (.cst (.str ")")))
theorem etake_par (D : Rdr G) (hn : 8 ≤ n) (d : Rd h r wl ws p) (s0 : s[0]? = some (some (.ref r))) :
    (∃ w h', ws[p]? = some w ∧ p < 60 ∧ (w == ")") = true ∧ evE G (oc G n) (.meth (.var 0) "take" (.cons lpar .nil)) s h = some (.ok (.str w) h') ∧ Rd h' r wl ws (p + 1) ∧ HLx r h h') ∨
    (∃ h', evE G (oc G n) (.meth (.var 0) "take" (.cons lpar .nil)) s h = some (.ex (bc p) h') ∧ HLx r h h' ∧ (ws.length ≤ p ∨ 60 ≤ p ∨ ∃ w, ws[p]? = some w ∧ (w == ")") = false)) :=
  etake D (by omega) d s0 (v := .ref h.length) (h0 := h ++ [.lam ⟨1, 1, .cmp .Eq (.var 0) (.cst (.str ")"))⟩]) (f := fun w => w == ")") rfl (HLe.app _ _) fun w e _ => by
    refine ⟨_, ?_, HLe.refl _⟩
    rw [cv_lam (l := ⟨1, 1, .cmp .Eq (.var 0) (.cst (.str ")"))⟩) (w := .str w) (by omega) get_new]
    have c : eqd G (h ++ [.lam ⟨1, 1, .cmp .Eq (.var 0) (.cst (.str ")"))⟩]) (.str w) (.str ")") = some (w == ")") := eqd_str (d := .str w) (e := .str ")") rfl rfl (d.ok w (List.mem_of_getElem? e)).1 (by decide +kernel)
    simp only [lamF, evE, List.map, List.length_singleton, if_true, List.nil_append, Nat.sub_self, List.replicate, List.append_nil, List.getElem?_cons_zero, Rb_ok, cmpop, c]
    rfl
/-- what a reading gives -/
def Out (h : VH) (r wl : Nat) (ws : List Str) (p : Nat) (u : Du) (C : Nat → Prop) (q : Option (Re Vv)) : Prop :=
  (∃ v h' p', q = some (.ok v h') ∧ Rd h' r wl ws p' ∧ HLx r h h' ∧ p ≤ p' ∧ p' ≤ 60 ∧ C p' ∧ ∀ d, au ws u d p = au ws .fin d p') ∨
  (∃ q' h', q = some (.ex (bc q') h') ∧ HLx r h h' ∧ ∀ d, au ws u d p = q')
theorem cmpd_ok (D : Rdr G) (hn : 20 ≤ n) (d : Rd h r wl ws p) (hp : p ≤ 60) {nm a1 a2 a3 : Str} : Out h r wl ws p .nam (fun _ => True) (run G n "Reader.compared" [.ref r, .str nm, .str a1, .str a2, .str a3] h) := by
  have s0 : ([some (.ref r), some (.str nm), some (.str a1), some (.str a2), some (.str a3)] : Sl)[0]? = some (some (.ref r)) := rfl
  have R : ∀ {q t}, evS G (oc G n) xCmpd [some (.ref r), some (.str nm), some (.str a1), some (.str a2), some (.str a3)] h = t → retR t = q → run G n "Reader.compared" [.ref r, .str nm, .str a1, .str a2, .str a3] h = q := fun e1 e2 => run_ev D.cmpd (by omega) rfl rfl e1 e2
  -- behind a sign: a digit
  have dg : ∀ {w : Str} {h1 : VH} {i : Nat} {st : Str} , ([some (.ref r), some (.str nm), some (.str a1), some (.str a2), some (.str a3)] : Sl)[i]? = some (some (.str st)) → ws[p]? = some w → p < 60 → (w = "=" ∨ w = "<") → Rd h1 r wl ws (p + 1) → HLx r h h1 →
      (∃ v h2, evE G (oc G n) (.tup (.cons (.var i) (.cons (.var 1) (.cons (.bf .int (.cons (.meth (.var 0) "take" (.cons (.cst (.fn "is_digit")) .nil)) .nil)) .nil)))) [some (.ref r), some (.str nm), some (.str a1), some (.str a2), some (.str a3)] h1 = some (.ok v h2) ∧ Rd h2 r wl ws (p + 2) ∧ HLx r h h2 ∧ p + 2 ≤ 60 ∧ ∀ dd, au ws .nam dd p = au ws .fin dd (p + 2)) ∨
      (∃ h2, evE G (oc G n) (.tup (.cons (.var i) (.cons (.var 1) (.cons (.bf .int (.cons (.meth (.var 0) "take" (.cons (.cst (.fn "is_digit")) .nil)) .nil)) .nil)))) [some (.ref r), some (.str nm), some (.str a1), some (.str a2), some (.str a3)] h1 = some (.ex (bc (p + 1)) h2) ∧ HLx r h h2 ∧ ∀ dd, au ws .nam dd p = ((p + 1 : Nat) : Int)) := by
    intro w h1 i st hi e1 p1 ew d1 l1
    have st1 : ∀ dd, au ws .nam dd p = au ws .val dd (p + 1) := fun dd => au_step e1 p1 (by simp [step, ew])
    rcases etake_dig D (n := n) (by omega) d1 s0 with ⟨z, h2, e2, p2, f2, k, d2, l2⟩ | ⟨h2, k, l2, t⟩
    · obtain ⟨z1, k1⟩ := dig_cases f2
      have zl : z.length ≤ 640 := by
        have := f2
        unfold isDig at this
        simp only [Bool.and_eq_true, decide_eq_true_eq] at this
        omega
      have c1 : callb G .int [.str z] h2 = some (.ok (.int z1) h2) := by simp [callb, k1, zl, ok1]
      refine .inl ⟨.ref h2.length, h2 ++ [.tup [.str st, .str nm, .int z1]], ?_, d2.keep (HLe.app _ _), (l1.trans l2).trans ((HLe.app _ _).x r), by omega, fun dd => ?_⟩
      · simp only [evE, evEs, hi, Rb_ok, List.getElem?_cons_succ, List.getElem?_cons_zero] at k ⊢
        rw [k]
        simp only [Rb_ok, c1]
        rfl
      · rw [st1 dd, au_step e2 p2 (by simp [step, f2]; exact ⟨rfl, rfl⟩)]
    · refine .inr ⟨h2, ?_, l1.trans l2, fun dd => ?_⟩
      · simp only [evE, evEs, hi, Rb_ok, List.getElem?_cons_succ, List.getElem?_cons_zero] at k ⊢
        rw [k]
        rfl
      · rw [st1 dd]
        refine au_stop rfl (by omega) ?_
        rcases t with t | t | ⟨w', t1, t2⟩
        · exact .inl t
        · exact .inr (.inl t)
        · exact .inr (.inr ⟨w', t1, by simp [step, t2]⟩)
  rcases tskip D (n := n) (by omega) d s0 "=" (by decide +kernel) with ⟨a, b⟩ | ⟨a, b, h1, e, d1, l1⟩ | ⟨a, b, h1, e, l1⟩
  · rcases tskip D (n := n) (by omega) d s0 "<" (by decide +kernel) with ⟨a', b'⟩ | ⟨a', b', h1, e', d1, l1⟩ | ⟨a', b', h1, e', l1⟩
    · refine .inl ⟨.ref h.length, h ++ [.tup [.str a1, .str nm]], p, R (seq_nx (ifs_f b rfl) (seq_nx (ifs_f b' rfl) (seq_rt (ret_of rfl)))) rfl, d.keep (HLe.app _ _), (HLe.app _ _).x r, Nat.le_refl _, hp, trivial, fun dd => au_norm hp a a'⟩
    · rcases dg (i := 4) rfl a' b' (.inr rfl) d1 l1 with ⟨v, h2, k, d2, l2, p2, A⟩ | ⟨h2, k, l2, A⟩
      · exact .inl ⟨v, h2, p + 2, R (seq_nx (ifs_f b rfl) (seq_rt (ifs_t e' (seq_rt (ret_of k))))) rfl, d2, l2, by omega, p2, trivial, A⟩
      · exact .inr ⟨p + 1, h2, R (seq_nx (ifs_f b rfl) (seq_ex (ifs_t e' (seq_ex (ret_x k))))) rfl, l2, A⟩
    · have q : p = 60 := by omega
      subst q
      exact .inr ⟨60, h1, R (seq_nx (ifs_f b rfl) (seq_ex (ifs_x e'))) rfl, l1, fun dd => au_60 a'⟩
  · rcases dg (i := 3) rfl a b (.inl rfl) d1 l1 with ⟨v, h2, k, d2, l2, p2, A⟩ | ⟨h2, k, l2, A⟩
    · exact .inl ⟨v, h2, p + 2, R (seq_rt (ifs_t e (seq_rt (ret_of k)))) rfl, d2, l2, by omega, p2, trivial, A⟩
    · exact .inr ⟨p + 1, h2, R (seq_ex (ifs_t e (seq_ex (ret_x k)))) rfl, l2, A⟩
  · have q : p = 60 := by omega
    subst q
    exact .inr ⟨60, h1, R (seq_ex (ifs_x e)) rfl, l1, fun dd => au_60 a⟩
end
end Pl

set_option linter.all false
set_option autoImplicit false
set_option maxRecDepth 100000
set_option maxHeartbeats 1000000
namespace Pl
open PySem Dv
section
variable {G : Tx} {n : Nat} {h : VH} {r wl p : Nat} {ws : List Str} {o : Orc} {s : Sl} {C : Nat → Prop} {m : Str}
/-- a reading by a method, from a place, whatever the heap -/
def At (G : Tx) (r wl : Nat) (ws : List Str) (m : Str) (C : Nat → Prop) (n p : Nat) : Prop := ∀ h, Rd h r wl ws p → Out h r wl ws p .beg C (run G n m [.ref r] h)
theorem single_ok (D : Rdr G) (hn : 22 ≤ n) (hp : p ≤ 60) (A1 : p < 60 → At G r wl ws "Reader.single" (fun _ => True) (n - 1) (p + 1))
    (A2 : p < 60 → At G r wl ws "Reader.either" (fun q => ws[q]? ≠ some ("and" : Str) ∧ ws[q]? ≠ some ("or" : Str)) (n - 1) (p + 1)) : At G r wl ws "Reader.single" (fun _ => True) n p := by
  intro h d
  have s0 : ([some (.ref r), none, none] : Sl)[0]? = some (some (.ref r)) := rfl
  have R : ∀ {q t}, evS G (oc G n) xSingle [some (.ref r), none, none] h = t → retR t = q → run G n "Reader.single" [.ref r] h = q := fun e1 e2 => run_ev D.single (by omega) rfl rfl e1 e2
  rcases tskip D (n := n) (by omega) d s0 "not" (by decide +kernel) with ⟨a, b⟩ | ⟨a, b, h1, e, d1, l1⟩ | ⟨a, b, h1, e, l1⟩
  · rcases tskip D (n := n) (by omega) d s0 "(" (by decide +kernel) with ⟨a', b'⟩ | ⟨a', b', h1, e', d1, l1⟩ | ⟨a', b', h1, e', l1⟩
    · -- a name
      have W : ∀ (w : Str), evT G (oc G n) (.and (.val (.attr (.var 0) "is_wide")) (.val (.meth (.var 0) "skip" (.cons (.cst (.str w)) .nil)))) [some (.ref r), none, none] h = some (.ok false h) := fun w => by
        simp only [evT, evE, List.getElem?_cons_zero, Rb_ok, gWide D d, truth]
      rcases etake_word D (n := n) (by omega) d s0 with ⟨w, h2, e2, p2, f2, k, d2, l2⟩ | ⟨h2, k, l2, t⟩
      · have st1 : ∀ dd, au ws .beg dd p = au ws .nam dd (p + 1) := fun dd => by
          have n1 : w ≠ "not" := fun z => a (z ▸ e2)
          have n2 : w ≠ "(" := fun z => a' (z ▸ e2)
          exact au_step e2 p2 (by simp [step, n1, n2, f2])
        have M : evE G (oc G n) (.meth (.var 0) "compared" (.cons (.meth (.var 0) "take" (.cons (.cst (.fn "is_word")) .nil)) (.cons (.cst (.str "name")) (.cons (.cst (.str "equal")) (.cons (.cst (.str "less")) .nil))))) [some (.ref r), none, none] h = run G (n - 1) "Reader.compared" [.ref r, .str w, .str "name", .str "equal", .str "less"] h2 :=
          meth_ok D.mCmpd rfl D.cmpd rfl d rfl (by
            have k' := k
            simp only [evEs] at k' ⊢
            rw [k']
            rfl)
        rcases cmpd_ok D (n := n - 1) (by omega) d2 (by omega) (nm := w) (a1 := "name") (a2 := "equal") (a3 := "less") with ⟨v, h3, p3, e3, d3, l3, q3, q4, _, A⟩ | ⟨q', h3, e3, l3, A⟩
        · exact .inl ⟨v, h3, p3, R (seq_nx (ifs_f b rfl) (seq_nx (ifs_f b' rfl) (seq_nx (ifs_f (W "was") rfl) (seq_nx (ifs_f (W "has") rfl) (seq_rt (ret_of (M.trans e3))))))) rfl, d3, l2.trans l3, by omega, q4, trivial, fun dd => (st1 dd).trans (A dd)⟩
        · exact .inr ⟨q', h3, R (seq_nx (ifs_f b rfl) (seq_nx (ifs_f b' rfl) (seq_nx (ifs_f (W "was") rfl) (seq_nx (ifs_f (W "has") rfl) (seq_ex (ret_x (M.trans e3))))))) rfl, l2.trans l3, fun dd => (st1 dd).trans (A dd)⟩
      · have M : evE G (oc G n) (.meth (.var 0) "compared" (.cons (.meth (.var 0) "take" (.cons (.cst (.fn "is_word")) .nil)) (.cons (.cst (.str "name")) (.cons (.cst (.str "equal")) (.cons (.cst (.str "less")) .nil))))) [some (.ref r), none, none] h = some (.ex (bc p) h2) :=
          meth_x D.mCmpd rfl d rfl (by
            have k' := k
            simp only [evEs] at k' ⊢
            rw [k']
            rfl)
        refine .inr ⟨p, h2, R (seq_nx (ifs_f b rfl) (seq_nx (ifs_f b' rfl) (seq_nx (ifs_f (W "was") rfl) (seq_nx (ifs_f (W "has") rfl) (seq_ex (ret_x M)))))) rfl, l2, fun dd => au_stop rfl hp ?_⟩
        rcases t with t | t | ⟨w, t1, t2⟩
        · exact .inl t
        · exact .inr (.inl t)
        · have n1 : w ≠ "not" := fun z => a (z ▸ t1)
          have n2 : w ≠ "(" := fun z => a' (z ▸ t1)
          exact .inr (.inr ⟨w, t1, by simp [step, n1, n2, t2]⟩)
    · have st1 : ∀ dd, au ws .beg dd p = au ws .beg (dd + 1) (p + 1) := fun dd => au_step a' b' (by simp [step]; decide)
      have M : evE G (oc G n) (.meth (.var 0) "either" .nil) [some (.ref r), none, none] h1 = run G (n - 1) "Reader.either" [.ref r] h1 := meth_ok D.mEither rfl D.either rfl d1 rfl rfl
      rcases A2 b' h1 d1 with ⟨v, h3, p3, e3, d3, l3, q3, q4, ⟨c1, c2⟩, A⟩ | ⟨q', h3, e3, l3, A⟩
      · rcases etake_par D (n := n) (s := [some (.ref r), some v, none]) (by omega) d3 rfl with ⟨w, h2, e2, p2, f2, k, d2, l2⟩ | ⟨h2, k, l2, t⟩
        · refine .inl ⟨v, h2, p3 + 1, R (seq_nx (ifs_f b rfl) (seq_rt (ifs_t e' (seq_nx (asg_of (M.trans e3)) (seq_nx (expr_of k) (seq_rt (ret_of rfl))))))) rfl, d2, (l1.trans l3).trans l2, by omega, by omega, trivial, fun dd => ?_⟩
          rw [st1, A]
          have e4 : w = ")" := eq_of_beq f2
          subst e4
          exact au_step e2 p2 (by simp [step, stepF]; decide)
        · refine .inr ⟨p3, h2, R (seq_nx (ifs_f b rfl) (seq_ex (ifs_t e' (seq_nx (asg_of (M.trans e3)) (seq_ex (expr_x k)))))) rfl, (l1.trans l3).trans l2, fun dd => ?_⟩
          rw [st1, A]
          refine au_stop (by simp [acc]) q4 ?_
          rcases t with t | t | ⟨w, t1, t2⟩
          · exact .inl t
          · exact .inr (.inl t)
          · have n1 : w ≠ "and" := fun z => c1 (z ▸ t1)
            have n2 : w ≠ "or" := fun z => c2 (z ▸ t1)
            have n3 : w ≠ ")" := fun z => by subst z; exact absurd t2 (by decide +kernel)
            exact .inr (.inr ⟨w, t1, by simp [step, stepF, n1, n2, n3]⟩)
      · exact .inr ⟨q', h3, R (seq_nx (ifs_f b rfl) (seq_ex (ifs_t e' (seq_ex (asg_x (M.trans e3)))))) rfl, l1.trans l3, fun dd => (st1 dd).trans (A _)⟩
    · have q : p = 60 := by omega
      subst q
      exact .inr ⟨60, h1, R (seq_nx (ifs_f b rfl) (seq_ex (ifs_x e'))) rfl, l1, fun dd => au_60 a'⟩
  · have st1 : ∀ dd, au ws .beg dd p = au ws .beg dd (p + 1) := fun dd => au_step a b (by simp [step])
    have M : evE G (oc G n) (.meth (.var 0) "single" .nil) [some (.ref r), none, none] h1 = run G (n - 1) "Reader.single" [.ref r] h1 := meth_ok D.mSingle rfl D.single rfl d1 rfl rfl
    rcases A1 b h1 d1 with ⟨v, h3, p3, e3, d3, l3, q3, q4, _, A⟩ | ⟨q', h3, e3, l3, A⟩
    · have T : evE G (oc G n) (.tup (.cons (.cst (.str "not")) (.cons (.meth (.var 0) "single" .nil) .nil))) [some (.ref r), none, none] h1 = some (.ok (.ref h3.length) (h3 ++ [.tup [.str "not", v]])) := by
        have M' := M.trans e3
        simp only [evE, evEs, Rb_ok] at M' ⊢
        rw [M']
        rfl
      exact .inl ⟨_, _, p3, R (seq_rt (ifs_t e (seq_rt (ret_of T)))) rfl, d3.keep (HLe.app _ _), (l1.trans l3).trans ((HLe.app _ _).x r), by omega, q4, trivial, fun dd => (st1 dd).trans (A dd)⟩
    · have T : evE G (oc G n) (.tup (.cons (.cst (.str "not")) (.cons (.meth (.var 0) "single" .nil) .nil))) [some (.ref r), none, none] h1 = some (.ex (bc q') h3) := by
        have M' := M.trans e3
        simp only [evE, evEs, Rb_ok] at M' ⊢
        rw [M']
        rfl
      exact .inr ⟨q', h3, R (seq_ex (ifs_t e (seq_ex (ret_x T)))) rfl, l1.trans l3, fun dd => (st1 dd).trans (A dd)⟩
  · have q : p = 60 := by omega
    subst q
    exact .inr ⟨60, h1, R (seq_ex (ifs_x e)) rfl, l1, fun dd => au_60 a⟩
/-- single, or both, with a word between -/
def xBetw (m w : Str) : St := (.seq (.asg (.one 1) (.meth (.var 0) m .nil)) (.seq (.whl (.val (.meth (.var 0) "skip" (.cons (.cst (.str w)) .nil))) (.seq (.asg (.one 1) (.tup (.cons (.cst (.str w)) (.cons (.var 1) (.cons (.meth (.var 0) m .nil) .nil))))) .skip)) (.seq (.ret (.var 1)) .skip)))
theorem betw_ok (D : Rdr G) (hn : 22 ≤ n) (hp : p ≤ 60) {f k w : Str} {fi : Fn} (hf : G.fns f = some ⟨1, 2, xBetw m w, []⟩) (hm : methOf G "Reader" m = some k) (hm2 : ∀ wl p, (rf wl p).lookup m = none) (hk : G.fns k = some fi) (hk2 : fi.kw = [])
    (hs : SeqAt.shaped (.str w) = true) (hw : w = "and" ∨ w = "or") (A1 : ∀ q, p ≤ q → q ≤ 60 → At G r wl ws k C (n - 1) q) : At G r wl ws f (fun q => C q ∧ ws[q]? ≠ some w) n p := by
  intro h d
  have M : ∀ {h : VH} {q : Nat} {v : Option Vv}, Rd h r wl ws q → evE G (oc G n) (.meth (.var 0) m .nil) [some (.ref r), v] h = run G (n - 1) k [.ref r] h := fun d => meth_ok hm (hm2 _ _) hk hk2 d rfl rfl
  have L : ∀ (t q : Nat) (v : Vv) (h : VH), Rd h r wl ws q → p ≤ q → q ≤ 60 → C q → 61 - q ≤ t →
      (∃ v' h' p', whlF (evT G (oc G n) (.val (.meth (.var 0) "skip" (.cons (.cst (.str w)) .nil)))) (evS G (oc G n) (.seq (.asg (.one 1) (.tup (.cons (.cst (.str w)) (.cons (.var 1) (.cons (.meth (.var 0) m .nil) .nil))))) .skip)) t [some (.ref r), some v] h = some (.nx [some (.ref r), some v'] h') ∧ Rd h' r wl ws p' ∧ HLx r h h' ∧ q ≤ p' ∧ p' ≤ 60 ∧ (C p' ∧ ws[p']? ≠ some w) ∧ ∀ d, au ws .fin d q = au ws .fin d p') ∨
      (∃ q' h' s', whlF (evT G (oc G n) (.val (.meth (.var 0) "skip" (.cons (.cst (.str w)) .nil)))) (evS G (oc G n) (.seq (.asg (.one 1) (.tup (.cons (.cst (.str w)) (.cons (.var 1) (.cons (.meth (.var 0) m .nil) .nil))))) .skip)) t [some (.ref r), some v] h = some (.ex (bc q') s' h') ∧ HLx r h h' ∧ ∀ d, au ws .fin d q = q') := by
    intro t
    induction t with
    | zero => intro q v h _ _ _ _ ht; omega
    | succ t ih =>
      intro q v h d hpq hq hC ht
      rcases tskip D (n := n) (s := [some (.ref r), some v]) (by omega) d rfl w hs with ⟨a, b⟩ | ⟨a, b, h1, e, d1, l1⟩ | ⟨a, b, h1, e, l1⟩
      · refine .inl ⟨v, h, q, ?_, d, (HLe.refl _).x r, Nat.le_refl _, hq, ⟨hC, a⟩, fun _ => rfl⟩
        rw [whlF, b]; rfl
      · have st1 : ∀ dd, au ws .fin dd q = au ws .beg dd (q + 1) := fun dd => au_step a b (by simp [step, stepF, hw])
        rcases A1 (q + 1) (by omega) (by omega) h1 d1 with ⟨v3, h3, p3, e3, d3, l3, q3, q4, c3, A⟩ | ⟨q', h3, e3, l3, A⟩
        · have T : evS G (oc G n) (.seq (.asg (.one 1) (.tup (.cons (.cst (.str w)) (.cons (.var 1) (.cons (.meth (.var 0) m .nil) .nil))))) .skip) [some (.ref r), some v] h1 = some (.nx [some (.ref r), some (.ref h3.length)] (h3 ++ [.tup [.str w, v, v3]])) := by
            refine seq_nx (asg_of (v := .ref h3.length) ?_) rfl
            have M' := (M (v := some v) d1).trans e3
            simp only [evE, evEs, Rb_ok, List.getElem?_cons_succ, List.getElem?_cons_zero] at M' ⊢
            rw [M']
            rfl
          rcases ih p3 (.ref h3.length) (h3 ++ [.tup [.str w, v, v3]]) (d3.keep (HLe.app _ _)) (by omega) q4 c3 (by omega) with ⟨v', h', p', e4, d4, l4, q5, q6, c4, A'⟩ | ⟨q', h', s', e4, l4, A'⟩
          · refine .inl ⟨v', h', p', ?_, d4, ((l1.trans l3).trans ((HLe.app _ _).x r)).trans l4, by omega, q6, c4, fun dd => by rw [st1, A, A']⟩
            rw [whlF, e, Sb_ok]
            show (match evS G (oc G n) _ [some (.ref r), some v] h1 with
              | some (.nx s2 h2) => _ | some (.ct s2 h2) => _ | some (.bk s2 h2) => _ | x => x) = _
            rw [T]; exact e4
          · refine .inr ⟨q', h', s', ?_, ((l1.trans l3).trans ((HLe.app _ _).x r)).trans l4, fun dd => by rw [st1, A, A']⟩
            rw [whlF, e, Sb_ok]
            show (match evS G (oc G n) _ [some (.ref r), some v] h1 with
              | some (.nx s2 h2) => _ | some (.ct s2 h2) => _ | some (.bk s2 h2) => _ | x => x) = _
            rw [T]; exact e4
        · have T : evS G (oc G n) (.seq (.asg (.one 1) (.tup (.cons (.cst (.str w)) (.cons (.var 1) (.cons (.meth (.var 0) m .nil) .nil))))) .skip) [some (.ref r), some v] h1 = some (.ex (bc q') [some (.ref r), some v] h3) := by
            refine seq_ex (asg_x ?_)
            have M' := (M (v := some v) d1).trans e3
            simp only [evE, evEs, Rb_ok, List.getElem?_cons_succ, List.getElem?_cons_zero] at M' ⊢
            rw [M']
            rfl
          refine .inr ⟨q', h3, [some (.ref r), some v], ?_, l1.trans l3, fun dd => by rw [st1, A]⟩
          rw [whlF, e, Sb_ok]
          show (match evS G (oc G n) _ [some (.ref r), some v] h1 with
            | some (.nx s2 h2) => _ | some (.ct s2 h2) => _ | some (.bk s2 h2) => _ | x => x) = _
          rw [T]
      · have q6 : q = 60 := by omega
        subst q6
        refine .inr ⟨60, h1, [some (.ref r), some v], ?_, l1, fun dd => au_60 a⟩
        rw [whlF, e]; rfl
  have R : ∀ {q t}, evS G (oc G n) (xBetw m w) [some (.ref r), none] h = t → retR t = q → run G n f [.ref r] h = q := fun e1 e2 => run_ev hf (by omega) rfl rfl e1 e2
  rcases A1 p (Nat.le_refl _) hp h d with ⟨v, h3, p3, e3, d3, l3, q3, q4, c3, A⟩ | ⟨q', h3, e3, l3, A⟩
  · have e0 := asg_of (i := 1) ((M (v := none) d).trans e3)
    rcases L turns p3 v h3 d3 q3 q4 c3 (by unfold turns; omega) with ⟨v', h', p', e4, d4, l4, q5, q6, c4, A'⟩ | ⟨q', h', s', e4, l4, A'⟩
    · exact .inl ⟨v', h', p', R (seq_nx e0 (seq_nx (s1 := [some (.ref r), some v']) (h1 := h') e4 (seq_rt (ret_of rfl)))) rfl, d4, l3.trans l4, by omega, q6, c4, fun dd => (A dd).trans (A' dd)⟩
    · exact .inr ⟨q', h', R (seq_nx e0 (seq_ex (s1 := s') (h1 := h') e4)) rfl, l3.trans l4, fun dd => (A dd).trans (A' dd)⟩
  · exact .inr ⟨q', h3, R (seq_ex (asg_x (i := 1) ((M (v := none) d).trans e3))) rfl, l3, A⟩
theorem Out_mono {C C' : Nat → Prop} {q : Option (Re Vv)} {u : Du} (k : ∀ p, C p → C' p) (x : Out h r wl ws p u C q) : Out h r wl ws p u C' q := by
  rcases x with ⟨v, h', p', a, b, c, d, e, f, g⟩ | x
  · exact .inl ⟨v, h', p', a, b, c, d, e, k _ f, g⟩
  · exact .inr x
/-- a whole reading -/
theorem read_all (D : Rdr G) : ∀ (k : Nat), (∀ p n, p ≤ 60 → 60 - p ≤ k → 30 + 3 * k ≤ n → At G r wl ws "Reader.single" (fun _ => True) n p) ∧
    (∀ p n, p ≤ 60 → 60 - p ≤ k → 32 + 3 * k ≤ n → At G r wl ws "Reader.either" (fun q => ws[q]? ≠ some ("and" : Str) ∧ ws[q]? ≠ some ("or" : Str)) n p) := by
  intro k
  induction k with
  | zero =>
    have S : ∀ p n, p ≤ 60 → 60 - p ≤ 0 → 30 + 3 * 0 ≤ n → At G r wl ws "Reader.single" (fun _ => True) n p := fun p n h1 h2 h3 => single_ok D (by omega) h1 (fun z => by omega) (fun z => by omega)
    refine ⟨S, fun p n h1 h2 h3 => ?_⟩
    have B : ∀ q, p ≤ q → q ≤ 60 → At G r wl ws "Reader.both" (fun q => True ∧ ws[q]? ≠ some ("and" : Str)) (n - 1) q := fun q z1 z2 => betw_ok D (by omega) z2 (f := "Reader.both") D.both D.mSingle (fun _ _ => rfl) D.single rfl (by decide +kernel) (.inl rfl) fun q' y1 y2 => S q' _ y2 (by omega) (by omega)
    intro h d
    exact Out_mono (fun q z => ⟨z.1.2, z.2⟩) (betw_ok D (by omega) h1 (f := "Reader.either") D.either D.mBoth (fun _ _ => rfl) D.both rfl (by decide +kernel) (.inr rfl) B h d)
  | succ k ih =>
    have S : ∀ p n, p ≤ 60 → 60 - p ≤ k + 1 → 30 + 3 * (k + 1) ≤ n → At G r wl ws "Reader.single" (fun _ => True) n p := fun p n h1 h2 h3 => single_ok D (by omega) h1 (fun z => ih.1 _ _ (by omega) (by omega) (by omega)) (fun z => ih.2 _ _ (by omega) (by omega) (by omega))
    refine ⟨S, fun p n h1 h2 h3 => ?_⟩
    have B : ∀ q, p ≤ q → q ≤ 60 → At G r wl ws "Reader.both" (fun q => True ∧ ws[q]? ≠ some ("and" : Str)) (n - 1) q := fun q z1 z2 => betw_ok D (by omega) z2 (f := "Reader.both") D.both D.mSingle (fun _ _ => rfl) D.single rfl (by decide +kernel) (.inl rfl) fun q' y1 y2 => S q' _ y2 (by omega) (by omega)
    intro h d
    exact Out_mono (fun q z => ⟨z.1.2, z.2⟩) (betw_ok D (by omega) h1 (f := "Reader.either") D.either D.mBoth (fun _ _ => rfl) D.both rfl (by decide +kernel) (.inr rfl) B h d)
end
end Pl

set_option linter.all false
set_option autoImplicit false
set_option maxRecDepth 100000
set_option maxHeartbeats 1000000
namespace Pl
open PySem Dv
section
variable {G : Tx} {n : Nat} {h h' : VH} {v w : Vv} {i j : Nat} {o : Orc} {sl : Sl}
theorem hnd_hit' {x : Xv} {s1 : Sl} {h1 h2 : VH} {c : Str} {sl : Option Nat} {su r : St} (hx : ((G.cls x.c).bind (·.exc)).isSome = true) (hc : x.c = c) (k : evS G o su (inS sl h1.length s1) (h1 ++ [.exn x.c x.fs]) = some (.rt v h2)) : evS.evH G o (.hnd c sl su r) x s1 h1 = some (.rt v (h2.set h1.length .dead)) := by
  simp only [evS.evH]
  rw [hx]
  simp only [Bool.true_eq_false, if_false]
  rw [if_pos hc, k]
theorem hnd_miss' {x : Xv} {s1 : Sl} {h1 : VH} {c : Str} {sl : Option Nat} {su r : St} {q : Option Sr} (hx : ((G.cls x.c).bind (·.exc)).isSome = true) (hc : x.c ≠ c) (k : evS.evH G o r x s1 h1 = q) : evS.evH G o (.hnd c sl su r) x s1 h1 = q := by
  simp only [evS.evH]
  rw [hx]
  simp only [Bool.true_eq_false, if_false]
  rw [if_neg hc, k]
theorem try_ex' {b hs : St} {x : Xv} {s1 s2 : Sl} {h1 : VH} {q : Option Sr} (k : evS G o b s2 h = some (.ex x s1 h1)) (k2 : evS.evH G o hs x s1 h1 = q) : evS G o (.try_ b hs) s2 h = q := by
  simp only [evS]
  rw [k]
  exact k2
theorem try_rt' {b hs : St} {s2 : Sl} {h1 : VH} (k : evS G o b s2 h = some (.rt v h1)) : evS G o (.try_ b hs) s2 h = some (.rt v h1) := by
  simp only [evS]
  rw [k]
theorem e_lst' {es : Exs} {vs : List Vv} {h1 : VH} (k : evEs G o es sl h = some (.ok vs h1)) (hl : vs.length ≤ 1000) : evE G o (.lst es) sl h = some (.ok (.ref h1.length) (h1 ++ [.lst vs])) := by
  show Rb (evEs G o es sl h) _ = _
  rw [k]
  show (if vs.length ≤ sz then new (.lst vs) h1 else none) = _
  rw [if_pos (Nat.le_trans hl (by decide))]
  rfl
theorem e_tup' {es : Exs} {vs : List Vv} {h1 : VH} (k : evEs G o es sl h = some (.ok vs h1)) (hl : vs.length ≤ 1000) : evE G o (.tup es) sl h = some (.ok (.ref h1.length) (h1 ++ [.tup vs])) := by
  show Rb (evEs G o es sl h) _ = _
  rw [k]
  show (if vs.length ≤ sz then new (.tup vs) h1 else none) = _
  rw [if_pos (Nat.le_trans hl (by decide))]
  rfl
theorem es_cons' {e : Ex} {es : Exs} {vs : List Vv} {h1 h2 : VH} (k : evE G o e sl h = some (.ok v h1)) (k2 : evEs G o es sl h1 = some (.ok vs h2)) : evEs G o (.cons e es) sl h = some (.ok (v :: vs) h2) := by
  simp only [evEs, k, Rb_ok, k2]
theorem e_bin' {op : Operator} {a c : Ex} {x y : Vv} {h1 h2 h3 : VH} (k1 : evE G o a sl h = some (.ok x h1)) (k2 : evE G o c sl h1 = some (.ok y h2)) (k3 : binop op x y h2 = some (.ok v h3)) : evE G o (.bin op a c) sl h = some (.ok v h3) := by
  simp only [evE, k1, Rb_ok, k2, k3]
theorem b_mul' {xs : List Vv} {k : Nat} (e : h[i]? = some (.lst xs)) (hk : k ≤ 1000) (hl : xs.length ≤ 1000) : binop .Mult (.ref i) (.int k) h = some (.ok (.ref h.length) (h ++ [.lst (List.replicate k xs).flatten])) := by
  simp only [binop, e]
  rw [if_pos ⟨by omega, by omega, by
    have : xs.length * k ≤ 1000 * 1000 := Nat.mul_le_mul hl hk
    show xs.length * ((k : Int)).toNat ≤ 16777216
    simp only [Int.toNat_natCast]
    omega⟩]
  rfl
theorem b_add' {xs ys : List Vv} (e : h[i]? = some (.lst xs)) (e2 : h[j]? = some (.lst ys)) (hl : xs.length ≤ 100000) (hl2 : ys.length ≤ 100000) : binop .Add (.ref i) (.ref j) h = some (.ok (.ref h.length) (h ++ [.lst (xs ++ ys)])) := by
  simp only [binop, e, e2]
  rw [if_pos (by show xs.length + ys.length ≤ 16777216; omega)]
  rfl
theorem for_inv' {bd : Sl → VH → Option Sr} {tg : List Nat} {kp : VH → Bool} {I : Nat → Sl → VH → Prop} (hk : ∀ h, kp h = true) :
    ∀ (items : List (List Vv)) (s : Sl) (h : VH), (∀ k it s h, it ∈ items → I (k + 1) s h → ∃ s1, setT tg s it = some s1 ∧ ∃ s2 h2, (bd s1 h = some (.nx s2 h2) ∨ bd s1 h = some (.ct s2 h2)) ∧ I k s2 h2) →
      I items.length s h → ∃ s' h', forF bd tg kp items s h = some (.nx s' h') ∧ I 0 s' h'
  | [], s, h, _, i0 => ⟨s, h, by simp [forF, hk], i0⟩
  | it :: r, s, h, st, i0 => by
    obtain ⟨s1, e1, s2, h2, e2, i1⟩ := st r.length it s h List.mem_cons_self i0
    obtain ⟨s', h', e3, i2⟩ := for_inv' hk r s2 h2 (fun k it' s h hm => st k it' s h (List.mem_cons_of_mem _ hm)) i1
    refine ⟨s', h', ?_, i2⟩
    rcases e2 with e2 | e2
    · simp only [forF, hk, e1, e2, if_true]; exact e3
    · simp only [forF, hk, e1, e2, if_true]; exact e3
theorem for_rng' {e : Exs} {bd : St} {x : Nat} {vs : List Vv} {items : List (List Vv)} {h1 : VH} {r : Option Sr} (he : evEs G o e sl h = some (.ok vs h1)) (hr : rngOf vs = some ⟨items, none, [], false, false⟩) (k : forF (evS G o bd) [x] (fun _ => true) items sl h1 = r) : evS G o (.for_ [x] (.rng e) bd) sl h = r := by
  show Sb (evI G o (.rng e) 1 sl h) sl _ = r
  have e1 : evI G o (.rng e) 1 sl h = some (.ok ⟨items, none, [], false, false⟩ h1) := by
    simp only [evI, if_true, he, Rb_ok, hr, Option.map_some]
  rw [e1]
  exact k
theorem rng_mem' {N : Int} {it : List Vv} (q : it ∈ rngItems 0 N 1) : ∃ i : Nat, it = [.int i] ∧ (i : Int) < N := by
  unfold rngItems at q
  obtain ⟨i, hi, rfl⟩ := List.mem_map.mp q
  refine ⟨i, by simp, ?_⟩
  have := List.mem_range.mp hi
  simp at this
  omega
end
end Pl

set_option linter.all false
set_option autoImplicit false
set_option maxRecDepth 100000
set_option maxHeartbeats 1000000
namespace Pl
open PySem Dv
def xOutC : St := (.seq (.try_ (.seq (.ret (.call "read_condition" (.cons (.var 0) .nil))) .skip) (.hnd "BadCondition" (some 1) (.seq (.ret (.tup (.cons (.attr (.var 1) "place") .nil))) .skip) .hnil)) .skip)
/-- a word without a space -/
def WdOk (w : Str) : Prop := SeqAt.shaped (.str w) = true ∧ w.length ≤ 1000 ∧ 32 ∉ w.cps.toList
section
variable {G : Tx} {n : Nat} {h : VH} {r wl p : Nat} {ws : List Str} {o : Orc} {s : Sl}
def sp : Str := " "
theorem split_join_sp (hne : ws ≠ []) (hw : ∀ w ∈ ws, WdOk w) : Txt.split (Txt.join sp ws) sp = ws :=
  TL.split_join (y := sp) (s := 32) (S := []) rfl (by decide +kernel) hne fun w hm => (hw w hm).2.2
theorem rini_ok (D : Rdr G) (hn : 2 ≤ n) {h1 : VH} : run G n "Reader.__init__" [.ref h1.length, .ref wl, .bl false] (h1 ++ [.ins "Reader" []]) = some (.ok .non (h1 ++ [.ins "Reader" (rf wl 0)])) := by
  refine run_ev D.ini hn rfl (s := [some (.ref h1.length), some (.ref wl), some (.bl false)]) rfl (r := some (.nx [some (.ref h1.length), some (.ref wl), some (.bl false)] (h1 ++ [.ins "Reader" (rf wl 0)]))) ?_ rfl
  have S : ∀ (f : Str) (v : Vv) (e : Ex) (fs : List (Str × Vv)), fs.length < 900 → fldOf G "Reader" f = true → evE G (oc G n) e [some (.ref h1.length), some (.ref wl), some (.bl false)] (h1 ++ [.ins "Reader" fs]) = some (.ok v (h1 ++ [.ins "Reader" fs])) →
      evS G (oc G n) (.fld (.var 0) f e) [some (.ref h1.length), some (.ref wl), some (.bl false)] (h1 ++ [.ins "Reader" fs]) = some (.nx [some (.ref h1.length), some (.ref wl), some (.bl false)] (h1 ++ [.ins "Reader" (putF f v fs)])) := fun f v e fs q1 q2 k => by
    simp only [evS, k, Sb_ok, evE, List.getElem?_cons_zero, get_new, q1, q2, and_self, if_true]
    simp
  exact seq_nx (S "words" (.ref wl) (.var 1) [] (by decide) D.fW rfl) (seq_nx (S "is_wide" (.bl false) (.var 2) (putF "words" (.ref wl) []) (show 1 < 900 by decide) D.fI rfl) (seq_nx (S "place" (.int 0) (.cst (.int 0)) (putF "is_wide" (.bl false) (putF "words" (.ref wl) [])) (show 2 < 900 by decide) D.fP rfl) rfl))
theorem cini_ok (D : Rdr G) (hn : 2 ≤ n) {h1 : VH} {u v : Vv} : run G n "Condition.__init__" [.ref h1.length, u, v] (h1 ++ [.ins "Condition" []]) = some (.ok .non (h1 ++ [.ins "Condition" [("own_text", u), ("own_tree", v)]])) := by
  refine run_ev D.cIni hn rfl (s := [some (.ref h1.length), some u, some v]) rfl (r := some (.nx [some (.ref h1.length), some u, some v] (h1 ++ [.ins "Condition" [("own_text", u), ("own_tree", v)]]))) ?_ rfl
  have S : ∀ (f : Str) (x : Vv) (e : Ex) (fs : List (Str × Vv)), fs.length < 900 → fldOf G "Condition" f = true → evE G (oc G n) e [some (.ref h1.length), some u, some v] (h1 ++ [.ins "Condition" fs]) = some (.ok x (h1 ++ [.ins "Condition" fs])) →
      evS G (oc G n) (.fld (.var 0) f e) [some (.ref h1.length), some u, some v] (h1 ++ [.ins "Condition" fs]) = some (.nx [some (.ref h1.length), some u, some v] (h1 ++ [.ins "Condition" (putF f x fs)])) := fun f x e fs q1 q2 k => by
    simp only [evS, k, Sb_ok, evE, List.getElem?_cons_zero, get_new, q1, q2, and_self, if_true]
    simp
  exact seq_nx (S "own_text" u (.var 1) [] (by decide) D.fT rfl) (seq_nx (S "own_tree" v (.var 2) (putF "own_text" u []) (show 1 < 900 by decide) D.fTr rfl) rfl)
theorem mk_ok {c k : Str} {es : Exs} {vs : List Vv} {fi : Fn} {h1 h2 : VH} (hm : methOf G c "__init__" = some k) (hf : G.fns k = some fi) (hk : fi.kw = []) (he : evEs G (oc G n) es s h = some (.ok vs h1)) (hr : run G (n - 2) k (.ref h1.length :: vs) (h1 ++ [.ins c []]) = some (.ok .non h2)) : evE G (oc G n) (.mk c es) s h = some (.ok (.ref h1.length) h2) := by
  simp only [evE, he, Rb_ok, hm, orc_call2, call_of hf hk, hr]
theorem HLx.new {h a h' : VH} {k : Nat} (l : HLe h a) (hk : h.length ≤ k) (x : HLx k a h') : HLe h h' := fun j o e => x j o (by have := lt_of_get e; omega) (l j o e)
/-- a parse of words that are joined -/
theorem parse_ok (D : Rdr G) (hn : 300 ≤ n) (hne : ws ≠ []) (hw : ∀ w ∈ ws, WdOk w) (hl : (Txt.join sp ws).length ≤ 10000000) :
    (au ws .beg 0 0 = -1 ∧ ∃ v h', run G n "parse" [.str (Txt.join sp ws), .bl false] h = some (.ok v h') ∧ HLe h h') ∨
    (∃ q h', au ws .beg 0 0 = (q : Nat) ∧ run G n "parse" [.str (Txt.join sp ws), .bl false] h = some (.ex (bc q) h') ∧ HLe h h') := by
  have R : ∀ {q t}, evS G (oc G n) xParse [some (.str (Txt.join sp ws)), some (.bl false), none, none] h = t → retR t = q → run G n "parse" [.str (Txt.join sp ws), .bl false] h = q := fun e1 e2 => run_ev D.parse (by omega) rfl rfl e1 e2
  have e1 := isi_ty (G := G) (h := h) (v := .str (Txt.join sp ws)) (m := "str") (T := "str") rfl (by decide)
  have c1 : evT G (oc G n) (.not (.val (.bf .isinst (.cons (.var 0) (.cons (.cst (.ty "str")) .nil))))) [some (.str (Txt.join sp ws)), some (.bl false), none, none] h = some (.ok false h) := by
    have c : callb G .isinst [.str (Txt.join sp ws), .ty "str"] h = some (.ok (.bl true) h) := by simp [callb, e1, ok1]
    simp only [evT, evE, evEs, List.getElem?_cons_zero, Rb_ok, c, truth]
    rfl
  have c2 : evE G (oc G n) (.bm (.var 0) .split (.cons (.cst (.str " ")) .nil)) [some (.str (Txt.join sp ws)), some (.bl false), none, none] h = some (.ok (.ref h.length) (h ++ [.lst (ws.map .str)])) := by
    have b : bmeth G (.str (Txt.join sp ws)) .split [.str sp] h = some (.ok (.ref h.length) (h ++ [.lst (ws.map .str)])) := by
      show (if _ then _ else _) = _
      rw [if_pos ⟨rfl, by have : sz = 16777216 := rfl; omega⟩, split_join_sp hne hw]
      rfl
    simp only [evE, evEs, List.getElem?_cons_zero, Rb_ok, brecv, if_true]
    exact b
  have d0 : Rd (h ++ [.lst (ws.map .str)] ++ [.ins "Reader" (rf h.length 0)]) (h ++ [Ho.lst (ws.map .str)]).length h.length ws 0 := ⟨get_new, get_app get_new, by simp, fun w hm => ⟨(hw w hm).1, (hw w hm).2.1⟩⟩
  have c3 : evE G (oc G n) (.mk "Reader" (.cons (.bm (.var 0) .split (.cons (.cst (.str " ")) .nil)) (.cons (.var 1) .nil))) [some (.str (Txt.join sp ws)), some (.bl false), none, none] h = some (.ok (.ref (h ++ [Ho.lst (ws.map .str)]).length) (h ++ [.lst (ws.map .str)] ++ [.ins "Reader" (rf h.length 0)])) :=
    mk_ok D.mIni D.ini rfl (es_cons' c2 (es_cons' (h2 := h ++ [Ho.lst (ws.map .str)]) (v := .bl false) rfl rfl)) (rini_ok D (by omega))
  have l0 : HLe h (h ++ [.lst (ws.map .str)] ++ [.ins "Reader" (rf h.length 0)]) := (HLe.app _ _).trans (HLe.app _ _)
  have hk : h.length ≤ (h ++ [Ho.lst (ws.map .str)]).length := by simp
  have M : evE G (oc G n) (.meth (.var 2) "either" .nil) [some (.str (Txt.join sp ws)), some (.bl false), some (.ref (h ++ [Ho.lst (ws.map .str)]).length), none] (h ++ [.lst (ws.map .str)] ++ [.ins "Reader" (rf h.length 0)]) = _ := meth_ok D.mEither rfl D.either rfl d0 rfl rfl
  rcases (read_all D 60).2 0 (n - 1) (by omega) (by omega) (by omega) _ d0 with ⟨v, h2, p, e2, d2, l2, _, hp, ⟨n1, n2⟩, A⟩ | ⟨q, h2, e2, l2, A⟩
  · have l3 := HLx.new l0 hk l2
    have H : evE G (oc G n) (.meth (.var 2) "here" .nil) [some (.str (Txt.join sp ws)), some (.bl false), some (.ref (h ++ [Ho.lst (ws.map .str)]).length), some v] h2 = some (.ok (hereV ws p) h2) := by
      rw [meth_ok D.mHere rfl D.here rfl d2 rfl rfl]; exact here_ok D (by omega) d2
    rcases w_or (ws := ws) (p := p) with ⟨w, e⟩ | e
    · have hv : hereV ws p = .str w := by simp [hereV, e]
      rw [hv] at H
      have c4 : evT G (oc G n) (.val (.cmp .IsNot (.meth (.var 2) "here" .nil) (.cst .non))) [some (.str (Txt.join sp ws)), some (.bl false), some (.ref (h ++ [Ho.lst (ws.map .str)]).length), some v] h2 = some (.ok true h2) := by
        have H' := H
        simp only [evT, evE] at H' ⊢
        rw [H']
        rfl
      have c5 : evS G (oc G n) (.rais "BadCondition" (.cons (.attr (.var 2) "place") .nil)) [some (.str (Txt.join sp ws)), some (.bl false), some (.ref (h ++ [Ho.lst (ws.map .str)]).length), some v] h2 = some (.ex (bc p) [some (.str (Txt.join sp ws)), some (.bl false), some (.ref (h ++ [Ho.lst (ws.map .str)]).length), some v] h2) := by
        simp only [evS, evEs, evE, Rb_ok, Sb_ok, List.getElem?_cons_succ, List.getElem?_cons_zero, gPlace D d2, D.err]
        rfl
      refine .inr ⟨p, h2, ?_, R (seq_nx (ifs_f c1 rfl) (seq_nx (asg_of c3) (seq_nx (asg_of (M.trans e2)) (seq_ex (ifs_t c4 (seq_ex c5)))))) rfl, l3⟩
      rw [A 0]
      by_cases q : p = 60
      · subst q; exact au_60 e
      · exact au_none e (by omega) (by
          have m1 : w ≠ "and" := fun z => n1 (z ▸ e)
          have m2 : w ≠ "or" := fun z => n2 (z ▸ e)
          simp [step, stepF, m1, m2])
    · have hv : hereV ws p = .non := by simp [hereV, e]
      rw [hv] at H
      have c4 : evT G (oc G n) (.val (.cmp .IsNot (.meth (.var 2) "here" .nil) (.cst .non))) [some (.str (Txt.join sp ws)), some (.bl false), some (.ref (h ++ [Ho.lst (ws.map .str)]).length), some v] h2 = some (.ok false h2) := by
        have H' := H
        simp only [evT, evE] at H' ⊢
        rw [H']
        rfl
      refine .inl ⟨?_, v, h2, R (seq_nx (ifs_f c1 rfl) (seq_nx (asg_of c3) (seq_nx (asg_of (M.trans e2)) (seq_nx (ifs_f c4 rfl) (seq_rt (ret_of rfl)))))) rfl, l3⟩
      rw [A 0, au_end e]
      rfl
  · exact .inr ⟨q, h2, A 0, R (seq_nx (ifs_f c1 rfl) (seq_nx (asg_of c3) (seq_ex (asg_x (M.trans e2))))) rfl, HLx.new l0 hk l2⟩
theorem parse_odd (D : Rdr G) (hn : 2 ≤ n) {v : Vv} {T : String} (t : tyv G h v = some (.ty T)) (q : T ≠ "str") : run G n "parse" [v, .bl false] h = some (.ex (bc 0) h) := by
  refine run_ev D.parse hn rfl rfl (s := [some v, some (.bl false), none, none]) (r := some (.ex (bc 0) [some v, some (.bl false), none, none] h)) ?_ rfl
  have e1 := isi_ty (m := "str") t (by decide)
  have q' : (T == "str") = false := by simpa using q
  have c1 : evT G (oc G n) (.not (.val (.bf .isinst (.cons (.var 0) (.cons (.cst (.ty "str")) .nil))))) [some v, some (.bl false), none, none] h = some (.ok true h) := by
    have c : callb G .isinst [v, .ty "str"] h = some (.ok (.bl false) h) := by simp [callb, e1, ok1, q']
    simp only [evT, evE, evEs, List.getElem?_cons_zero, Rb_ok, c, truth]
    rfl
  refine seq_ex (ifs_t c1 (seq_ex ?_))
  simp only [evS, evEs, evE, Rb_ok, Sb_ok, D.err]
  rfl
/-- the outcome of a value whose parse is known -/
theorem outc_ex (D : Rdr G) (ho : G.fns "_law_outcome" = some ⟨1, 2, xOutC, []⟩) (hn : 10 ≤ n) {v : Vv} {q : Nat} {h1 : VH} (e : run G (n - 2) "parse" [v, .bl false] h = some (.ex (bc q) h1)) (l : HLe h h1) (fp : fldX G "BadCondition" "place" = true) :
    ∃ i h', run G n "_law_outcome" [v] h = some (.ok (.ref i) h') ∧ HLe h h' ∧ h'[i]? = some (.tup [.int q]) := by
  have rc : run G (n - 1) "read_condition" [v] h = some (.ex (bc q) h1) := by
    refine run_ev D.readC (by omega) rfl rfl (s := [some v]) (r := some (.ex (bc q) [some v] h1)) ?_ rfl
    refine seq_ex (ret_x ?_)
    have k : evEs G (oc G (n - 1)) (.cons (.var 0) (.cons (.call "parse" (.cons (.var 0) (.cons (.cst (.bl false)) .nil))) .nil)) [some v] h = some (.ex (bc q) h1) := by
      simp only [evEs, evE, List.getElem?_cons_zero, Rb_ok, orc_call, call_of D.parse]
      rw [show n - 1 - 1 = n - 2 by omega, e]
      rfl
    simp only [evE, k, Rb_ex]
  have c : evE G (oc G n) (.call "read_condition" (.cons (.var 0) .nil)) [some v, none] h = some (.ex (bc q) h1) := by
    simp only [evE, evEs, List.getElem?_cons_zero, Rb_ok, orc_call, call_of D.readC, rc]
  refine ⟨h1.length + 1, (h1 ++ [Ho.exn "BadCondition" [("place", .int q)]] ++ [Ho.tup [.int q]]).set h1.length .dead, ?_, ?_, by simp⟩
  · refine run_ev ho (by omega) rfl rfl (s := [some v, none]) (r := some (.rt (.ref (h1.length + 1)) ((h1 ++ [Ho.exn "BadCondition" [("place", .int q)]] ++ [Ho.tup [.int q]]).set h1.length .dead))) (seq_rt (try_ex' (seq_ex (ret_x c)) (hnd_hit' (by rw [show (bc q).c = "BadCondition" from rfl, D.err]; rfl) rfl (seq_rt (ret_of ?_))))) rfl
    have g : getattr G (oc G n) (.ref h1.length) "place" (h1 ++ [Ho.exn "BadCondition" [("place", .int q)]]) = some (.ok (.int q) (h1 ++ [Ho.exn "BadCondition" [("place", .int q)]])) := by
      have : ([("place", Vv.int q)] : List (Str × Vv)).lookup ("place" : Str) = some (.int q) := rfl
      simp [getattr, obj, fp, this, ok1]
    simp only [evE, evEs, inS, List.set, List.getElem?_cons_succ, List.getElem?_cons_zero, Rb_ok, bc, g]
    show new _ _ = _
    simp [new]
  · intro j o e
    have e2 := l j o e
    have := lt_of_get e2
    rw [List.getElem?_set_ne (by omega)]
    exact get_app (get_app e2)
theorem outc_ok (D : Rdr G) (ho : G.fns "_law_outcome" = some ⟨1, 2, xOutC, []⟩) (hn : 10 ≤ n) {v u : Vv} {h1 : VH} (e : run G (n - 2) "parse" [v, .bl false] h = some (.ok u h1)) (l : HLe h h1) :
    ∃ i h', run G n "_law_outcome" [v] h = some (.ok (.ref i) h') ∧ HLe h h' ∧ h'[i]? = some (.ins "Condition" [("own_text", v), ("own_tree", u)]) := by
  have rc : run G (n - 1) "read_condition" [v] h = some (.ok (.ref h1.length) (h1 ++ [.ins "Condition" [("own_text", v), ("own_tree", u)]])) := by
    refine run_ev D.readC (by omega) rfl rfl (s := [some v]) (r := some (.rt (.ref h1.length) (h1 ++ [.ins "Condition" [("own_text", v), ("own_tree", u)]]))) ?_ rfl
    refine seq_rt (ret_of (mk_ok D.mcIni D.cIni rfl (vs := [v, u]) (h1 := h1) ?_ (cini_ok D (by omega))))
    simp only [evEs, evE, List.getElem?_cons_zero, Rb_ok, orc_call, call_of D.parse]
    rw [show n - 1 - 1 = n - 2 by omega, e]
    rfl
  have c : evE G (oc G n) (.call "read_condition" (.cons (.var 0) .nil)) [some v, none] h = some (.ok (.ref h1.length) (h1 ++ [.ins "Condition" [("own_text", v), ("own_tree", u)]])) := by
    simp only [evE, evEs, List.getElem?_cons_zero, Rb_ok, orc_call, call_of D.readC, rc]
  exact ⟨h1.length, _, run_ev ho (by omega) rfl rfl (s := [some v, none]) (r := some (.rt (.ref h1.length) (h1 ++ [.ins "Condition" [("own_text", v), ("own_tree", u)]]))) (seq_rt (try_rt' (seq_rt (ret_of c)))) rfl, l.trans (HLe.app _ _), get_new⟩
end
end Pl

set_option linter.all false
set_option autoImplicit false
set_option maxRecDepth 100000
set_option maxHeartbeats 1000000
namespace Pl
open PySem Dv
def xIsName : St := (.seq (.asg (.one 1) (.lst (.cons (.cst (.str "define")) (.cons (.cst (.str "undef")) (.cons (.cst (.str "include")) (.cons (.cst (.str "body")) (.cons (.cst (.str "need")) (.cons (.cst (.str "stop")) (.cons (.cst (.str "if")) (.cons (.cst (.str "elif")) (.cons (.cst (.str "else")) (.cons (.cst (.str "endif")) (.cons (.cst (.str "not")) (.cons (.cst (.str "and")) (.cons (.cst (.str "or")) .nil))))))))))))))) (.seq (.ifs (.or (.val (.cmp .In (.var 0) (.bin .Add (.var 1) (.lst (.cons (.cst (.str "was")) (.cons (.cst (.str "has")) (.cons (.cst (.str "name")) (.cons (.cst (.str "header")) .nil)))))))) (.not (.val (.chain .LtE .LtE (.cst (.int 1)) (.bf .len (.cons (.var 0) .nil)) (.cst (.int 8)))))) (.seq (.ret (.cst (.bl false))) .skip) .skip) (.seq (.ret (.bf .all (.cons (.lc (.cmp .In (.var 2) (.cst (.str "abcdefghijklmnopqrstuvwxyz"))) [2] [2] (.val (.var 0)) .yes) .nil))) .skip)))
def pBody : St := (.seq (.ifs (.val (.cmp .Eq (.var 3) (.cst (.int 60)))) (.seq (.ret (.cst (.int 60))) .skip) .skip) (.seq (.ifs (.and (.val (.cmp .Eq (.var 1) (.cst (.str "begin")))) (.val (.cmp .In (.var 4) (.tup (.cons (.cst (.str "not")) (.cons (.cst (.str "(")) .nil)))))) (.seq (.asg (.one 2) (.bin .Add (.var 2) (.bf .int (.cons (.cmp .Eq (.var 4) (.cst (.str "("))) .nil)))) .skip) (.seq (.ifs (.and (.val (.cmp .Eq (.var 1) (.cst (.str "begin")))) (.val (.call "_law_is_name" (.cons (.var 4) .nil)))) (.seq (.asg (.one 1) (.cst (.str "name"))) .skip) (.seq (.ifs (.and (.val (.cmp .Eq (.var 1) (.cst (.str "name")))) (.val (.cmp .In (.var 4) (.tup (.cons (.cst (.str "=")) (.cons (.cst (.str "<")) .nil)))))) (.seq (.asg (.one 1) (.cst (.str "value"))) .skip) (.seq (.ifs (.and (.val (.cmp .Eq (.var 1) (.cst (.str "value")))) (.and (.val (.cmp .Eq (.bf .len (.cons (.var 4) .nil)) (.cst (.int 1)))) (.val (.cmp .In (.var 4) (.cst (.str "0123456789")))))) (.seq (.asg (.one 1) (.cst (.str "end"))) .skip) (.seq (.ifs (.and (.val (.cmp .In (.var 1) (.tup (.cons (.cst (.str "name")) (.cons (.cst (.str "end")) .nil))))) (.val (.cmp .In (.var 4) (.tup (.cons (.cst (.str "and")) (.cons (.cst (.str "or")) .nil)))))) (.seq (.asg (.one 1) (.cst (.str "begin"))) .skip) (.seq (.ifs (.and (.val (.cmp .In (.var 1) (.tup (.cons (.cst (.str "name")) (.cons (.cst (.str "end")) .nil))))) (.and (.val (.cmp .Eq (.var 4) (.cst (.str ")")))) (.val (.cmp .Gt (.var 2) (.cst (.int 0)))))) (.seq (.par [1, 2] (.cons (.cst (.str "end")) (.cons (.bin .Sub (.var 2) (.cst (.int 1))) .nil))) .skip) (.seq (.ret (.var 3)) .skip)) .skip)) .skip)) .skip)) .skip)) .skip)) .skip))
def pEnd : St := (.seq (.ret (.ite (.and (.val (.cmp .In (.var 1) (.tup (.cons (.cst (.str "name")) (.cons (.cst (.str "end")) .nil))))) (.val (.cmp .Eq (.var 2) (.cst (.int 0))))) (.neg (.cst (.int 1))) (.bf .len (.cons (.var 0) .nil)))) .skip)
def xPlace : St := (.seq (.asg (.many [1, 2]) (.tup (.cons (.cst (.str "begin")) (.cons (.cst (.int 0)) .nil)))) (.seq (.for_ [3, 4] (.enm (.var 0)) pBody) pEnd))
def duS : Du → Str
  | .beg => "begin" | .nam => "name" | .val => "value" | .fin => "end"
section
variable {G : Tx} {n : Nat} {h : VH} {i p d : Nat} {ws : List Str} {o : Orc} {s : Sl} {u : Du} {w : Str}
theorem isname_ok (hf : G.fns "_law_is_name" = some ⟨1, 3, xIsName, []⟩) (hn : 2 ≤ n) {z : Str} (hz : z.length ≤ 1000) : ∃ h', run G n "_law_is_name" [.str z] h = some (.ok (.bl (isW z)) h') ∧ HLe h h' := by
  have hz2 : z.length ≤ sz := Nat.le_trans hz (by decide)
  let r13 : List Vv := reserved.take 13
  let r4 : List Vv := reserved.drop 13
  have R : ∀ {q t}, evS G (oc G n) xIsName [some (.str z), none, none] h = t → retR t = q → run G n "_law_is_name" [.str z] h = q := fun e1 e2 => run_ev hf (by omega) rfl rfl e1 e2
  have a1 : evS G (oc G n) (.asg (.one 1) (.lst (.cons (.cst (.str "define")) (.cons (.cst (.str "undef")) (.cons (.cst (.str "include")) (.cons (.cst (.str "body")) (.cons (.cst (.str "need")) (.cons (.cst (.str "stop")) (.cons (.cst (.str "if")) (.cons (.cst (.str "elif")) (.cons (.cst (.str "else")) (.cons (.cst (.str "endif")) (.cons (.cst (.str "not")) (.cons (.cst (.str "and")) (.cons (.cst (.str "or")) .nil))))))))))))))) [some (.str z), none, none] h = some (.nx [some (.str z), some (.ref h.length), none] (h ++ [.lst r13])) := rfl
  have a2 : evE G (oc G n) (.bin .Add (.var 1) (.lst (.cons (.cst (.str "was")) (.cons (.cst (.str "has")) (.cons (.cst (.str "name")) (.cons (.cst (.str "header")) .nil)))))) [some (.str z), some (.ref h.length), none] (h ++ [.lst r13]) = some (.ok (.ref (h ++ [Ho.lst r13] ++ [Ho.lst r4]).length) (h ++ [.lst r13] ++ [.lst r4] ++ [.lst reserved])) :=
    e_bin' (x := .ref h.length) (y := .ref (h ++ [Ho.lst r13]).length) (h1 := h ++ [.lst r13]) (h2 := h ++ [.lst r13] ++ [.lst r4]) rfl rfl (b_add' (xs := r13) (ys := r4) (get_app get_new) get_new (by decide) (by decide))
  have a3 : evT G (oc G n) (.val (.cmp .In (.var 0) (.bin .Add (.var 1) (.lst (.cons (.cst (.str "was")) (.cons (.cst (.str "has")) (.cons (.cst (.str "name")) (.cons (.cst (.str "header")) .nil)))))))) [some (.str z), some (.ref h.length), none] (h ++ [.lst r13]) = some (.ok (isRes z) (h ++ [.lst r13] ++ [.lst r4] ++ [.lst reserved])) := by
    have hs : seqOf G (h ++ [.lst r13] ++ [.lst r4] ++ [.lst reserved]) (.ref (h ++ [Ho.lst r13] ++ [Ho.lst r4]).length) = some reserved := by
      have g : obj G (h ++ [.lst r13] ++ [.lst r4] ++ [.lst reserved]) (.ref (h ++ [Ho.lst r13] ++ [Ho.lst r4]).length) = some (.lst reserved) := get_new
      unfold seqOf
      rw [g]
    have hf : (flat (.str z) && reserved.all flat) = true := rfl
    have c : cmpop G (oc G n) .In (.str z) (.ref (h ++ [Ho.lst r13] ++ [Ho.lst r4]).length) (h ++ [.lst r13] ++ [.lst r4] ++ [.lst reserved]) = some (.ok (.bl (isRes z)) (h ++ [.lst r13] ++ [.lst r4] ++ [.lst reserved])) := by
      show (seqOf G _ _).bind _ = _
      rw [hs]
      show (if (flat (.str z) && reserved.all flat) = true then _ else none) = _
      rw [if_pos hf]
      rfl
    have v0 : evE G (oc G n) (.var 0) [some (.str z), some (.ref h.length), none] (h ++ [.lst r13]) = some (.ok (.str z) (h ++ [.lst r13])) := rfl
    show Rb (Rb (evE G _ (.var 0) _ _) fun x h1 => Rb (evE G _ (.bin .Add _ _) _ h1) _) _ = _
    rw [v0, Rb_ok, a2, Rb_ok, c]
    rfl
  have l3 : HLe h (h ++ [.lst r13] ++ [.lst r4] ++ [.lst reserved]) := ((HLe.app _ _).trans (HLe.app _ _)).trans (HLe.app _ _)
  generalize (h ++ [Ho.lst r13] ++ [Ho.lst r4] ++ [Ho.lst reserved]) = h3 at a3 l3
  have c2 : callb G .len [.str z] h3 = some (.ok (.int z.length) h3) := by simp [callb, hz2, ok1]
  have ch : evT G (oc G n) (.not (.val (.chain .LtE .LtE (.cst (.int 1)) (.bf .len (.cons (.var 0) .nil)) (.cst (.int 8))))) [some (.str z), some (.ref h.length), none] h3 = some (.ok (!(decide (1 ≤ (z.length : Int)) && decide ((z.length : Int) ≤ 8))) h3) := by
    by_cases q1 : 1 ≤ (z.length : Int)
    · by_cases q2 : (z.length : Int) ≤ 8
      · simp [-List.append_assoc, evS, evE, evEs, evT, evI, Rb, Sb, sthen, ok1, truth, c2, cmpop, q1, q2]
      · simp [-List.append_assoc, evS, evE, evEs, evT, evI, Rb, Sb, sthen, ok1, truth, c2, cmpop, q1, q2]
    · simp [-List.append_assoc, evS, evE, evEs, evT, evI, Rb, Sb, sthen, ok1, truth, c2, cmpop, q1]
  have orf : isRes z = false → evT G (oc G n) (.or (.val (.cmp .In (.var 0) (.bin .Add (.var 1) (.lst (.cons (.cst (.str "was")) (.cons (.cst (.str "has")) (.cons (.cst (.str "name")) (.cons (.cst (.str "header")) .nil)))))))) (.not (.val (.chain .LtE .LtE (.cst (.int 1)) (.bf .len (.cons (.var 0) .nil)) (.cst (.int 8)))))) [some (.str z), some (.ref h.length), none] (h ++ [.lst r13]) = some (.ok (!(decide (1 ≤ (z.length : Int)) && decide ((z.length : Int) ≤ 8))) h3) := fun q => by
    rw [evT, a3, q, Rb_ok]; exact ch
  cases q3 : isRes z with
  | true =>
    refine ⟨h3, R (seq_nx a1 (seq_rt (ifs_t (h1 := h3) ?_ (seq_rt (ret_of rfl))))) (by simp [retR, isW, q3]), l3⟩
    rw [evT, a3, q3, Rb_ok]
  | false =>
    cases q4 : (decide (1 ≤ (z.length : Int)) && decide ((z.length : Int) ≤ 8)) with
    | false =>
      refine ⟨h3, R (seq_nx a1 (seq_rt (ifs_t (h1 := h3) ?_ (seq_rt (ret_of rfl))))) (by unfold isW; rw [q4]; rfl), l3⟩
      rw [orf q3, q4]; rfl
    | true =>
      have lcr := lc_pure (h := h3) (e := evE G (oc G n) (.cmp .In (.var 2) (.cst (.str "abcdefghijklmnopqrstuvwxyz")))) (cd := evT G (oc G n) .yes) (s := [some (.str z), some (.ref h.length), none]) (tg := [2]) (kp := keeps G ⟨z.cps.toList.map fun c => [.str ⟨#[c]⟩], none, [], false, false⟩) (it := fun c : Nat => [.str ⟨#[c]⟩]) (g := fun _ => true) (f := fun c => .bl (letter c)) (fun _ => rfl)
        (fun c acc => ⟨[some (.str z), some (.ref h.length), some (.str ⟨#[c]⟩)], rfl, rfl, fun _ => rfl⟩) z.cps.toList [] (by simp only [List.length_nil, Nat.zero_add]; exact hz2)
      have l1 : evE G (oc G n) (.lc (.cmp .In (.var 2) (.cst (.str "abcdefghijklmnopqrstuvwxyz"))) [2] [2] (.val (.var 0)) .yes) [some (.str z), some (.ref h.length), none] h3 = some (.ok (.ref h3.length) (h3 ++ [.lst (z.cps.toList.map fun c => .bl (letter c))])) := by
        simp only [filter_true, List.nil_append] at lcr
        exact lcr
      refine ⟨h3 ++ [.lst (z.cps.toList.map fun c => .bl (letter c))], R (seq_nx a1 (seq_nx (s1 := [some (.str z), some (.ref h.length), none]) (h1 := h3) (ifs_f (by rw [orf q3, q4]; rfl) rfl) (seq_rt (ret_of (v := .bl (isW z)) ?_)))) rfl, l3.trans (HLe.app _ _)⟩
      have al : isW z = z.cps.toList.all letter := by unfold isW; rw [q4, q3]; rfl
      rw [al]
      show Rb (Rb (evE G _ (.lc _ _ _ _ _) _ _) _) _ = _
      rw [l1]
      show (match (h3 ++ [Ho.lst (z.cps.toList.map fun c => Vv.bl (letter c))])[h3.length]? with | some (.lst xs) => (bools xs).bind fun bs => ok1 (.bl (bs.all id)) (h3 ++ [Ho.lst (z.cps.toList.map fun c => Vv.bl (letter c))]) | _ => none) = _
      rw [get_new]
      show (bools _).bind _ = _
      rw [bools_map]
      simp [ok1, List.all_map]
theorem tEq {j : Nat} {x c : Str} (hj : s[j]? = some (some (.str x))) (hx : SeqAt.shaped (.str x) = true) (hc : SeqAt.shaped (.str c) = true) : evE G o (.cmp .Eq (.var j) (.cst (.str c))) s h = some (.ok (.bl (decide (x = c))) h) := by
  have e1 : eqd G h (.str x) (.str c) = some (x == c) := eqd_str (d := .str x) (e := .str c) rfl rfl hx hc
  simp only [evE, hj, Rb_ok, cmpop, e1]
  by_cases q : x = c
  · subst q; simp [ok1]
  · simp [ok1, q]
theorem tIn {j : Nat} {x a b : Str} (hj : s[j]? = some (some (.str x))) : evE G o (.cmp .In (.var j) (.tup (.cons (.cst (.str a)) (.cons (.cst (.str b)) .nil)))) s h = some (.ok (.bl (decide (x = a ∨ x = b))) (h ++ [.tup [.str a, .str b]])) := by
  have hs : seqOf G (h ++ [.tup [.str a, .str b]]) (.ref h.length) = some [.str a, .str b] := by
    have g : obj G (h ++ [.tup [.str a, .str b]]) (.ref h.length) = some (.tup [.str a, .str b]) := get_new
    unfold seqOf
    rw [g]
  have t : evE G o (.tup (.cons (.cst (.str a)) (.cons (.cst (.str b)) .nil))) s h = some (.ok (.ref h.length) (h ++ [.tup [.str a, .str b]])) := rfl
  show Rb (evE G o (.var j) s h) _ = _
  rw [show evE G o (.var j) s h = some (.ok (.str x) h) by simp only [evE, hj]]
  rw [Rb_ok, t, Rb_ok]
  show (seqOf G _ _).bind _ = _
  rw [hs]
  show (if (flat (.str x) && [Vv.str a, Vv.str b].all flat) = true then ok1 (.bl ([Vv.str a, Vv.str b].any fun z => feq z (.str x))) _ else none) = _
  have hfl : (flat (.str x) && [Vv.str a, Vv.str b].all flat) = true := rfl
  rw [if_pos hfl]
  have : ([Vv.str a, Vv.str b].any fun z => feq z (.str x)) = decide (x = a ∨ x = b) := by
    show ((a == x) || ((b == x) || false)) = _
    by_cases q : x = a
    · subst q; simp
    · by_cases q2 : x = b
      · subst q2; simp
      · have q' : ¬ a = x := fun z => q z.symm
        have q2' : ¬ b = x := fun z => q2 z.symm
        simp [q, q2, q', q2']
  rw [this]; rfl
theorem val_of {e : Ex} {b : Bool} {h1 : VH} (k : evE G o e s h = some (.ok (.bl b) h1)) : evT G o (.val e) s h = some (.ok b h1) := by
  rw [evT, k]; rfl
theorem and_f {a b : Tt} {h1 : VH} (k : evT G o a s h = some (.ok false h1)) : evT G o (.and a b) s h = some (.ok false h1) := by
  rw [evT, k]; rfl
theorem and_t {a b : Tt} {h1 : VH} {r : Option (Re Bool)} (k : evT G o a s h = some (.ok true h1)) (k2 : evT G o b s h1 = r) : evT G o (.and a b) s h = r := by
  rw [evT, k]; exact k2
theorem shw {a : Bool} {b : Bool} (q : a = b) {h1 : VH} {r : Option (Re Bool)} (k : r = some (.ok a h1)) : r = some (.ok b h1) := q ▸ k
def PS (i : Nat) (u : Du) (d p : Nat) (w : Str) : Sl := [some (.ref i), some (.str (duS u)), some (.int d), some (.int p), some (.str w)]
theorem du_sh : SeqAt.shaped (.str (duS u)) = true := by cases u <;> decide +kernel
theorem tDu (c : Str) (hc : SeqAt.shaped (.str c) = true) (b : Bool) (q : decide (duS u = c) = b) : evT G o (.val (.cmp .Eq (.var 1) (.cst (.str c)))) (PS i u d p w) h = some (.ok b h) := by
  rw [← q]; exact val_of (tEq rfl du_sh hc)
theorem tDu2 (b : Bool) (q : decide (duS u = ("name" : Str) ∨ duS u = ("end" : Str)) = b) : evT G o (.val (.cmp .In (.var 1) (.tup (.cons (.cst (.str "name")) (.cons (.cst (.str "end")) .nil))))) (PS i u d p w) h = some (.ok b (h ++ [.tup [.str "name", .str "end"]])) := by
  rw [← q]; exact val_of (tIn rfl)
theorem tW2 (a b : Str) (c : Bool) (q : decide (w = a ∨ w = b) = c) : evT G o (.val (.cmp .In (.var 4) (.tup (.cons (.cst (.str a)) (.cons (.cst (.str b)) .nil))))) (PS i u d p w) h = some (.ok c (h ++ [.tup [.str a, .str b]])) := by
  rw [← q]; exact val_of (tIn rfl)
end
end Pl

set_option linter.all false
set_option autoImplicit false
set_option maxRecDepth 100000
set_option maxHeartbeats 1000000
namespace Pl
open PySem Dv
section
variable {G : Tx} {n : Nat} {h : VH} {i p d : Nat} {ws : List Str} {o : Orc} {s : Sl} {u : Du} {w : Str}
theorem cmp_ii {a b : Int} : cmpop G o .Eq (.int a) (.int b) h = some (.ok (.bl (decide (a = b))) h) := by
  have e1 : eqd G h (.int a) (.int b) = some (a == b) := eqd_str (d := .int a) (e := .int b) rfl rfl rfl rfl
  simp only [cmpop, e1]
  rfl
/-- what a turn gives -/
def Tn2 (i : Nat) (d p : Nat) (w : Str) (h : VH) (x : Option (Du × Nat)) (r : Option Sr) : Prop := match x with
  | some (u', d') => ∃ h', r = some (.nx (PS i u' d' p w) h') ∧ HLe h h'
  | none => ∃ h', r = some (.rt (.int p) h') ∧ HLe h h'
theorem Tn2.up {h0 : VH} {x : Option (Du × Nat)} {r : Option Sr} (t : Tn2 i d p w h x r) (l : HLe h0 h) : Tn2 i d p w h0 x r := by
  cases x with
  | none => obtain ⟨h', e, l2⟩ := t; exact ⟨h', e, l.trans l2⟩
  | some x => obtain ⟨u', d'⟩ := x; obtain ⟨h', e, l2⟩ := t; exact ⟨h', e, l.trans l2⟩
def bEnd : St := (.ifs (.and (.val (.cmp .In (.var 1) (.tup (.cons (.cst (.str "name")) (.cons (.cst (.str "end")) .nil))))) (.and (.val (.cmp .Eq (.var 4) (.cst (.str ")")))) (.val (.cmp .Gt (.var 2) (.cst (.int 0)))))) (.seq (.par [1, 2] (.cons (.cst (.str "end")) (.cons (.bin .Sub (.var 2) (.cst (.int 1))) .nil))) .skip) (.seq (.ret (.var 3)) .skip))
def bAnd : St := (.ifs (.and (.val (.cmp .In (.var 1) (.tup (.cons (.cst (.str "name")) (.cons (.cst (.str "end")) .nil))))) (.val (.cmp .In (.var 4) (.tup (.cons (.cst (.str "and")) (.cons (.cst (.str "or")) .nil)))))) (.seq (.asg (.one 1) (.cst (.str "begin"))) .skip) (.seq bEnd .skip))
def bVal : St := (.ifs (.and (.val (.cmp .Eq (.var 1) (.cst (.str "value")))) (.and (.val (.cmp .Eq (.bf .len (.cons (.var 4) .nil)) (.cst (.int 1)))) (.val (.cmp .In (.var 4) (.cst (.str "0123456789")))))) (.seq (.asg (.one 1) (.cst (.str "end"))) .skip) (.seq bAnd .skip))
def bSig : St := (.ifs (.and (.val (.cmp .Eq (.var 1) (.cst (.str "name")))) (.val (.cmp .In (.var 4) (.tup (.cons (.cst (.str "=")) (.cons (.cst (.str "<")) .nil)))))) (.seq (.asg (.one 1) (.cst (.str "value"))) .skip) (.seq bVal .skip))
def bNam : St := (.ifs (.and (.val (.cmp .Eq (.var 1) (.cst (.str "begin")))) (.val (.call "_law_is_name" (.cons (.var 4) .nil)))) (.seq (.asg (.one 1) (.cst (.str "name"))) .skip) (.seq bSig .skip))
def bNot : St := (.ifs (.and (.val (.cmp .Eq (.var 1) (.cst (.str "begin")))) (.val (.cmp .In (.var 4) (.tup (.cons (.cst (.str "not")) (.cons (.cst (.str "(")) .nil)))))) (.seq (.asg (.one 2) (.bin .Add (.var 2) (.bf .int (.cons (.cmp .Eq (.var 4) (.cst (.str "("))) .nil)))) .skip) (.seq bNam .skip))
theorem body_eq : pBody = .seq (.ifs (.val (.cmp .Eq (.var 3) (.cst (.int 60)))) (.seq (.ret (.cst (.int 60))) .skip) .skip) (.seq bNot .skip) := rfl
theorem seq_skip {a : St} {r : Option Sr} (k : evS G o a s h = r) : evS G o (.seq a .skip) s h = r := by
  show sthen (evS G o a s h) _ = _
  rw [k]
  cases r with
  | none => rfl
  | some r => cases r <;> rfl
theorem step_none_end (hs : SeqAt.shaped (.str w) = true) (q : duS u = ("name" : Str) ∨ duS u = ("end" : Str)) (q2 : ¬(w = "and" ∨ w = "or")) : Tn2 i d p w h (stepF d w) (evS G o bEnd (PS i u d p w) h) := by
  have t1 := tDu2 (G := G) (o := o) (h := h) (i := i) (d := d) (p := p) (w := w) (u := u) true (decide_eq_true q)
  have t2 : evT G o (.val (.cmp .Eq (.var 4) (.cst (.str ")")))) (PS i u d p w) (h ++ [.tup [.str "name", .str "end"]]) = some (.ok (decide (w = ")")) (h ++ [.tup [.str "name", .str "end"]])) := val_of (tEq rfl hs (by decide +kernel))
  have t3 : evT G o (.val (.cmp .Gt (.var 2) (.cst (.int 0)))) (PS i u d p w) (h ++ [.tup [.str "name", .str "end"]]) = some (.ok (decide ((0 : Int) < d)) (h ++ [.tup [.str "name", .str "end"]])) := val_of rfl
  by_cases q3 : w = ")"
  · by_cases q4 : 0 < d
    · have e : stepF d w = some (.fin, d - 1) := by simp [stepF, q2, q3, q4]; decide +kernel
      rw [e]
      refine ⟨h ++ [.tup [.str "name", .str "end"]], ifs_t (and_t t1 (and_t (shw (decide_eq_true q3) t2) (shw (decide_eq_true (by omega)) t3))) (seq_skip ?_), HLe.app _ _⟩
      have e2 : ((d : Int) - 1) = ((d - 1 : Nat) : Int) := by omega
      show some (Sr.nx [some (.ref i), some (.str "end"), some (.int ((d : Int) - 1)), some (.int p), some (.str w)] _) = _
      rw [e2]; rfl
    · have e : stepF d w = none := by simp [stepF, q2, q3, q4]; decide +kernel
      rw [e]
      exact ⟨h ++ [.tup [.str "name", .str "end"]], ifs_f (and_t t1 (and_t (shw (decide_eq_true q3) t2) (shw (decide_eq_false (by omega)) t3))) (seq_skip (ret_of rfl)), HLe.app _ _⟩
  · have e : stepF d w = none := by simp [stepF, q2, q3]
    rw [e]
    exact ⟨h ++ [.tup [.str "name", .str "end"]], ifs_f (and_t t1 (and_f (shw (decide_eq_false q3) t2))) (seq_skip (ret_of rfl)), HLe.app _ _⟩
theorem step_and (hs : SeqAt.shaped (.str w) = true) (q : duS u = ("name" : Str) ∨ duS u = ("end" : Str)) : Tn2 i d p w h (stepF d w) (evS G o bAnd (PS i u d p w) h) := by
  have t1 := tDu2 (G := G) (o := o) (h := h) (i := i) (d := d) (p := p) (w := w) (u := u) true (decide_eq_true q)
  by_cases q2 : w = "and" ∨ w = "or"
  · have t2 := tW2 (G := G) (o := o) (h := h ++ [.tup [.str "name", .str "end"]]) (i := i) (d := d) (p := p) (u := u) "and" "or" true (decide_eq_true q2)
    have e : stepF d w = some (.beg, d) := by simp [stepF, q2]
    rw [e]
    exact ⟨_, ifs_t (and_t t1 t2) (seq_skip (asg_of rfl)), (HLe.app _ _).trans (HLe.app _ _)⟩
  · have t2 := tW2 (G := G) (o := o) (h := h ++ [.tup [.str "name", .str "end"]]) (i := i) (d := d) (p := p) (u := u) "and" "or" false (decide_eq_false q2)
    have k := step_none_end (G := G) (o := o) (h := h ++ [.tup [.str "name", .str "end"]] ++ [.tup [.str "and", .str "or"]]) (i := i) (d := d) (p := p) hs q q2
    have e : evS G o bAnd (PS i u d p w) h = evS G o bEnd (PS i u d p w) (h ++ [.tup [.str "name", .str "end"]] ++ [.tup [.str "and", .str "or"]]) := ifs_f (and_t t1 t2) (seq_skip rfl)
    rw [e]
    exact k.up ((HLe.app _ _).trans (HLe.app _ _))
/-- where no condition can go on -/
theorem step_bad (hs : SeqAt.shaped (.str w) = true) (q : ¬(duS u = ("name" : Str) ∨ duS u = ("end" : Str))) : Tn2 i d p w h none (evS G o bAnd (PS i u d p w) h) := by
  have t1 := tDu2 (G := G) (o := o) (h := h) (i := i) (d := d) (p := p) (w := w) (u := u) false (decide_eq_false q)
  have t2 := tDu2 (G := G) (o := o) (h := h ++ [.tup [.str "name", .str "end"]]) (i := i) (d := d) (p := p) (w := w) (u := u) false (decide_eq_false q)
  exact ⟨_, ifs_f (and_f t1) (seq_skip (ifs_f (and_f t2) (seq_skip (ret_of rfl)))), (HLe.app _ _).trans (HLe.app _ _)⟩
theorem turn_ok2 (hf : G.fns "_law_is_name" = some ⟨1, 3, xIsName, []⟩) (hn : 4 ≤ n) (hs : SeqAt.shaped (.str w) = true) (hl : w.length ≤ 1000) (hp : p ≠ 60) : Tn2 i d p w h (step u d w) (evS G (oc G n) pBody (PS i u d p w) h) := by
  have t0 : evT G (oc G n) (.val (.cmp .Eq (.var 3) (.cst (.int 60)))) (PS i u d p w) h = some (.ok false h) := by
    have e2 : decide ((p : Int) = 60) = false := decide_eq_false (by omega)
    refine val_of ?_
    rw [← e2]
    simp only [evE, PS, List.getElem?_cons_succ, List.getElem?_cons_zero, Rb_ok, cmp_ii]
  have E : evS G (oc G n) pBody (PS i u d p w) h = evS G (oc G n) bNot (PS i u d p w) h := by
    rw [body_eq]; exact seq_nx (ifs_f t0 rfl) (seq_skip rfl)
  rw [E]
  cases u with
  | beg =>
    have b1 : ∀ h, evT G (oc G n) (.val (.cmp .Eq (.var 1) (.cst (.str "begin")))) (PS i .beg d p w) h = some (.ok true h) := fun h => tDu "begin" (by decide +kernel) true (by decide +kernel)
    by_cases q : w = "not" ∨ w = "("
    · have t2 := tW2 (G := G) (o := oc G n) (h := h) (i := i) (d := d) (p := p) (u := .beg) "not" "(" true (decide_eq_true q)
      have e4 : evE G (oc G n) (.cmp .Eq (.var 4) (.cst (.str "("))) (PS i .beg d p w) (h ++ [.tup [.str "not", .str "("]]) = some (.ok (.bl (decide (w = "("))) (h ++ [.tup [.str "not", .str "("]])) := tEq rfl hs (by decide +kernel)
      have e5 : evE G (oc G n) (.bin .Add (.var 2) (.bf .int (.cons (.cmp .Eq (.var 4) (.cst (.str "("))) .nil))) (PS i .beg d p w) (h ++ [.tup [.str "not", .str "("]]) = some (.ok (.int ((d : Int) + (if decide (w = "(") then 1 else 0))) (h ++ [.tup [.str "not", .str "("]])) := by
        refine e_bin' (x := .int d) (y := .int (if decide (w = "(") then 1 else 0)) rfl ?_ rfl
        show Rb (Rb (evE G _ (.cmp .Eq _ _) _ _) _) _ = _
        rw [e4]; rfl
      rcases q with q | q
      · have e : step .beg d w = some (.beg, d) := by simp [step, q]
        rw [e]
        refine ⟨h ++ [.tup [.str "not", .str "("]], ifs_t (and_t (b1 h) t2) (seq_skip ((asg_of e5).trans ?_)), HLe.app _ _⟩
        have : decide (w = "(") = false := by rw [q]; decide +kernel
        rw [this]
        show some (Sr.nx [some (.ref i), some (.str "begin"), some (.int ((d : Int) + 0)), some (.int p), some (.str w)] _) = _
        rw [Int.add_zero]; rfl
      · have n0 : w ≠ "not" := by rw [q]; decide +kernel
        have e : step .beg d w = some (.beg, d + 1) := by simp [step, n0]; simp [q]
        rw [e]
        refine ⟨h ++ [.tup [.str "not", .str "("]], ifs_t (and_t (b1 h) t2) (seq_skip ((asg_of e5).trans ?_)), HLe.app _ _⟩
        rw [decide_eq_true q]
        rfl
    · have t2 := tW2 (G := G) (o := oc G n) (h := h) (i := i) (d := d) (p := p) (u := .beg) "not" "(" false (decide_eq_false q)
      have q1 : w ≠ "not" := fun z => q (.inl z)
      have q2 : w ≠ "(" := fun z => q (.inr z)
      obtain ⟨h2, k, l2⟩ := isname_ok (G := G) (n := n - 1) (h := h ++ [.tup [.str "not", .str "("]]) hf (by omega) hl
      have t3 : evT G (oc G n) (.val (.call "_law_is_name" (.cons (.var 4) .nil))) (PS i .beg d p w) (h ++ [.tup [.str "not", .str "("]]) = some (.ok (isW w) h2) := by
        refine val_of ?_
        show callP G (run G (n - 1)) "_law_is_name" [.str w] (h ++ [.tup [.str "not", .str "("]]) = _
        rw [call_of hf rfl, k]
      cases q3 : isW w with
      | true =>
        rw [q3] at t3
        have e : step .beg d w = some (.nam, d) := by simp [step, q1, q2, q3]
        rw [e]
        exact ⟨h2, ifs_f (and_t (b1 h) t2) (seq_skip (ifs_t (and_t (b1 _) t3) (seq_skip (asg_of rfl)))), (HLe.app _ _).trans l2⟩
      | false =>
        rw [q3] at t3
        have e : step .beg d w = none := by simp [step, q1, q2, q3]
        rw [e]
        have b2 : evT G (oc G n) (.val (.cmp .Eq (.var 1) (.cst (.str "name")))) (PS i .beg d p w) h2 = some (.ok false h2) := tDu "name" (by decide +kernel) false (by decide +kernel)
        have b3 : evT G (oc G n) (.val (.cmp .Eq (.var 1) (.cst (.str "value")))) (PS i .beg d p w) h2 = some (.ok false h2) := tDu "value" (by decide +kernel) false (by decide +kernel)
        have k2 := step_bad (G := G) (o := oc G n) (h := h2) (i := i) (d := d) (p := p) (u := .beg) hs (by decide +kernel)
        have E2 : evS G (oc G n) bNot (PS i .beg d p w) h = evS G (oc G n) bAnd (PS i .beg d p w) h2 := ifs_f (and_t (b1 h) t2) (seq_skip (ifs_f (and_t (b1 _) t3) (seq_skip (ifs_f (and_f b2) (seq_skip (ifs_f (and_f b3) (seq_skip rfl)))))))
        rw [E2]
        exact k2.up ((HLe.app _ _).trans l2)
  | nam =>
    have b1 : evT G (oc G n) (.val (.cmp .Eq (.var 1) (.cst (.str "begin")))) (PS i .nam d p w) h = some (.ok false h) := tDu "begin" (by decide +kernel) false (by decide +kernel)
    have b2 : evT G (oc G n) (.val (.cmp .Eq (.var 1) (.cst (.str "name")))) (PS i .nam d p w) h = some (.ok true h) := tDu "name" (by decide +kernel) true (by decide +kernel)
    by_cases q : w = "=" ∨ w = "<"
    · have t2 := tW2 (G := G) (o := oc G n) (h := h) (i := i) (d := d) (p := p) (u := .nam) "=" "<" true (decide_eq_true q)
      have e : step .nam d w = some (.val, d) := by simp [step, q]
      rw [e]
      exact ⟨_, ifs_f (and_f b1) (seq_skip (ifs_f (and_f b1) (seq_skip (ifs_t (and_t b2 t2) (seq_skip (asg_of rfl)))))), HLe.app _ _⟩
    · have t2 := tW2 (G := G) (o := oc G n) (h := h) (i := i) (d := d) (p := p) (u := .nam) "=" "<" false (decide_eq_false q)
      have e : step .nam d w = stepF d w := by simp [step, q]
      rw [e]
      have b3 : evT G (oc G n) (.val (.cmp .Eq (.var 1) (.cst (.str "value")))) (PS i .nam d p w) (h ++ [.tup [.str "=", .str "<"]]) = some (.ok false _) := tDu "value" (by decide +kernel) false (by decide +kernel)
      have E2 : evS G (oc G n) bNot (PS i .nam d p w) h = evS G (oc G n) bAnd (PS i .nam d p w) (h ++ [.tup [.str "=", .str "<"]]) := ifs_f (and_f b1) (seq_skip (ifs_f (and_f b1) (seq_skip (ifs_f (and_t b2 t2) (seq_skip (ifs_f (and_f b3) (seq_skip rfl)))))))
      rw [E2]
      exact (step_and hs (.inl rfl)).up (HLe.app _ _)
  | val =>
    have b1 : evT G (oc G n) (.val (.cmp .Eq (.var 1) (.cst (.str "begin")))) (PS i .val d p w) h = some (.ok false h) := tDu "begin" (by decide +kernel) false (by decide +kernel)
    have b2 : evT G (oc G n) (.val (.cmp .Eq (.var 1) (.cst (.str "name")))) (PS i .val d p w) h = some (.ok false h) := tDu "name" (by decide +kernel) false (by decide +kernel)
    have b3 : evT G (oc G n) (.val (.cmp .Eq (.var 1) (.cst (.str "value")))) (PS i .val d p w) h = some (.ok true h) := tDu "value" (by decide +kernel) true (by decide +kernel)
    have c2 : callb G .len [.str w] h = some (.ok (.int w.length) h) := by
      have : w.length ≤ sz := Nat.le_trans hl (by decide)
      simp [callb, this, ok1]
    have t1 : evT G (oc G n) (.val (.cmp .Eq (.bf .len (.cons (.var 4) .nil)) (.cst (.int 1)))) (PS i .val d p w) h = some (.ok (decide ((w.length : Int) = 1)) h) := by
      refine val_of ?_
      simp only [evE, evEs, PS, List.getElem?_cons_succ, List.getElem?_cons_zero, Rb_ok, c2, cmp_ii]
    have t2 : evT G (oc G n) (.val (.cmp .In (.var 4) (.cst (.str "0123456789")))) (PS i .val d p w) h = some (.ok (hasS "0123456789" w) h) := val_of rfl
    have t3 : evT G (oc G n) (.and (.val (.cmp .Eq (.bf .len (.cons (.var 4) .nil)) (.cst (.int 1)))) (.val (.cmp .In (.var 4) (.cst (.str "0123456789"))))) (PS i .val d p w) h = some (.ok (isDig w) h) := by
      by_cases q : (w.length : Int) = 1
      · refine and_t (shw (decide_eq_true q) t1) ?_
        rw [t2]; simp [isDig, q]
      · rw [and_f (shw (decide_eq_false q) t1)]; simp [isDig, q]
    cases q : isDig w with
    | true =>
      rw [q] at t3
      have e : step .val d w = some (.fin, d) := by simp [step, q]
      rw [e]
      exact ⟨h, ifs_f (and_f b1) (seq_skip (ifs_f (and_f b1) (seq_skip (ifs_f (and_f b2) (seq_skip (ifs_t (and_t b3 t3) (seq_skip (asg_of rfl)))))))), HLe.refl _⟩
    | false =>
      rw [q] at t3
      have e : step .val d w = none := by simp [step, q]
      rw [e]
      have E2 : evS G (oc G n) bNot (PS i .val d p w) h = evS G (oc G n) bAnd (PS i .val d p w) h := ifs_f (and_f b1) (seq_skip (ifs_f (and_f b1) (seq_skip (ifs_f (and_f b2) (seq_skip (ifs_f (and_t b3 t3) (seq_skip rfl)))))))
      rw [E2]
      exact step_bad hs (by decide +kernel)
  | fin =>
    have b1 : evT G (oc G n) (.val (.cmp .Eq (.var 1) (.cst (.str "begin")))) (PS i .fin d p w) h = some (.ok false h) := tDu "begin" (by decide +kernel) false (by decide +kernel)
    have b2 : evT G (oc G n) (.val (.cmp .Eq (.var 1) (.cst (.str "name")))) (PS i .fin d p w) h = some (.ok false h) := tDu "name" (by decide +kernel) false (by decide +kernel)
    have b3 : evT G (oc G n) (.val (.cmp .Eq (.var 1) (.cst (.str "value")))) (PS i .fin d p w) h = some (.ok false h) := tDu "value" (by decide +kernel) false (by decide +kernel)
    have E2 : evS G (oc G n) bNot (PS i .fin d p w) h = evS G (oc G n) bAnd (PS i .fin d p w) h := ifs_f (and_f b1) (seq_skip (ifs_f (and_f b1) (seq_skip (ifs_f (and_f b2) (seq_skip (ifs_f (and_f b3) (seq_skip rfl)))))))
    rw [E2]
    exact step_and hs (.inr rfl)
/-- the words with their places -/
def enm : Nat → List Str → List (List Vv)
  | _, [] => []
  | p, w :: r => [.int p, .str w] :: enm (p + 1) r
theorem enm_eq : ∀ (ws : List Str) (p : Nat), ((ws.map Vv.str).mapIdx fun j v => [Vv.int ((p + j : Nat) : Int), v]) = enm p ws
  | [], _ => rfl
  | w :: r, p => by
    rw [List.map_cons, List.mapIdx_cons]
    show _ :: _ = _ :: _
    rw [← enm_eq r (p + 1)]
    simp only [Nat.add_zero]
    congr 2
    funext j v
    rw [show p + (j + 1) = p + 1 + j by omega]
theorem place_loop (hf : G.fns "_law_is_name" = some ⟨1, 3, xIsName, []⟩) (hn : 4 ≤ n) {W : List Vv} (S : Src) (hS : S = ⟨[], some (.ref i), W, true, false⟩ ∨ True) {kp : VH → Bool} (hk : ∀ h : VH, h[i]? = some (.lst W) → kp h = true) :
    ∀ (r : List Str) (p : Nat) (u : Du) (d : Nat) (x y : Option Vv) (h : VH), (∀ w ∈ r, SeqAt.shaped (.str w) = true ∧ w.length ≤ 1000) → h[i]? = some (.lst W) →
      (∃ h' z, forF (evS G (oc G n) pBody) [3, 4] kp (enm p r) [some (.ref i), some (.str (duS u)), some (.int d), x, y] h = some (.rt (.int z) h') ∧ HLe h h' ∧ aut r u d p = z) ∨
      (∃ h' u' d' x' y', forF (evS G (oc G n) pBody) [3, 4] kp (enm p r) [some (.ref i), some (.str (duS u)), some (.int d), x, y] h = some (.nx [some (.ref i), some (.str (duS u')), some (.int (d' : Nat)), x', y'] h') ∧ HLe h h' ∧ aut r u d p = if acc u' d' then (-1 : Int) else ((p + r.length : Nat) : Int))
  | [], p, u, d, x, y, h, _, hi => .inr ⟨h, u, d, x, y, by simp [enm, forF, hk h hi], HLe.refl _, rfl⟩
  | w :: r, p, u, d, x, y, h, hw, hi => by
    obtain ⟨hs, hl⟩ := hw w List.mem_cons_self
    have st : ∀ q, evS G (oc G n) pBody (PS i u d p w) h = q → forF (evS G (oc G n) pBody) [3, 4] kp (enm p (w :: r)) [some (.ref i), some (.str (duS u)), some (.int d), x, y] h = (match q with
      | some (.nx s2 h2) => forF (evS G (oc G n) pBody) [3, 4] kp (enm (p + 1) r) s2 h2
      | some (.ct s2 h2) => forF (evS G (oc G n) pBody) [3, 4] kp (enm (p + 1) r) s2 h2
      | some (.bk s2 h2) => some (.nx s2 h2)
      | x => x) := fun q e => by
      rw [enm, forF, if_pos (hk h hi), ← e]
      rfl
    by_cases q : p = 60
    · subst q
      have t0 : evT G (oc G n) (.val (.cmp .Eq (.var 3) (.cst (.int 60)))) (PS i u d 60 w) h = some (.ok true h) := by
        have e2 : decide (((60 : Nat) : Int) = 60) = true := rfl
        refine val_of ?_
        rw [← e2]
        simp only [evE, PS, List.getElem?_cons_succ, List.getElem?_cons_zero, Rb_ok, cmp_ii]
      refine .inl ⟨h, 60, st (some (.rt (.int 60) h)) ?_, HLe.refl _, rfl⟩
      rw [body_eq]
      exact seq_rt (ifs_t t0 (seq_rt (ret_of rfl)))
    · have T := turn_ok2 (G := G) (n := n) (h := h) (i := i) (p := p) (d := d) (u := u) hf hn hs hl q
      have A : aut (w :: r) u d p = match step u d w with
        | some (u', d') => aut r u' d' (p + 1)
        | none => p := if_neg q
      rw [A]
      cases k : step u d w with
      | none =>
        rw [k] at T
        obtain ⟨h', e, l⟩ := T
        exact .inl ⟨h', p, st _ e, l, rfl⟩
      | some z =>
        obtain ⟨u', d'⟩ := z
        rw [k] at T
        obtain ⟨h', e, l⟩ := T
        rcases place_loop hf hn S (.inr trivial) hk r (p + 1) u' d' (some (.int p)) (some (.str w)) h' (fun w' hm => hw w' (List.mem_cons_of_mem _ hm)) (l _ _ hi) with ⟨h3, z, e3, l3, A3⟩ | ⟨h3, u3, d3, x3, y3, e3, l3, A3⟩
        · exact .inl ⟨h3, z, (st _ e).trans e3, l.trans l3, A3⟩
        · refine .inr ⟨h3, u3, d3, x3, y3, (st _ e).trans e3, l.trans l3, ?_⟩
          show aut r u' d' (p + 1) = _
          rw [A3, List.length_cons, show p + 1 + r.length = p + (r.length + 1) by omega]
theorem place_ok2 (hf : G.fns "_law_is_name" = some ⟨1, 3, xIsName, []⟩) (hp : G.fns "_law_place" = some ⟨1, 5, xPlace, []⟩) (hn : 4 ≤ n) (hw : ∀ w ∈ ws, SeqAt.shaped (.str w) = true ∧ w.length ≤ 1000) (hi : h[i]? = some (.lst (ws.map .str))) :
    ∃ h', run G n "_law_place" [.ref i] h = some (.ok (.int (au ws .beg 0 0)) h') ∧ HLe h h' := by
  have R : ∀ {q t}, evS G (oc G n) xPlace [some (.ref i), none, none, none, none] h = t → retR t = q → run G n "_law_place" [.ref i] h = q := fun e1 e2 => run_ev hp (by omega) rfl rfl e1 e2
  have e0 : evS G (oc G n) (.asg (.many [1, 2]) (.tup (.cons (.cst (.str "begin")) (.cons (.cst (.int 0)) .nil)))) [some (.ref i), none, none, none, none] h = some (.nx [some (.ref i), some (.str (duS .beg)), some (.int (0 : Nat)), none, none] (h ++ [.tup [.str "begin", .int 0]])) := by
    have t : evE G (oc G n) (.tup (.cons (.cst (.str "begin")) (.cons (.cst (.int 0)) .nil))) [some (.ref i), none, none, none, none] h = some (.ok (.ref h.length) (h ++ [.tup [.str "begin", .int 0]])) := rfl
    have g : obj G (h ++ [.tup [.str "begin", .int 0]]) (.ref h.length) = some (.tup [.str "begin", .int 0]) := get_new
    rw [evS, t, Sb_ok]
    show (if _ then _ else (match obj G _ _ with | some (.tup xs) => (setT _ _ xs).map fun s1 => Sr.nx s1 _ | _ => none)) = _
    rw [if_neg (by decide), g]
    rfl
  have hi1 : (h ++ [Ho.tup [.str "begin", .int 0]])[i]? = some (.lst (ws.map .str)) := get_app hi
  have se : evI G (oc G n) (.enm (.var 0)) 2 [some (.ref i), some (.str (duS .beg)), some (.int (0 : Nat)), none, none] (h ++ [.tup [.str "begin", .int 0]]) = some (.ok ⟨enm 0 ws, some (.ref i), ws.map .str, true, false⟩ (h ++ [.tup [.str "begin", .int 0]])) := by
    have e := enm_eq ws 0
    simp only [Nat.zero_add] at e
    rw [evI, if_pos rfl]
    show ((match (h ++ [Ho.tup [.str "begin", .int 0]])[i]? with
      | some (.lst xs) => some ⟨xs.mapIdx fun j v => [.int j, v], some (.ref i), xs, true, false⟩
      | some (.rol xs) => some ⟨xs.mapIdx fun j v => [.int j, v], some (.ref i), xs, true, false⟩
      | _ => none) : Option Src).map _ = _
    rw [hi1]
    simp only [Option.map_some, e]
  have hk : ∀ h : VH, h[i]? = some (.lst (ws.map .str)) → keeps G ⟨enm 0 ws, some (.ref i), ws.map .str, true, false⟩ h = true := fun h e => by
    have g : obj G h (.ref i) = some (.lst (ws.map .str)) := e
    simp [keeps, seqOf, isL, g]
  have F : ∀ q, forF (evS G (oc G n) pBody) [3, 4] (keeps G ⟨enm 0 ws, some (.ref i), ws.map .str, true, false⟩) (enm 0 ws) [some (.ref i), some (.str (duS .beg)), some (.int (0 : Nat)), none, none] (h ++ [.tup [.str "begin", .int 0]]) = q → evS G (oc G n) (.for_ [3, 4] (.enm (.var 0)) pBody) [some (.ref i), some (.str (duS .beg)), some (.int (0 : Nat)), none, none] (h ++ [.tup [.str "begin", .int 0]]) = q := fun q e => by
    rw [evS, show ([3, 4] : List Nat).length = 2 from rfl, se, Sb_ok]
    exact e
  have A : au ws .beg 0 0 = aut ws .beg 0 0 := rfl
  rcases place_loop (G := G) (n := n) (i := i) hf hn ⟨[], none, [], true, false⟩ (.inr trivial) hk ws 0 .beg 0 none none (h ++ [.tup [.str "begin", .int 0]]) hw hi1 with ⟨h', z, e, l, a⟩ | ⟨h', u', d', x', y', e, l, a⟩
  · rw [A, a]
    exact ⟨h', R (seq_nx e0 (seq_rt (F _ e))) rfl, (HLe.app _ _).trans l⟩
  · rw [A, a]
    have hi2 := l _ _ hi1
    have le : callb G .len [.ref i] (h' ++ [.tup [.str "name", .str "end"]]) = some (.ok (.int ws.length) (h' ++ [.tup [.str "name", .str "end"]])) := by
      have g : obj G (h' ++ [.tup [.str "name", .str "end"]]) (.ref i) = some (.lst (ws.map .str)) := get_app hi2
      simp [callb, seqOf, g, ok1]
    have t1 : evT G (oc G n) (.val (.cmp .In (.var 1) (.tup (.cons (.cst (.str "name")) (.cons (.cst (.str "end")) .nil))))) [some (.ref i), some (.str (duS u')), some (.int (d' : Nat)), x', y'] h' = some (.ok (decide (duS u' = ("name" : Str) ∨ duS u' = ("end" : Str))) (h' ++ [.tup [.str "name", .str "end"]])) := val_of (tIn rfl)
    have t2 : evT G (oc G n) (.val (.cmp .Eq (.var 2) (.cst (.int 0)))) [some (.ref i), some (.str (duS u')), some (.int (d' : Nat)), x', y'] (h' ++ [.tup [.str "name", .str "end"]]) = some (.ok (decide ((d' : Int) = 0)) (h' ++ [.tup [.str "name", .str "end"]])) := by
      refine val_of ?_
      simp only [evE, List.getElem?_cons_succ, List.getElem?_cons_zero, Rb_ok, cmp_ii]
    have t3 : evT G (oc G n) (.and (.val (.cmp .In (.var 1) (.tup (.cons (.cst (.str "name")) (.cons (.cst (.str "end")) .nil))))) (.val (.cmp .Eq (.var 2) (.cst (.int 0))))) [some (.ref i), some (.str (duS u')), some (.int (d' : Nat)), x', y'] h' = some (.ok (acc u' d') (h' ++ [.tup [.str "name", .str "end"]])) := by
      by_cases q : duS u' = ("name" : Str) ∨ duS u' = ("end" : Str)
      · rw [and_t (shw (decide_eq_true q) t1) t2]
        have : (u' == .nam || u' == .fin) = true := by
          cases u' with
          | beg => exact absurd q (by decide +kernel)
          | val => exact absurd q (by decide +kernel)
          | nam => rfl
          | fin => rfl
        unfold acc
        rw [this, Bool.true_and]
        have e3 : decide ((d' : Int) = 0) = (d' == 0) := by
          by_cases z : d' = 0
          · subst z; rfl
          · have z2 : ¬ (d' : Int) = 0 := by omega
            simp [z]
        rw [e3]
      · rw [and_f (shw (decide_eq_false q) t1)]
        have : (u' == .nam || u' == .fin) = false := by
          cases u' with
          | beg => rfl
          | val => rfl
          | nam => exact absurd (.inl rfl) q
          | fin => exact absurd (.inr rfl) q
        unfold acc
        rw [this]
        rfl
    refine ⟨h' ++ [.tup [.str "name", .str "end"]], R (seq_nx e0 (seq_nx (F _ e) (seq_rt (ret_of (v := .int (if acc u' d' then (-1 : Int) else ((0 + ws.length : Nat) : Int))) (h1 := h' ++ [.tup [.str "name", .str "end"]]) ?_)))) rfl, ((HLe.app _ _).trans l).trans (HLe.app _ _)⟩
    rw [evE, t3, Rb_ok, Nat.zero_add]
    cases acc u' d' with
    | true => rfl
    | false =>
      simp only [evE, evEs, List.getElem?_cons_zero, Rb_ok, le]
      rfl
end
end Pl

set_option linter.all false
set_option autoImplicit false
set_option maxRecDepth 100000
set_option maxHeartbeats 1000000
namespace Pl
open PySem Dv
def xCond : St := (.seq (.asg (.one 3) (.call "_law_take" (.cons (.var 0) (.cons (.ite (.val (.cmp .Gt (.var 2) (.cst (.int 0)))) (.cst (.int 6)) (.cst (.int 3))) .nil)))) (.seq (.par [4, 5] (.cons (.call "_law_of" (.cons (.var 0) (.cons (.var 1) .nil))) (.cons (.bf .str (.cons (.call "_law_take" (.cons (.var 0) (.cons (.cst (.int 4)) .nil))) .nil)) .nil))) (.seq (.ifs (.val (.cmp .Lt (.var 3) (.cst (.int 3)))) (.seq (.ret (.idx (.lst (.cons (.var 4) (.cons (.bin .Add (.bin .Add (.var 4) (.cst (.str " = "))) (.var 5)) (.cons (.bin .Add (.bin .Add (.var 4) (.cst (.str " < "))) (.var 5)) .nil)))) (.var 3))) .skip) .skip) (.seq (.par [6, 7] (.cons (.call "_law_condition" (.cons (.var 0) (.cons (.var 1) (.cons (.bin .Sub (.var 2) (.cst (.int 1))) .nil)))) (.cons (.call "_law_condition" (.cons (.var 0) (.cons (.var 1) (.cons (.bin .Sub (.var 2) (.cst (.int 1))) .nil)))) .nil))) (.seq (.ifs (.val (.cmp .Eq (.var 3) (.cst (.int 3)))) (.seq (.ret (.bin .Add (.cst (.str "not ")) (.call "_law_of" (.cons (.var 0) (.cons (.lst (.cons (.var 4) (.cons (.bin .Add (.bin .Add (.cst (.str "( ")) (.var 6)) (.cst (.str " )"))) .nil))) .nil))))) .skip) .skip) (.seq (.par [8, 9] (.cons (.call "_law_of" (.cons (.var 0) (.cons (.lst (.cons (.bin .Add (.bin .Add (.cst (.str "( ")) (.var 6)) (.cst (.str " )"))) (.cons (.var 6) .nil))) .nil))) (.cons (.call "_law_of" (.cons (.var 0) (.cons (.lst (.cons (.bin .Add (.bin .Add (.cst (.str "( ")) (.var 7)) (.cst (.str " )"))) (.cons (.var 7) .nil))) .nil))) .nil))) (.seq (.ret (.bin .Add (.bin .Add (.var 8) (.idx (.lst (.cons (.cst (.str " and ")) (.cons (.cst (.str " or ")) .nil))) (.bin .Sub (.var 3) (.cst (.int 4))))) (.var 9))) .skip)))))))
section
variable {G : Tx} {n : Nat} {h h2 : VH} {i j b B : Nat} {o : Orc} {s : Sl} {e : Ex} {xs : List Vv} {m : Int}
theorem eTake (D : Drw G) (hn : 4 ≤ n) {ib : Nat} (s0 : s[ib]? = some (some (.ref b))) (he : evE G (oc G n) e s h = some (.ok (.int m) h)) (bg : Bag h b (B + 1)) (h0 : 0 < m) (h1 : m < 1073741824) :
    ∃ r h', evE G (oc G n) (.call "_law_take" (.cons (.var ib) (.cons e .nil))) s h = some (.ok (.int r) h') ∧ 0 ≤ r ∧ r < m ∧ Bag h' b B ∧ HLx b h h' := by
  obtain ⟨r, h', k, a1, a2, a3, a4⟩ := take_ok D (n := n - 1) (by omega) bg h0 h1
  refine ⟨r, h', ?_, a1, a2, a3, a4⟩
  have v0 : evE G (oc G n) (.var ib) s h = some (.ok (.ref b) h) := by simp only [evE, s0]
  have es : evEs G (oc G n) (.cons (.var ib) (.cons e .nil)) s h = some (.ok [.ref b, .int m] h) := es_cons' v0 (es_cons' he rfl)
  rw [evE, es, Rb_ok, orc_call, call_of D.take rfl, k]
theorem eOf (D : Drw G) (hn : 6 ≤ n) {ib : Nat} (s0 : s[ib]? = some (some (.ref b))) (he : evE G (oc G n) e s h = some (.ok (.ref j) h2)) (hl : HLe h h2) (hj : h2[j]? = some (.lst xs)) (bg : Bag h b (B + 1)) (h0 : 0 < xs.length) (h1 : xs.length < 1000000) (hb : j ≠ b) :
    ∃ v h', evE G (oc G n) (.call "_law_of" (.cons (.var ib) (.cons e .nil))) s h = some (.ok v h') ∧ v ∈ xs ∧ Bag h' b B ∧ HLx b h h' := by
  obtain ⟨v, h', k, a1, a2, a3⟩ := of_ok D (n := n - 1) (by omega) (bg.keep hl) hj h0 h1 hb
  refine ⟨v, h', ?_, a1, a2, (hl.x b).trans a3⟩
  have v0 : evE G (oc G n) (.var ib) s h = some (.ok (.ref b) h) := by simp only [evE, s0]
  have es : evEs G (oc G n) (.cons (.var ib) (.cons e .nil)) s h = some (.ok [.ref b, .ref j] h2) := es_cons' v0 (es_cons' he rfl)
  rw [evE, es, Rb_ok, orc_call, call_of D.of_ rfl, k]
/-- a text of at most L signs -/
def Tx2 (L : Nat) (z : Str) : Prop := z.length ≤ L ∧ ∀ c ∈ z.cps.toList, c < 1114112
theorem Tx2.mono {L L' : Nat} {z : Str} (t : Tx2 L z) (l : L ≤ L') : Tx2 L' z := ⟨Nat.le_trans t.1 l, t.2⟩
theorem Tx2.app {L M : Nat} {y z : Str} (t : Tx2 L y) (t2 : Tx2 M z) : Tx2 (L + M) (y ++ z) := by
  refine ⟨?_, fun c hc => ?_⟩
  · rw [Str.length_append]; exact Nat.add_le_add t.1 t2.1
  · have e : (y ++ z).cps.toList = y.cps.toList ++ z.cps.toList := TL.tl_append y z
    rw [e] at hc
    exact (List.mem_append.mp hc).elim (t.2 c) (t2.2 c)
theorem bStr {L M : Nat} {y z : Str} (t : Tx2 L y) (t2 : Tx2 M z) (hL : L ≤ 100000) (hM : M ≤ 100000) : binop .Add (.str y) (.str z) h = some (.ok (.str (y ++ z)) h) := by
  have q : y.length + z.length ≤ sz := by have := t.1; have := t2.1; have : sz = 16777216 := rfl; omega
  show (if _ then _ else _) = _
  rw [if_pos q]
  rfl
instance (L : Nat) (z : Str) : Decidable (Tx2 L z) := inferInstanceAs (Decidable (_ ∧ _))
/-- a value that is such a text -/
def TV (L : Nat) (v : Vv) : Prop := ∃ z, v = .str z ∧ Tx2 L z
theorem eAdd {L M : Nat} {a c : Ex} {v w : Vv} {h1 h2 : VH} (k1 : evE G o a s h = some (.ok v h1)) (k2 : evE G o c s h1 = some (.ok w h2)) (t : TV L v) (t2 : TV M w) (hL : L ≤ 100000) (hM : M ≤ 100000) : ∃ x, evE G o (.bin .Add a c) s h = some (.ok x h2) ∧ TV (L + M) x := by
  obtain ⟨y, rfl, t⟩ := t
  obtain ⟨z, rfl, t2⟩ := t2
  exact ⟨_, e_bin' k1 k2 (bStr t t2 hL hM), _, rfl, t.app t2⟩
theorem eCst {L : Nat} {z : Str} (t : Tx2 L z) : evE G o (.cst (.str z)) s h = some (.ok (.str z) h) ∧ TV L (.str z) := ⟨rfl, z, rfl, t⟩
theorem eVar {v : Vv} (q : s[i]? = some (some v)) : evE G o (.var i) s h = some (.ok v h) := by simp only [evE, q]
theorem par2 {p q : Nat} {a c : Ex} {v w : Vv} {h1 h2 : VH} (k1 : evE G o a s h = some (.ok v h1)) (k2 : evE G o c s h1 = some (.ok w h2)) : evS G o (.par [p, q] (.cons a (.cons c .nil))) s h = some (.nx ((s.set p (some v)).set q (some w)) h2) := by
  have es := es_cons' k1 (es_cons' k2 (rfl : evEs G o .nil s h2 = some (.ok [] h2)))
  rw [evS, es]; rfl
theorem eBr {L : Nat} {k : Nat} {v : Vv} (q : s[k]? = some (some v)) (t : TV L v) (hL : L ≤ 10000) : ∃ x, evE G o (.bin .Add (.bin .Add (.cst (.str "( ")) (.var k)) (.cst (.str " )"))) s h = some (.ok x h) ∧ TV (L + 4) x := by
  obtain ⟨x, e1, t1⟩ := eAdd (G := G) (o := o) (s := s) (h := h) (eCst (L := 2) (z := "( ") (by decide +kernel)).1 (eVar q) (eCst (G := G) (o := o) (s := s) (h := h) (L := 2) (z := "( ") (by decide +kernel)).2 t (by omega) (by omega)
  obtain ⟨y, e2, t2⟩ := eAdd e1 (eCst (L := 2) (z := " )") (by decide +kernel)).1 t1 (eCst (G := G) (o := o) (s := s) (h := h) (L := 2) (z := " )") (by decide +kernel)).2 (by omega) (by omega)
  obtain ⟨z, rfl, t3⟩ := t2
  exact ⟨_, e2, z, rfl, t3.mono (by omega)⟩
theorem TV.mono {L M : Nat} {v : Vv} (t : TV L v) (l : L ≤ M) : TV M v := by obtain ⟨z, e, q⟩ := t; exact ⟨z, e, q.mono l⟩
def cL : Nat → Nat
  | 0 => 7
  | k + 1 => 2 * cL k + 13
def cB : Nat → Nat
  | 0 => 3
  | k + 1 => 5 + 2 * cB k
def ABC : List Vv := [.str "a", .str "b", .str "big"]
theorem cL7 (k : Nat) : 7 ≤ cL k := by cases k <;> simp only [cL] <;> omega
theorem strInt {r : Int} (h0 : 0 ≤ r) (h1 : r < 4) : ∃ z, callb G .str [.int r] h = some (.ok (.str z) h) ∧ Tx2 1 z := by
  have : r = 0 ∨ r = 1 ∨ r = 2 ∨ r = 3 := by omega
  rcases this with q | q | q | q <;> subst q <;> exact ⟨_, rfl, by decide +kernel⟩
theorem idx_ok {i : Nat} (hs : seqOf G h (.ref i) = some xs) {r : Int} (h0 : 0 ≤ r) (h1 : r < xs.length) : ∃ v, v ∈ xs ∧ index G (.ref i) (.int r) h = some (.ok v h) := by
  obtain ⟨k, rfl⟩ := Int.eq_ofNat_of_zero_le h0
  have hk : k < xs.length := by omega
  exact ⟨xs[k], List.getElem_mem hk, by simp [index, hs, place, hk, ok1]⟩
theorem seq_new : seqOf G (h ++ [.lst xs]) (.ref h.length) = some xs := by
  have g : obj G (h ++ [.lst xs]) (.ref h.length) = some (.lst xs) := get_new
  unfold seqOf
  rw [g]
theorem lt_bag (bg : Bag h b B) : b < h.length := by obtain ⟨d, c, k, e, _⟩ := bg; exact lt_of_get e
/-- an item of a new list -/
theorem eIdx {es : Exs} {r : Int} {k : Nat} {xs : List Vv} (he : evEs G o es s h = some (.ok xs h)) (hx : xs.length ≤ 1000) (hi : evE G o e s (h ++ [.lst xs]) = some (.ok (.int r) (h ++ [.lst xs]))) (h0 : 0 ≤ r) (h1 : r < xs.length) : ∃ v, v ∈ xs ∧ evE G o (.idx (.lst es) e) s h = some (.ok v (h ++ [.lst xs])) := by
  obtain ⟨v, hv, q⟩ := idx_ok (G := G) (seq_new (h := h) (xs := xs)) h0 h1
  refine ⟨v, hv, ?_⟩
  rw [evE, e_lst' he hx, Rb_ok, hi, Rb_ok, q]
def c1 : St := (.asg (.one 3) (.call "_law_take" (.cons (.var 0) (.cons (.ite (.val (.cmp .Gt (.var 2) (.cst (.int 0)))) (.cst (.int 6)) (.cst (.int 3))) .nil))))
def c2 : St := (.par [4, 5] (.cons (.call "_law_of" (.cons (.var 0) (.cons (.var 1) .nil))) (.cons (.bf .str (.cons (.call "_law_take" (.cons (.var 0) (.cons (.cst (.int 4)) .nil))) .nil)) .nil)))
def c3 : St := (.ifs (.val (.cmp .Lt (.var 3) (.cst (.int 3)))) (.seq (.ret (.idx (.lst (.cons (.var 4) (.cons (.bin .Add (.bin .Add (.var 4) (.cst (.str " = "))) (.var 5)) (.cons (.bin .Add (.bin .Add (.var 4) (.cst (.str " < "))) (.var 5)) .nil)))) (.var 3))) .skip) .skip)
def eCo : Ex := (.call "_law_condition" (.cons (.var 0) (.cons (.var 1) (.cons (.bin .Sub (.var 2) (.cst (.int 1))) .nil))))
def c4 : St := (.par [6, 7] (.cons eCo (.cons eCo .nil)))
def c5 : St := (.ifs (.val (.cmp .Eq (.var 3) (.cst (.int 3)))) (.seq (.ret (.bin .Add (.cst (.str "not ")) (.call "_law_of" (.cons (.var 0) (.cons (.lst (.cons (.var 4) (.cons (.bin .Add (.bin .Add (.cst (.str "( ")) (.var 6)) (.cst (.str " )"))) .nil))) .nil))))) .skip) .skip)
def c6 : St := (.par [8, 9] (.cons (.call "_law_of" (.cons (.var 0) (.cons (.lst (.cons (.bin .Add (.bin .Add (.cst (.str "( ")) (.var 6)) (.cst (.str " )"))) (.cons (.var 6) .nil))) .nil))) (.cons (.call "_law_of" (.cons (.var 0) (.cons (.lst (.cons (.bin .Add (.bin .Add (.cst (.str "( ")) (.var 7)) (.cst (.str " )"))) (.cons (.var 7) .nil))) .nil))) .nil)))
def c7 : St := (.ret (.bin .Add (.bin .Add (.var 8) (.idx (.lst (.cons (.cst (.str " and ")) (.cons (.cst (.str " or ")) .nil))) (.bin .Sub (.var 3) (.cst (.int 4))))) (.var 9)))
theorem cond_eq : xCond = .seq c1 (.seq c2 (.seq c3 (.seq c4 (.seq c5 (.seq c6 (.seq c7 .skip)))))) := rfl
def CS (b j : Nat) (k r : Int) (v4 v5 : Vv) (v6 v7 v8 v9 : Option Vv) : Sl := [some (.ref b), some (.ref j), some (.int k), some (.int r), some v4, some v5, v6, v7, v8, v9]
theorem es_nil : evEs G o .nil s h = some (.ok [] h) := rfl
theorem cond_pre (D : Drw G) (hn : 20 ≤ n) {k : Nat} (hj : h[j]? = some (.lst ABC)) (hb : j ≠ b) (bg : Bag h b (B + 3)) :
    ∃ r v4 v5 h3, (∀ rest q, evS G (oc G n) rest (CS b j k r v4 v5 none none none none) h3 = q → evS G (oc G n) (.seq c1 (.seq c2 rest)) [some (.ref b), some (.ref j), some (.int k), none, none, none, none, none, none, none] h = q) ∧ 0 ≤ r ∧ r < (if 0 < k then 6 else 3) ∧ TV 3 v4 ∧ TV 1 v5 ∧ Bag h3 b B ∧ HLx b h h3 := by
  have he : evE G (oc G n) (.ite (.val (.cmp .Gt (.var 2) (.cst (.int 0)))) (.cst (.int 6)) (.cst (.int 3))) [some (.ref b), some (.ref j), some (.int k), none, none, none, none, none, none, none] h = some (.ok (.int (if 0 < k then 6 else 3)) h) := by
    have t : evT G (oc G n) (.val (.cmp .Gt (.var 2) (.cst (.int 0)))) [some (.ref b), some (.ref j), some (.int k), none, none, none, none, none, none, none] h = some (.ok (decide ((0 : Int) < k)) h) := val_of rfl
    by_cases q : 0 < k
    · rw [evE, shw (decide_eq_true (by omega)) t, Rb_ok, if_pos q]; rfl
    · rw [evE, shw (decide_eq_false (by omega)) t, Rb_ok, if_neg q]; rfl
  obtain ⟨r, h1, e1, r0, r1, b1, x1⟩ := eTake D (n := n) (by omega) (ib := 0) (b := b) rfl he (bg.mono (B' := B + 2 + 1) (by omega)) (by split <;> omega) (by split <;> omega)
  obtain ⟨v4, h2, e2, m4, b2, x2⟩ := eOf D (n := n) (s := [some (.ref b), some (.ref j), some (.int k), some (.int r), none, none, none, none, none, none]) (by omega) (ib := 0) (b := b) (B := B + 1) (e := .var 1) rfl rfl (HLe.refl h1) (x1 _ _ hb hj) b1 (by decide) (by decide) hb
  obtain ⟨r5, h3, e3, r50, r51, b3, x3⟩ := eTake D (n := n) (s := [some (.ref b), some (.ref j), some (.int k), some (.int r), none, none, none, none, none, none]) (by omega) (ib := 0) (b := b) (e := .cst (.int 4)) rfl rfl b2 (by omega) (by omega)
  obtain ⟨z, e5, t5⟩ := strInt (G := G) (h := h3) r50 r51
  have e4 : evE G (oc G n) (.bf .str (.cons (.call "_law_take" (.cons (.var 0) (.cons (.cst (.int 4)) .nil))) .nil)) [some (.ref b), some (.ref j), some (.int k), some (.int r), none, none, none, none, none, none] h2 = some (.ok (.str z) h3) := by
    rw [evE, es_cons' e3 rfl, Rb_ok, e5]
  refine ⟨r, v4, .str z, h3, fun rest q hq => seq_nx (asg_of e1) (seq_nx (par2 e2 e4) hq), r0, r1, ?_, ⟨z, rfl, t5⟩, b3, (x1.trans x2).trans x3⟩
  simp only [ABC, List.mem_cons, List.not_mem_nil, or_false] at m4
  rcases m4 with q | q | q <;> subst q <;> exact ⟨_, rfl, by decide +kernel⟩
theorem cond_low {r k : Int} {v4 v5 : Vv} (h0 : 0 ≤ r) (h1 : r < 3) (t4 : TV 3 v4) (t5 : TV 1 v5) (rest : St) : ∃ v h', evS G o (.seq c3 rest) (CS b j k r v4 v5 none none none none) h = some (.rt v h') ∧ TV 7 v ∧ HLe h h' := by
  have t : evT G o (.val (.cmp .Lt (.var 3) (.cst (.int 3)))) (CS b j k r v4 v5 none none none none) h = some (.ok (decide (r < 3)) h) := val_of rfl
  have ad : ∀ z : Str, Tx2 3 z → ∃ x, evE G o (.bin .Add (.bin .Add (.var 4) (.cst (.str z))) (.var 5)) (CS b j k r v4 v5 none none none none) h = some (.ok x h) ∧ TV 7 x := fun z hz => by
    obtain ⟨x, e1, t1⟩ := eAdd (G := G) (o := o) (s := CS b j k r v4 v5 none none none none) (h := h) (eVar (i := 4) rfl) (eCst hz).1 t4 (eCst (G := G) (o := o) (s := CS b j k r v4 v5 none none none none) (h := h) hz).2 (by omega) (by omega)
    obtain ⟨y, e2, t2⟩ := eAdd e1 (eVar (i := 5) rfl) t1 t5 (by omega) (by omega)
    exact ⟨y, e2, t2⟩
  obtain ⟨x, e1, t1⟩ := ad " = " (by decide +kernel)
  obtain ⟨y, e2, t2⟩ := ad " < " (by decide +kernel)
  have es : evEs G o (.cons (.var 4) (.cons (.bin .Add (.bin .Add (.var 4) (.cst (.str " = "))) (.var 5)) (.cons (.bin .Add (.bin .Add (.var 4) (.cst (.str " < "))) (.var 5)) .nil))) (CS b j k r v4 v5 none none none none) h = some (.ok [v4, x, y] h) := es_cons' (eVar (i := 4) rfl) (es_cons' e1 (es_cons' e2 es_nil))
  obtain ⟨v, hv, ei⟩ := eIdx (k := 0) (e := .var 3) (r := r) es (by simp) (eVar (i := 3) rfl) h0 h1
  refine ⟨v, _, seq_rt (ifs_t (shw (decide_eq_true h1) t) (seq_rt (ret_of ei))), ?_, HLe.app _ _⟩
  simp only [List.mem_cons, List.not_mem_nil, or_false] at hv
  rcases hv with q | q | q <;> subst q
  · exact t4.mono (by omega)
  · exact t1
  · exact t2
theorem cond_ok (D : Drw G) (hc : G.fns "_law_condition" = some ⟨3, 10, xCond, []⟩) : ∀ (k n B : Nat) (h : VH), k ≤ 3 → 20 + 2 * k ≤ n → h[j]? = some (.lst ABC) → j ≠ b → Bag h b (B + cB k) →
    ∃ v h', run G n "_law_condition" [.ref b, .ref j, .int k] h = some (.ok v h') ∧ TV (cL k) v ∧ Bag h' b B ∧ HLx b h h' := by
  intro k
  induction k with
  | zero =>
    intro n B h _ hn hj hb bg
    have R : ∀ {q t}, evS G (oc G n) (.seq c1 (.seq c2 (.seq c3 (.seq c4 (.seq c5 (.seq c6 (.seq c7 .skip))))))) [some (.ref b), some (.ref j), some (.int (0 : Nat)), none, none, none, none, none, none, none] h = t → retR t = q → run G n "_law_condition" [.ref b, .ref j, .int (0 : Nat)] h = q := fun e1 e2 => run_ev hc (by omega) rfl rfl e1 e2
    obtain ⟨r, v4, v5, h3, st, r0, r1, t4, t5, b3, x3⟩ := cond_pre (k := 0) D (n := n) (by omega) hj hb bg
    obtain ⟨v, h', e, t, l⟩ := cond_low (G := G) (o := oc G n) (h := h3) (b := b) (j := j) (k := (0 : Nat)) r0 r1 t4 t5 (.seq c4 (.seq c5 (.seq c6 (.seq c7 .skip))))
    exact ⟨v, h', R (st _ _ e) rfl, t, b3.keep l, x3.trans (l.x b)⟩
  | succ k ih =>
    intro n B h hk hn hj hb bg
    have R : ∀ {q t}, evS G (oc G n) (.seq c1 (.seq c2 (.seq c3 (.seq c4 (.seq c5 (.seq c6 (.seq c7 .skip))))))) [some (.ref b), some (.ref j), some (.int (k + 1 : Nat)), none, none, none, none, none, none, none] h = t → retR t = q → run G n "_law_condition" [.ref b, .ref j, .int (k + 1 : Nat)] h = q := fun e1 e2 => run_ev hc (by omega) rfl rfl e1 e2
    obtain ⟨r, v4, v5, h3, st, r0, r1, t4, t5, b3, x3⟩ := cond_pre (k := k + 1) (B := B + 2 + 2 * cB k) D (n := n) (by omega) hj hb (bg.mono (by simp only [cB]; omega))
    rw [if_pos (by omega)] at r1
    have L7 := cL7 k
    have LL : cL k ≤ 100 := by
      have : k = 0 ∨ k = 1 ∨ k = 2 := by omega
      rcases this with q | q | q <;> subst q <;> decide
    by_cases q : r < 3
    · obtain ⟨v, h', e, t, l⟩ := cond_low (G := G) (o := oc G n) (h := h3) (b := b) (j := j) (k := (k + 1 : Nat)) r0 q t4 t5 (.seq c4 (.seq c5 (.seq c6 (.seq c7 .skip))))
      exact ⟨v, h', R (st _ _ e) rfl, t.mono (by simp only [cL]; omega), (b3.keep l).mono (by omega), x3.trans (l.x b)⟩
    · have n3 : evS G (oc G n) c3 (CS b j (k + 1 : Nat) r v4 v5 none none none none) h3 = some (.nx (CS b j (k + 1 : Nat) r v4 v5 none none none none) h3) := by
        have t : evT G (oc G n) (.val (.cmp .Lt (.var 3) (.cst (.int 3)))) (CS b j (k + 1 : Nat) r v4 v5 none none none none) h3 = some (.ok (decide (r < 3)) h3) := val_of rfl
        exact ifs_f (shw (decide_eq_false q) t) rfl
      have co : ∀ (h : VH) (B : Nat), h[j]? = some (.lst ABC) → Bag h b (B + cB k) → ∃ v h', evE G (oc G n) eCo (CS b j (k + 1 : Nat) r v4 v5 none none none none) h = some (.ok v h') ∧ TV (cL k) v ∧ Bag h' b B ∧ HLx b h h' := fun h B hj bg => by
        obtain ⟨v, h', e, z⟩ := ih (n - 1) B h (by omega) (by omega) hj hb bg
        refine ⟨v, h', ?_, z⟩
        have es : evEs G (oc G n) (.cons (.var 0) (.cons (.var 1) (.cons (.bin .Sub (.var 2) (.cst (.int 1))) .nil))) (CS b j (k + 1 : Nat) r v4 v5 none none none none) h = some (.ok [.ref b, .ref j, .int k] h) := by
          have : (((k + 1 : Nat) : Int) - 1) = (k : Int) := by omega
          refine es_cons' (eVar (i := 0) rfl) (es_cons' (eVar (i := 1) rfl) (es_cons' (v := .int k) ?_ rfl))
          rw [← this]; rfl
        rw [eCo, evE, es, Rb_ok, orc_call, call_of hc rfl, e]
      obtain ⟨v6, h4, e6, t6, b4, x4⟩ := co h3 (B + 2 + cB k) (x3 _ _ hb hj) (b3.mono (by omega))
      obtain ⟨v7, h5, e7, t7, b5, x5⟩ := co h4 (B + 2) (x4 _ _ hb (x3 _ _ hb hj)) b4
      have lb := lt_bag b5
      have t3 : evT G (oc G n) (.val (.cmp .Eq (.var 3) (.cst (.int 3)))) (CS b j (k + 1 : Nat) r v4 v5 (some v6) (some v7) none none) h5 = some (.ok (decide (r = 3)) h5) := by
        refine val_of ?_
        simp only [evE, CS, List.getElem?_cons_succ, List.getElem?_cons_zero, Rb_ok, cmp_ii]
      by_cases q3 : r = 3
      · obtain ⟨x, ex, tx⟩ := eBr (G := G) (o := oc G n) (s := CS b j (k + 1 : Nat) r v4 v5 (some v6) (some v7) none none) (h := h5) (k := 6) rfl t6 (by omega)
        have el := e_lst' (es_cons' (eVar (G := G) (o := oc G n) (s := CS b j (k + 1 : Nat) r v4 v5 (some v6) (some v7) none none) (h := h5) (i := 4) rfl) (es_cons' ex es_nil)) (by simp)
        obtain ⟨v, h6, e8, m8, b6, x6⟩ := eOf D (n := n) (ib := 0) (b := b) (B := B + 1) (by omega) rfl el (HLe.app _ _) get_new (b5.mono (by omega)) (by simp) (by simp) (by omega)
        have tv : TV (cL k + 4) v := by
          simp only [List.mem_cons, List.not_mem_nil, or_false] at m8
          rcases m8 with z | z <;> subst z
          · exact t4.mono (by omega)
          · exact tx
        obtain ⟨y, e9, t9⟩ := eAdd (eCst (L := 4) (z := "not ") (by decide +kernel)).1 e8 (eCst (G := G) (o := oc G n) (s := CS b j (k + 1 : Nat) r v4 v5 (some v6) (some v7) none none) (h := h5) (L := 4) (z := "not ") (by decide +kernel)).2 tv (by omega) (by omega)
        exact ⟨y, h6, R (st _ _ (seq_nx n3 (seq_nx (par2 e6 e7) (seq_rt (ifs_t (shw (decide_eq_true q3) t3) (seq_rt (ret_of e9))))))) rfl, t9.mono (by simp only [cL]; omega), b6.mono (by omega), (((x3.trans x4).trans x5)).trans x6⟩
      · have dr : ∀ (kk : Nat) (h : VH) (B : Nat) (vv : Vv), (CS b j (k + 1 : Nat) r v4 v5 (some v6) (some v7) none none)[kk]? = some (some vv) → TV (cL k) vv → Bag h b (B + 1) → ∃ v h', evE G (oc G n) (.call "_law_of" (.cons (.var 0) (.cons (.lst (.cons (.bin .Add (.bin .Add (.cst (.str "( ")) (.var kk)) (.cst (.str " )"))) (.cons (.var kk) .nil))) .nil))) (CS b j (k + 1 : Nat) r v4 v5 (some v6) (some v7) none none) h = some (.ok v h') ∧ TV (cL k + 4) v ∧ Bag h' b B ∧ HLx b h h' := fun kk h B vv hv tv bg => by
          have lb := lt_bag bg
          obtain ⟨x, ex, tx⟩ := eBr (G := G) (o := oc G n) (s := CS b j (k + 1 : Nat) r v4 v5 (some v6) (some v7) none none) (h := h) (k := kk) hv tv (by omega)
          have el := e_lst' (es_cons' ex (es_cons' (eVar (G := G) (o := oc G n) (s := CS b j (k + 1 : Nat) r v4 v5 (some v6) (some v7) none none) (h := h) (i := kk) hv) es_nil)) (by simp)
          obtain ⟨v, h6, e8, m8, b6, x6⟩ := eOf D (n := n) (ib := 0) (b := b) (B := B) (by omega) rfl el (HLe.app _ _) get_new bg (by simp) (by simp) (by omega)
          refine ⟨v, h6, e8, ?_, b6, x6⟩
          simp only [List.mem_cons, List.not_mem_nil, or_false] at m8
          rcases m8 with z | z <;> subst z
          · exact tx
          · exact tv.mono (by omega)
        obtain ⟨v8, h6, e8, t8, b6, x6⟩ := dr 6 h5 (B + 1) v6 rfl t6 (b5.mono (by omega))
        obtain ⟨v9, h7, e9, t9, b7, x7⟩ := dr 7 h6 B v7 rfl t7 b6
        obtain ⟨va, ma, ea⟩ := eIdx (G := G) (o := oc G n) (s := CS b j (k + 1 : Nat) r v4 v5 (some v6) (some v7) (some v8) (some v9)) (h := h7) (k := 0) (es := .cons (.cst (.str " and ")) (.cons (.cst (.str " or ")) .nil)) (xs := [.str " and ", .str " or "]) (e := .bin .Sub (.var 3) (.cst (.int 4))) (r := r - 4) rfl (by decide) rfl (by omega) (by show r - 4 < 2; omega)
        have ta : TV 5 va := by
          simp only [List.mem_cons, List.not_mem_nil, or_false] at ma
          rcases ma with z | z <;> subst z <;> exact ⟨_, rfl, by decide +kernel⟩
        obtain ⟨y, ey, ty⟩ := eAdd (eVar (G := G) (o := oc G n) (s := CS b j (k + 1 : Nat) r v4 v5 (some v6) (some v7) (some v8) (some v9)) (h := h7) (i := 8) rfl) ea t8 ta (by omega) (by omega)
        obtain ⟨z, ez, tz⟩ := eAdd ey (eVar (G := G) (o := oc G n) (s := CS b j (k + 1 : Nat) r v4 v5 (some v6) (some v7) (some v8) (some v9)) (i := 9) rfl) ty t9 (by omega) (by omega)
        exact ⟨z, _, R (st _ _ (seq_nx n3 (seq_nx (par2 e6 e7) (seq_nx (ifs_f (shw (decide_eq_false q3) t3) rfl) (seq_nx (par2 e8 e9) (seq_rt (ret_of ez))))))) rfl, tz.mono (by simp only [cL]; omega), b7.keep (HLe.app _ _), (((((x3.trans x4).trans x5)).trans x6).trans x7).trans ((HLe.app _ _).x b)⟩
end
end Pl

set_option linter.all false
set_option autoImplicit false
set_option maxRecDepth 100000
set_option maxHeartbeats 1000000
namespace Pl
open PySem Dv
def xBent : St := (.seq (.par [2, 3] (.cons (.call "_law_take" (.cons (.var 0) (.cons (.bin .Add (.bf .len (.cons (.var 1) .nil)) (.cst (.int 1))) .nil))) (.cons (.call "_law_take" (.cons (.var 0) (.cons (.cst (.int 6)) .nil))) .nil))) (.seq (.asg (.one 4) (.lst (.cons (.cst (.str "and")) (.cons (.cst (.str "or")) (.cons (.cst (.str "not")) (.cons (.cst (.str "(")) (.cons (.cst (.str ")")) (.cons (.cst (.str "=")) (.cons (.cst (.str "<")) (.cons (.cst (.str "a")) (.cons (.cst (.str "7")) (.cons (.cst (.str "")) (.cons (.cst (.str "A")) (.cons (.cst (.str "if")) (.cons (.cst (.str "was")) (.cons (.cst (.str "has")) (.cons (.cst (.str "10")) (.cons (.cst (.str "abcdefghi")) (.cons (.cst (.str ">")) (.cons (.cst (.str "==")) .nil)))))))))))))))))))) (.seq (.ifs (.val (.cmp .Eq (.var 3) (.cst (.int 0)))) (.seq (.ret (.bin .Add (.bin .Add (.slc (.var 1) .noe (.var 2)) (.lst (.cons (.call "_law_of" (.cons (.var 0) (.cons (.var 4) .nil))) .nil))) (.slc (.var 1) (.var 2) .noe))) .skip) .skip) (.seq (.ifs (.val (.cmp .Eq (.var 3) (.cst (.int 1)))) (.seq (.ret (.bin .Add (.slc (.var 1) .noe (.var 2)) (.slc (.var 1) (.bin .Add (.var 2) (.cst (.int 1))) .noe))) .skip) .skip) (.seq (.ifs (.val (.cmp .Eq (.var 3) (.cst (.int 2)))) (.seq (.ret (.bin .Add (.bin .Add (.slc (.var 1) .noe (.var 2)) (.lst (.cons (.call "_law_of" (.cons (.var 0) (.cons (.var 4) .nil))) .nil))) (.slc (.var 1) (.bin .Add (.var 2) (.cst (.int 1))) .noe))) .skip) .skip) (.seq (.ifs (.val (.cmp .Eq (.var 3) (.cst (.int 3)))) (.seq (.ret (.slc (.var 1) .noe (.var 2))) .skip) .skip) (.seq (.ifs (.val (.cmp .Eq (.var 3) (.cst (.int 4)))) (.seq (.asg (.one 5) (.var 1)) (.seq (.for_ [6] (.rng (.cons (.call "_law_take" (.cons (.var 0) (.cons (.cst (.int 14)) .nil))) .nil)) (.seq (.asg (.one 5) (.bin .Add (.bin .Add (.var 5) (.lst (.cons (.call "_law_of" (.cons (.var 0) (.cons (.lst (.cons (.cst (.str "and")) (.cons (.cst (.str "or")) .nil))) .nil))) .nil))) (.slc (.var 1) .noe (.cst (.int 9))))) .skip)) (.seq (.ret (.var 5)) .skip))) .skip) (.seq (.ret (.bin .Add (.bin .Add (.bin .Mult (.lst (.cons (.cst (.str "(")) .nil)) (.call "_law_take" (.cons (.var 0) (.cons (.cst (.int 40)) .nil)))) (.var 1)) (.bin .Mult (.lst (.cons (.cst (.str ")")) .nil)) (.call "_law_take" (.cons (.var 0) (.cons (.cst (.int 40)) .nil)))))) .skip))))))))
def oddEs : Exs := (.cons (.cst (.str "and")) (.cons (.cst (.str "or")) (.cons (.cst (.str "not")) (.cons (.cst (.str "(")) (.cons (.cst (.str ")")) (.cons (.cst (.str "=")) (.cons (.cst (.str "<")) (.cons (.cst (.str "a")) (.cons (.cst (.str "7")) (.cons (.cst (.str "")) (.cons (.cst (.str "A")) (.cons (.cst (.str "if")) (.cons (.cst (.str "was")) (.cons (.cst (.str "has")) (.cons (.cst (.str "10")) (.cons (.cst (.str "abcdefghi")) (.cons (.cst (.str ">")) (.cons (.cst (.str "==")) .nil))))))))))))))))))
def oddWs : List Vv := [.str "and", .str "or", .str "not", .str "(", .str ")", .str "=", .str "<", .str "a", .str "7", .str "", .str "A", .str "if", .str "was", .str "has", .str "10", .str "abcdefghi", .str ">", .str "=="]
def LW (xs : List Vv) : Prop := ∀ v ∈ xs, ∃ w, v = .str w ∧ WdOk w
theorem LW.app {xs ys : List Vv} (a : LW xs) (b : LW ys) : LW (xs ++ ys) := fun v hv => (List.mem_append.mp hv).elim (a v) (b v)
theorem LW.sub {xs ys : List Vv} (a : LW xs) (q : ∀ v ∈ ys, v ∈ xs) : LW ys := fun v hv => a v (q v hv)
theorem LW.cons {w : Str} {xs : List Vv} (a : WdOk w) (b : LW xs) : LW (.str w :: xs) := fun v hv => by
  rcases List.mem_cons.mp hv with q | q
  · exact ⟨w, q, a⟩
  · exact b v q
theorem LW.nil : LW [] := fun v hv => nomatch hv
instance (w : Str) : Decidable (WdOk w) := inferInstanceAs (Decidable (_ ∧ _ ∧ _))
theorem LW.of {ws : List Str} (q : ∀ w ∈ ws, WdOk w) : LW (ws.map .str) := fun v hv => by
  obtain ⟨w, a, rfl⟩ := List.mem_map.mp hv
  exact ⟨w, rfl, q w a⟩
theorem LW.words {xs : List Vv} (a : LW xs) : ∃ ws : List Str, xs = ws.map .str ∧ ∀ w ∈ ws, WdOk w := by
  induction xs with
  | nil => exact ⟨[], rfl, nofun⟩
  | cons v xs ih =>
    obtain ⟨w, rfl, q⟩ := a v List.mem_cons_self
    obtain ⟨ws, rfl, q2⟩ := ih (fun v hv => a v (List.mem_cons_of_mem _ hv))
    exact ⟨w :: ws, rfl, fun u hu => by rcases List.mem_cons.mp hu with z | z; exact z ▸ q; exact q2 u z⟩
theorem odd_lw : LW oddWs := by
  unfold oddWs
  repeat (first | exact LW.nil | refine LW.cons (by decide +kernel) ?_)
theorem cut_sub {α : Type} {xs : List α} {a b : Option Int} : ∀ v ∈ cut xs a b, v ∈ xs := fun v hv => List.mem_of_mem_drop (List.mem_of_mem_take hv)
theorem cut_len {α : Type} {xs : List α} {a b : Option Int} : (cut xs a b).length ≤ xs.length := by
  unfold cut; rw [List.length_take, List.length_drop]; omega
theorem cut_max {α : Type} {xs : List α} : (cut xs none (some 9)).length ≤ 9 := by
  unfold cut
  rw [List.length_take]
  have : HT.sIx xs.length xs.length (some 9) ≤ 9 := by
    show HT.sIx xs.length xs.length (some 9) ≤ 9
    simp [HT.sIx]
    try omega
  omega
section
variable {G : Tx} {n : Nat} {h : VH} {i j b B : Nat} {o : Orc} {s : Sl} {e : Ex} {xs : List Vv} {m : Int}
theorem sl_lst {p : Nat} {lo hi : Option Int} (g : h[p]? = some (.lst xs)) : slice (.ref p) lo hi h = some (.ok (.ref h.length) (h ++ [.lst (cut xs lo hi)])) := by
  simp only [slice, g]
  rfl
/-- an expression that gives a list of words -/
def EL (G : Tx) (o : Orc) (b : Nat) (e : Ex) (s : Sl) (h : VH) (L B : Nat) : Prop := ∃ p ys h', evE G o e s h = some (.ok (.ref p) h') ∧ h'[p]? = some (.lst ys) ∧ LW ys ∧ ys.length ≤ L ∧ HLx b h h' ∧ p ≠ b ∧ Bag h' b B
theorem EL.add {a c : Ex} {L M B' : Nat} (x : EL G o b a s h L B) (y : ∀ h', HLx b h h' → Bag h' b B → EL G o b c s h' M B') (hL : L ≤ 10000) (hM : M ≤ 10000) : EL G o b (.bin .Add a c) s h (L + M) B' := by
  obtain ⟨p, ys, h1, e1, g1, w1, l1, x1, n1, b1⟩ := x
  obtain ⟨q, zs, h2, e2, g2, w2, l2, x2, n2, b2⟩ := y h1 x1 b1
  have lb := lt_bag b2
  exact ⟨h2.length, ys ++ zs, h2 ++ [.lst (ys ++ zs)], e_bin' e1 e2 (b_add' (x2 _ _ n1 g1) g2 (by omega) (by omega)), get_new, w1.app w2, by rw [List.length_append]; omega, (x1.trans x2).trans ((HLe.app _ _).x b), by omega, b2.keep (HLe.app _ _)⟩
theorem EL.var {p : Nat} {L : Nat} (q : s[i]? = some (some (.ref p))) (g : h[p]? = some (.lst xs)) (w : LW xs) (l : xs.length ≤ L) (hb : p ≠ b) (bg : Bag h b B) : EL G o b (.var i) s h L B := ⟨p, xs, h, eVar q, g, w, l, (HLe.refl _).x b, hb, bg⟩
theorem EL.slL {p : Nat} {L : Nat} {k : Int} (q : s[i]? = some (some (.ref p))) (g : h[p]? = some (.lst xs)) (w : LW xs) (l : (cut xs none (some k)).length ≤ L) (bg : Bag h b B) (he : evE G o e s h = some (.ok (.int k) h)) (hk : bnd e (.int k) = some (some k)) : EL G o b (.slc (.var i) .noe e) s h L B := by
  have lb := lt_bag bg
  refine ⟨h.length, cut xs none (some k), h ++ [.lst (cut xs none (some k))], ?_, get_new, w.sub cut_sub, l, (HLe.app _ _).x b, by omega, bg.keep (HLe.app _ _)⟩
  rw [evE, eVar q, Rb_ok, evE, Rb_ok]
  show Rb (evE G o e s h) _ = _
  rw [he, Rb_ok]
  show (match bnd e (.int k) with | none => none | some j => slice (.ref p) none j h) = _
  rw [hk]
  exact sl_lst g
theorem EL.slR {p : Nat} {L : Nat} {k : Int} (q : s[i]? = some (some (.ref p))) (g : h[p]? = some (.lst xs)) (w : LW xs) (l : xs.length ≤ L) (bg : Bag h b B) (he : evE G o e s h = some (.ok (.int k) h)) (hk : bnd e (.int k) = some (some k)) : EL G o b (.slc (.var i) e .noe) s h L B := by
  have lb := lt_bag bg
  refine ⟨h.length, cut xs (some k) none, h ++ [.lst (cut xs (some k) none)], ?_, get_new, w.sub cut_sub, Nat.le_trans cut_len l, (HLe.app _ _).x b, by omega, bg.keep (HLe.app _ _)⟩
  rw [evE, eVar q, Rb_ok, he, Rb_ok]
  show (match bnd e (.int k) with | none => none | some i => Rb (evE G o .noe s h) fun z h3 => match bnd .noe z with | none => none | some j => slice (.ref p) i j h3) = _
  rw [hk]
  exact sl_lst g
theorem EL.one (D : Drw G) (hn : 6 ≤ n) (s0 : s[0]? = some (some (.ref b))) {q : Nat} {h2 : VH} (he : evE G (oc G n) e s h = some (.ok (.ref q) h2)) (hl : HLe h h2) (hj : h2[q]? = some (.lst xs)) (w : LW xs) (bg : Bag h b (B + 1)) (h0 : 0 < xs.length) (h1 : xs.length < 1000000) (hb : q ≠ b) : EL G (oc G n) b (.lst (.cons (.call "_law_of" (.cons (.var 0) (.cons e .nil))) .nil)) s h 1 B := by
  obtain ⟨v, h', e1, m1, b1, x1⟩ := eOf D hn s0 he hl hj bg h0 h1 hb
  have lb := lt_bag b1
  exact ⟨h'.length, [v], h' ++ [.lst [v]], e_lst' (es_cons' e1 es_nil) (by simp), get_new, w.sub (fun u hu => by rw [List.mem_singleton.mp hu]; exact m1), by simp, x1.trans ((HLe.app _ _).x b), by omega, b1.keep (HLe.app _ _)⟩
theorem EL.rep (D : Drw G) (hn : 6 ≤ n) (s0 : s[0]? = some (some (.ref b))) {z : Str} (hz : WdOk z) (bg : Bag h b (B + 1)) : EL G (oc G n) b (.bin .Mult (.lst (.cons (.cst (.str z)) .nil)) (.call "_law_take" (.cons (.var 0) (.cons (.cst (.int 40)) .nil)))) s h 40 B := by
  have el : evE G (oc G n) (.lst (.cons (.cst (.str z)) .nil)) s h = some (.ok (.ref h.length) (h ++ [.lst [.str z]])) := e_lst' (es_cons' rfl es_nil) (by simp)
  have lb := lt_bag bg
  obtain ⟨r, h', e1, r0, r1, b1, x1⟩ := eTake D (n := n) (s := s) (h := h ++ [.lst [.str z]]) (by omega) s0 (e := .cst (.int 40)) rfl (bg.keep (HLe.app _ _)) (by omega) (by omega)
  have g : h'[h.length]? = some (.lst [.str z]) := x1 _ _ (by omega) get_new
  have lb' := lt_bag b1
  obtain ⟨k, rfl⟩ := Int.eq_ofNat_of_zero_le r0
  refine ⟨h'.length, _, _, e_bin' el e1 (b_mul' g (by omega) (by simp)), get_new, fun v hv => ?_, ?_, (((HLe.app _ _).x b).trans x1).trans ((HLe.app _ _).x b), by omega, b1.keep (HLe.app _ _)⟩
  · obtain ⟨l, q1, q2⟩ := List.mem_flatten.mp hv
    rw [(List.mem_replicate.mp q1).2] at q2
    exact ⟨z, List.mem_singleton.mp q2, hz⟩
  · simp; omega
def BS (b j : Nat) (sp w : Int) (O : Nat) (x5 x6 : Option Vv) : Sl := [some (.ref b), some (.ref j), some (.int sp), some (.int w), some (.ref O), x5, x6]
def w0 : Ex := .bin .Add (.bin .Add (.slc (.var 1) .noe (.var 2)) (.lst (.cons (.call "_law_of" (.cons (.var 0) (.cons (.var 4) .nil))) .nil))) (.slc (.var 1) (.var 2) .noe)
def w1 : Ex := .bin .Add (.slc (.var 1) .noe (.var 2)) (.slc (.var 1) (.bin .Add (.var 2) (.cst (.int 1))) .noe)
def w2 : Ex := .bin .Add (.bin .Add (.slc (.var 1) .noe (.var 2)) (.lst (.cons (.call "_law_of" (.cons (.var 0) (.cons (.var 4) .nil))) .nil))) (.slc (.var 1) (.bin .Add (.var 2) (.cst (.int 1))) .noe)
def w3 : Ex := .slc (.var 1) .noe (.var 2)
def w4b : St := (.seq (.asg (.one 5) (.bin .Add (.bin .Add (.var 5) (.lst (.cons (.call "_law_of" (.cons (.var 0) (.cons (.lst (.cons (.cst (.str "and")) (.cons (.cst (.str "or")) .nil))) .nil))) .nil))) (.slc (.var 1) .noe (.cst (.int 9))))) .skip)
def w4 : St := (.seq (.asg (.one 5) (.var 1)) (.seq (.for_ [6] (.rng (.cons (.call "_law_take" (.cons (.var 0) (.cons (.cst (.int 14)) .nil))) .nil)) w4b) (.seq (.ret (.var 5)) .skip)))
def w5 : Ex := .bin .Add (.bin .Add (.bin .Mult (.lst (.cons (.cst (.str "(")) .nil)) (.call "_law_take" (.cons (.var 0) (.cons (.cst (.int 40)) .nil)))) (.var 1)) (.bin .Mult (.lst (.cons (.cst (.str ")")) .nil)) (.call "_law_take" (.cons (.var 0) (.cons (.cst (.int 40)) .nil))))
def tW (k : Int) : Tt := .val (.cmp .Eq (.var 3) (.cst (.int k)))
def bnt1 : St := (.par [2, 3] (.cons (.call "_law_take" (.cons (.var 0) (.cons (.bin .Add (.bf .len (.cons (.var 1) .nil)) (.cst (.int 1))) .nil))) (.cons (.call "_law_take" (.cons (.var 0) (.cons (.cst (.int 6)) .nil))) .nil)))
theorem bent_eq : xBent = .seq bnt1 (.seq (.asg (.one 4) (.lst oddEs)) (.seq (.ifs (tW 0) (.seq (.ret w0) .skip) .skip) (.seq (.ifs (tW 1) (.seq (.ret w1) .skip) .skip) (.seq (.ifs (tW 2) (.seq (.ret w2) .skip) .skip) (.seq (.ifs (tW 3) (.seq (.ret w3) .skip) .skip) (.seq (.ifs (tW 4) w4 .skip) (.seq (.ret w5) .skip))))))) := rfl
/-- what a return of words gives -/
def RL (b : Nat) (h : VH) (L B : Nat) (r : Option Sr) : Prop := ∃ p ys h', r = some (.rt (.ref p) h') ∧ h'[p]? = some (.lst ys) ∧ LW ys ∧ ys.length ≤ L ∧ HLx b h h' ∧ p ≠ b ∧ Bag h' b B
theorem EL.ret {L : Nat} (x : EL G o b e s h L B) : RL b h L B (evS G o (.seq (.ret e) .skip) s h) := by
  obtain ⟨p, ys, h', e1, r⟩ := x
  exact ⟨p, ys, h', seq_skip (ret_of e1), r⟩
theorem w4_ok (D : Drw G) (hn : 10 ≤ n) {sp w : Int} {O : Nat} {x5 x6 : Option Vv} (hj : h[j]? = some (.lst xs)) (hw : LW xs) (hx : xs.length ≤ 1000) (hjb : j ≠ b) (bg : Bag h b (B + 14)) : RL b h (xs.length + 130) B (evS G (oc G n) w4 (BS b j sp w O x5 x6) h) := by
  have e0 : evS G (oc G n) (.asg (.one 5) (.var 1)) (BS b j sp w O x5 x6) h = some (.nx (BS b j sp w O (some (.ref j)) x6) h) := asg_of (eVar (i := 1) rfl)
  obtain ⟨r, h1, e1, r0, r1, b1, x1⟩ := eTake D (n := n) (s := BS b j sp w O (some (.ref j)) x6) (h := h) (by omega) (ib := 0) (b := b) (B := B + 13) rfl (e := .cst (.int 14)) rfl bg (by omega) (by omega)
  have rN : rngOf [.int r] = some ⟨rngItems 0 r 1, none, [], false, false⟩ := if_pos ⟨by omega, by omega⟩
  have ln : (rngItems 0 r 1).length ≤ 13 := by
    unfold rngItems
    rw [List.length_map, List.length_range, if_pos (by omega)]
    simp
    omega
  let I : Nat → Sl → VH → Prop := fun k sl hh => (∃ p x6 ys, sl = BS b j sp w O (some (.ref p)) x6 ∧ hh[p]? = some (.lst ys) ∧ LW ys ∧ ys.length + 10 * k ≤ xs.length + 130 ∧ p ≠ b) ∧ HLx b h hh ∧ Bag hh b (B + k)
  obtain ⟨s', h', e2, ⟨p, y6, ys, rfl, g2, w2', l2, n2⟩, x2, b2⟩ := for_inv' (I := I) (bd := evS G (oc G n) w4b) (tg := [6]) (kp := fun _ => true) (fun _ => rfl) (rngItems 0 r 1) (BS b j sp w O (some (.ref j)) x6) h1 (fun k it sl hh hm ⟨⟨p, y6, ys, e, g, lw, l, np⟩, xx, bb⟩ => by
    subst e
    obtain ⟨i, rfl, _⟩ := rng_mem' hm
    refine ⟨BS b j sp w O (some (.ref p)) (some (.int i)), rfl, ?_⟩
    have lb := lt_bag bb
    have E : EL G (oc G n) b (.bin .Add (.bin .Add (.var 5) (.lst (.cons (.call "_law_of" (.cons (.var 0) (.cons (.lst (.cons (.cst (.str "and")) (.cons (.cst (.str "or")) .nil))) .nil))) .nil))) (.slc (.var 1) .noe (.cst (.int 9)))) (BS b j sp w O (some (.ref p)) (some (.int i))) hh (ys.length + 1 + 9) (B + k) := by
      refine EL.add (B := B + k) (EL.add (B := B + k + 1) (EL.var (i := 5) rfl g lw (Nat.le_refl _) np bb) (fun h2 y2 c2 => ?_) (by omega) (by omega)) (fun h2 y2 c2 => ?_) (by omega) (by omega)
      · have lb2 := lt_bag c2
        exact EL.one D (by omega) rfl (e := .lst (.cons (.cst (.str "and")) (.cons (.cst (.str "or")) .nil))) (xs := [.str "and", .str "or"]) (e_lst' (es_cons' rfl (es_cons' rfl es_nil)) (by simp)) (HLe.app _ _) get_new (LW.cons (by decide +kernel) (LW.cons (by decide +kernel) LW.nil)) c2 (by simp) (by simp) (by omega)
      · exact EL.slL (i := 1) (p := j) (xs := xs) rfl (y2 _ _ hjb (xx _ _ hjb hj)) hw cut_max c2 rfl rfl
    obtain ⟨q, zs, h3, e3, g3, w3, l3, x3, n3, b3⟩ := E
    exact ⟨_, h3, .inl (seq_skip (asg_of e3)), ⟨q, some (.int i), zs, rfl, g3, w3, by omega, n3⟩, xx.trans x3, b3⟩) ⟨⟨j, x6, xs, rfl, x1 _ _ hjb hj, hw, by omega, hjb⟩, x1, b1.mono (by omega)⟩
  have ev : evEs G (oc G n) (.cons (.call "_law_take" (.cons (.var 0) (.cons (.cst (.int 14)) .nil))) .nil) (BS b j sp w O (some (.ref j)) x6) h = some (.ok [.int r] h1) := es_cons' e1 es_nil
  exact ⟨p, ys, h', seq_nx e0 (seq_nx (for_rng' ev rN e2) (seq_skip (ret_of (eVar (i := 5) rfl)))), g2, w2', by omega, x2, n2, b2.mono (by omega)⟩
theorem seq_rt' {a c : St} {r : Option Sr} {L : Nat} (k : evS G o a s h = r) (q : RL b h L B r) : evS G o (.seq a c) s h = r := by
  obtain ⟨p, ys, h', e, _⟩ := q
  subst e
  exact seq_rt k
theorem bent_ok (D : Drw G) (hbt : G.fns "_law_bent" = some ⟨2, 7, xBent, []⟩) (hn : 12 ≤ n) (hj : h[j]? = some (.lst xs)) (hw : LW xs) (hx : xs.length ≤ 1000) (hjb : j ≠ b) (bg : Bag h b (B + 16)) :
    ∃ p ys h', run G n "_law_bent" [.ref b, .ref j] h = some (.ok (.ref p) h') ∧ h'[p]? = some (.lst ys) ∧ LW ys ∧ ys.length ≤ 2 * xs.length + 130 ∧ HLx b h h' ∧ p ≠ b ∧ Bag h' b B := by
  have hs : seqOf G h (.ref j) = some xs := by
    have g : obj G h (.ref j) = some (.lst xs) := hj
    unfold seqOf
    rw [g]
  have he : evE G (oc G n) (.bin .Add (.bf .len (.cons (.var 1) .nil)) (.cst (.int 1))) [some (.ref b), some (.ref j), none, none, none, none, none] h = some (.ok (.int ((xs.length : Int) + 1)) h) := by
    have c : callb G .len [.ref j] h = some (.ok (.int xs.length) h) := by
      show (seqOf G h (.ref j)).bind _ = _
      rw [hs]; rfl
    refine e_bin' (x := .int xs.length) (y := .int 1) (h1 := h) (h2 := h) ?_ rfl rfl
    rw [evE, es_cons' (eVar (i := 1) rfl) es_nil, Rb_ok, c]
  obtain ⟨sp, h1, e1, _, _, b1, x1⟩ := eTake D (n := n) (by omega) (ib := 0) (b := b) rfl he (bg.mono (B' := B + 14 + 1 + 1) (by omega)) (by omega) (by omega)
  obtain ⟨w, h2, e2, _, _, b2, x2⟩ := eTake D (n := n) (s := [some (.ref b), some (.ref j), none, none, none, none, none]) (by omega) (ib := 0) (b := b) (e := .cst (.int 6)) rfl rfl b1 (by omega) (by omega)
  have e3 : evS G (oc G n) (.asg (.one 4) (.lst oddEs)) [some (.ref b), some (.ref j), some (.int sp), some (.int w), none, none, none] h2 = some (.nx (BS b j sp w h2.length none none) (h2 ++ [.lst oddWs])) := asg_of (e_lst' rfl (by decide))
  have lb := lt_bag b2
  have x12 := x1.trans x2
  have hj3 : (h2 ++ [Ho.lst oddWs])[j]? = some (.lst xs) := get_app (x12 _ _ hjb hj)
  have ho3 : (h2 ++ [Ho.lst oddWs])[h2.length]? = some (.lst oddWs) := get_new
  have b3 : Bag (h2 ++ [.lst oddWs]) b (B + 14) := b2.keep (HLe.app _ _)
  have x3 : HLx b h (h2 ++ [.lst oddWs]) := x12.trans ((HLe.app _ _).x b)
  have nO : h2.length ≠ b := by omega
  generalize hh3 : h2 ++ [Ho.lst oddWs] = h3 at e3 hj3 ho3 b3 x3
  generalize h2.length = O at e3 ho3 nO
  have t : ∀ k : Int, evT G (oc G n) (tW k) (BS b j sp w O none none) h3 = some (.ok (decide (w = k)) h3) := fun k => by
    refine val_of ?_
    simp only [evE, BS, List.getElem?_cons_succ, List.getElem?_cons_zero, Rb_ok, cmp_ii]
  have fin : ∀ r, evS G (oc G n) (.seq (.ifs (tW 0) (.seq (.ret w0) .skip) .skip) (.seq (.ifs (tW 1) (.seq (.ret w1) .skip) .skip) (.seq (.ifs (tW 2) (.seq (.ret w2) .skip) .skip) (.seq (.ifs (tW 3) (.seq (.ret w3) .skip) .skip) (.seq (.ifs (tW 4) w4 .skip) (.seq (.ret w5) .skip)))))) (BS b j sp w O none none) h3 = r → RL b h3 (2 * xs.length + 130) B r → ∃ p ys h', run G n "_law_bent" [.ref b, .ref j] h = some (.ok (.ref p) h') ∧ h'[p]? = some (.lst ys) ∧ LW ys ∧ ys.length ≤ 2 * xs.length + 130 ∧ HLx b h h' ∧ p ≠ b ∧ Bag h' b B := fun r er ⟨p, ys, h', q, g, lw, l, x, np, bb⟩ => by
    subst q
    exact ⟨p, ys, h', run_ev hbt (by omega) rfl (s := [some (.ref b), some (.ref j), none, none, none, none, none]) rfl (r := some (.rt (.ref p) h')) (seq_nx (par2 e1 e2) (seq_nx e3 er)) rfl, g, lw, l, x3.trans x, np, bb⟩
  have mono : ∀ {L B' : Nat} {r}, RL b h3 L B' r → L ≤ 2 * xs.length + 130 → B ≤ B' → RL b h3 (2 * xs.length + 130) B r := fun ⟨p, ys, h', q, g, lw, l, x, np, bb⟩ z1 z2 => ⟨p, ys, h', q, g, lw, by omega, x, np, bb.mono z2⟩
  have sL : ∀ h' B', HLx b h3 h' → Bag h' b B' → EL G (oc G n) b (.slc (.var 1) .noe (.var 2)) (BS b j sp w O none none) h' xs.length B' := fun h' B' x bb => EL.slL (i := 1) (p := j) (xs := xs) (k := sp) rfl (x _ _ hjb hj3) hw cut_len bb (eVar (i := 2) rfl) rfl
  have sR : ∀ h' B', HLx b h3 h' → Bag h' b B' → EL G (oc G n) b (.slc (.var 1) (.var 2) .noe) (BS b j sp w O none none) h' xs.length B' := fun h' B' x bb => EL.slR (i := 1) (p := j) (xs := xs) (k := sp) rfl (x _ _ hjb hj3) hw (Nat.le_refl _) bb (eVar (i := 2) rfl) rfl
  have sR1 : ∀ h' B', HLx b h3 h' → Bag h' b B' → EL G (oc G n) b (.slc (.var 1) (.bin .Add (.var 2) (.cst (.int 1))) .noe) (BS b j sp w O none none) h' xs.length B' := fun h' B' x bb => EL.slR (i := 1) (p := j) (xs := xs) (k := sp + 1) rfl (x _ _ hjb hj3) hw (Nat.le_refl _) bb rfl rfl
  have s1 : ∀ h' B', HLx b h3 h' → Bag h' b (B' + 1) → EL G (oc G n) b (.lst (.cons (.call "_law_of" (.cons (.var 0) (.cons (.var 4) .nil))) .nil)) (BS b j sp w O none none) h' 1 B' := fun h' B' x bb => EL.one D (by omega) rfl (e := .var 4) (eVar (i := 4) rfl) (HLe.refl _) (x _ _ nO ho3) odd_lw bb (by decide) (by decide) nO
  have xr := (HLe.refl h3).x b
  by_cases q0 : w = 0
  · have E : EL G (oc G n) b w0 (BS b j sp w O none none) h3 (xs.length + 1 + xs.length) (B + 13) := ((sL _ _ xr b3).add (fun h' x bb => s1 h' (B + 13) x bb) (by omega) (by omega)).add (fun h' x bb => sR h' _ x bb) (by omega) (by omega)
    exact fin _ (seq_rt' (ifs_t (shw (decide_eq_true q0) (t 0)) rfl) E.ret) (mono E.ret (by omega) (by omega))
  have n0 : evS G (oc G n) (.ifs (tW 0) (.seq (.ret w0) .skip) .skip) (BS b j sp w O none none) h3 = some (.nx (BS b j sp w O none none) h3) := ifs_f (shw (decide_eq_false q0) (t 0)) rfl
  by_cases q1 : w = 1
  · have E : EL G (oc G n) b w1 (BS b j sp w O none none) h3 (xs.length + xs.length) (B + 14) := (sL _ _ xr b3).add (fun h' x bb => sR1 h' _ x bb) (by omega) (by omega)
    exact fin _ (seq_nx n0 (seq_rt' (ifs_t (shw (decide_eq_true q1) (t 1)) rfl) E.ret)) (mono E.ret (by omega) (by omega))
  have n1 : evS G (oc G n) (.ifs (tW 1) (.seq (.ret w1) .skip) .skip) (BS b j sp w O none none) h3 = some (.nx (BS b j sp w O none none) h3) := ifs_f (shw (decide_eq_false q1) (t 1)) rfl
  by_cases q2 : w = 2
  · have E : EL G (oc G n) b w2 (BS b j sp w O none none) h3 (xs.length + 1 + xs.length) (B + 13) := ((sL _ _ xr b3).add (fun h' x bb => s1 h' (B + 13) x bb) (by omega) (by omega)).add (fun h' x bb => sR1 h' _ x bb) (by omega) (by omega)
    exact fin _ (seq_nx n0 (seq_nx n1 (seq_rt' (ifs_t (shw (decide_eq_true q2) (t 2)) rfl) E.ret))) (mono E.ret (by omega) (by omega))
  have n2 : evS G (oc G n) (.ifs (tW 2) (.seq (.ret w2) .skip) .skip) (BS b j sp w O none none) h3 = some (.nx (BS b j sp w O none none) h3) := ifs_f (shw (decide_eq_false q2) (t 2)) rfl
  by_cases q3 : w = 3
  · have E : EL G (oc G n) b w3 (BS b j sp w O none none) h3 xs.length (B + 14) := sL _ _ xr b3
    exact fin _ (seq_nx n0 (seq_nx n1 (seq_nx n2 (seq_rt' (ifs_t (shw (decide_eq_true q3) (t 3)) rfl) E.ret)))) (mono E.ret (by omega) (by omega))
  have n3 : evS G (oc G n) (.ifs (tW 3) (.seq (.ret w3) .skip) .skip) (BS b j sp w O none none) h3 = some (.nx (BS b j sp w O none none) h3) := ifs_f (shw (decide_eq_false q3) (t 3)) rfl
  by_cases q4 : w = 4
  · have E := w4_ok (G := G) (n := n) (b := b) (j := j) (B := B) (h := h3) (sp := sp) (w := w) (O := O) (x5 := none) (x6 := none) D (by omega) hj3 hw hx hjb b3
    exact fin _ (seq_nx n0 (seq_nx n1 (seq_nx n2 (seq_nx n3 (seq_rt' (ifs_t (shw (decide_eq_true q4) (t 4)) rfl) E))))) (mono E (by omega) (by omega))
  have n4 : evS G (oc G n) (.ifs (tW 4) w4 .skip) (BS b j sp w O none none) h3 = some (.nx (BS b j sp w O none none) h3) := ifs_f (shw (decide_eq_false q4) (t 4)) rfl
  have E : EL G (oc G n) b w5 (BS b j sp w O none none) h3 (40 + xs.length + 40) (B + 12) := ((EL.rep D (by omega) rfl (z := "(") (by decide +kernel) (b3.mono (B' := B + 13 + 1) (by omega))).add (fun h' x bb => EL.var (i := 1) (p := j) rfl (x _ _ hjb hj3) hw (Nat.le_refl _) hjb bb) (by omega) (by omega)).add (fun h' x bb => EL.rep D (by omega) rfl (z := ")") (by decide +kernel) bb) (by omega) (by omega)
  exact fin _ (seq_nx n0 (seq_nx n1 (seq_nx n2 (seq_nx n3 (seq_nx n4 rfl))))) (mono E.ret (by omega) (by omega))
end
end Pl

set_option linter.all false
set_option autoImplicit false
set_option maxRecDepth 100000
set_option maxHeartbeats 1000000
namespace Pl
open PySem Dv
structure L02 (G : Tx) : Prop where
  rdr : Rdr G
  drw : Drw G
  cond : G.fns "_law_condition" = some ⟨3, 10, xCond, []⟩
  name : G.fns "_law_is_name" = some ⟨1, 3, xIsName, []⟩
  place : G.fns "_law_place" = some ⟨1, 5, xPlace, []⟩
  bent : G.fns "_law_bent" = some ⟨2, 7, xBent, []⟩
  outc : G.fns "_law_outcome" = some ⟨1, 2, xOutC, []⟩
  fp : fldX G "BadCondition" "place" = true
  inI : G.clsI.contains "Condition" = true
  inL : G.clsL.contains "Condition" = true
section
variable {G : Tx} {n : Nat} {h h1 h2 : VH} {i j b B : Nat} {o : Orc} {s : Sl} {e : Ex} {xs : List Vv} {m : Int} {ws : List Str}
theorem sh_all' {l : List PyData} (q : ∀ d ∈ l, SeqAt.shaped d = true ∧ d.depth = 0) : SeqAt.shaped (.list l) = true ∧ SeqAt.shaped (.tuple l) = true := by
  have c : PyData.canLayAll0 l = true ∧ PyData.depthAll l = 0 := by
    induction l with
    | nil => exact ⟨rfl, rfl⟩
    | cons d l ih =>
      obtain ⟨i1, i2⟩ := ih fun x hx => q x (List.mem_cons_of_mem _ hx)
      obtain ⟨q1, q2⟩ := q d List.mem_cons_self
      refine ⟨?_, ?_⟩
      · show (d.canLay0 && PyData.canLayAll0 l) = true
        rw [i1, SeqAt.canLay_of_shaped q1]; rfl
      · show max d.depth (PyData.depthAll l) = 0
        rw [q2, i2]; rfl
  unfold SeqAt.shaped
  simp [PyData.canLay0, PyData.depth, c.1, c.2]
theorem mapM_str {k : Nat} : ∀ ws : List Str, (ws.map Vv.str).mapM (dat G h k) = some (ws.map PyData.str)
  | [] => rfl
  | w :: r => by
    rw [List.map_cons, List.mapM_cons, mapM_str r]
    cases k <;> rfl
theorem ne_nil (hj : h[j]? = some (.lst (ws.map .str))) (hw : ∀ w ∈ ws, WdOk w) : evE G o (.lst .nil) s h = some (.ok (.ref h.length) (h ++ [.lst []])) ∧ cmpoF G o .NotEq (.ref j) (.ref h.length) (h ++ [.lst []]) = some (.ok (.bl (!ws.isEmpty)) (h ++ [.lst []])) := by
  refine ⟨rfl, ?_⟩
  have g1 : (h ++ [Ho.lst []])[j]? = some (.lst (ws.map .str)) := get_app hj
  have g2 : (h ++ [Ho.lst []])[h.length]? = some (.lst []) := get_new
  have d1 : dat G (h ++ [.lst []]) 8 (.ref j) = some (.list (ws.map PyData.str)) := by
    simp only [dat, g1, mapM_str, Option.map_some]
  have d2 : dat G (h ++ [.lst []]) 8 (.ref h.length) = some (.list []) := by
    simp only [dat, g2]; rfl
  have e1 := eqd_str (G := G) d1 d2 (sh_all' (fun d hd => by
    obtain ⟨w, q, rfl⟩ := List.mem_map.mp hd
    exact ⟨(hw w q).1, rfl⟩)).1 rfl
  have ob : obj G (h ++ [.lst []]) (.ref j) = some (.lst (ws.map .str)) := g1
  unfold cmpoF
  rw [ob]
  simp only [cmpop, e1]
  cases ws <;> rfl
theorem eq_tup {op : CmpOp} {q : Int} (hi : h[i]? = some (.tup [.int q])) (hop : op = .Eq ∨ op = .NotEq) {f : Ex} (hf : evE G o f s h = some (.ok (.int q) h)) : evE G o (.tup (.cons f .nil)) s h = some (.ok (.ref h.length) (h ++ [.tup [.int q]])) ∧ cmpoF G o op (.ref i) (.ref h.length) (h ++ [.tup [.int q]]) = some (.ok (.bl (op == .Eq)) (h ++ [.tup [.int q]])) := by
  refine ⟨e_tup' (es_cons' hf es_nil) (by simp), ?_⟩
  have g1 : (h ++ [Ho.tup [.int q]])[i]? = some (.tup [.int q]) := get_app hi
  have g2 : (h ++ [Ho.tup [.int q]])[h.length]? = some (.tup [.int q]) := get_new
  have d1 : dat G (h ++ [.tup [.int q]]) 8 (.ref i) = some (.tuple [.int q]) := by
    simp only [dat, g1]; rfl
  have d2 : dat G (h ++ [.tup [.int q]]) 8 (.ref h.length) = some (.tuple [.int q]) := by
    simp only [dat, g2]; rfl
  have e1 := eqd_str (G := G) d1 d2 (sh_all' (fun d hd => by rw [List.mem_singleton.mp hd]; exact ⟨rfl, rfl⟩)).2 (sh_all' (fun d hd => by rw [List.mem_singleton.mp hd]; exact ⟨rfl, rfl⟩)).2
  have e2 : PyData.eqv (.tuple [.int q]) (.tuple [.int q]) = true := by simp [PyData.eqv, PyData.eqvAll]
  rw [e2] at e1
  have ob : obj G (h ++ [.tup [.int q]]) (.ref i) = some (.tup [.int q]) := g1
  unfold cmpoF
  rw [ob]
  rcases hop with z | z <;> subst z <;> simp only [cmpop, e1] <;> rfl
/-- a condition's text -/
theorem sto_ok (D : Rdr G) (hn : 6 ≤ n) {z : Str} {u : Vv} (hi : h[i]? = some (.ins "Condition" [("own_text", .str z), ("own_tree", u)])) : stoF G (oc G n) (.ref i) h = some (.ok (.str z) h) := by
  have ob : obj G h (.ref i) = some (.ins "Condition" [("own_text", .str z), ("own_tree", u)]) := hi
  have k : run G (n - 2) "Condition.__str__" [.ref i] h = some (.ok (.str z) h) := by
    refine run_ev D.cStr (by omega) rfl (s := [some (.ref i)]) rfl (r := some (.rt (.str z) h)) (seq_rt (ret_of ?_)) rfl
    have g : getattr G (oc G (n - 2)) (.ref i) "own_text" h = some (.ok (.str z) h) := by
      have : ([("own_text", Vv.str z), ("own_tree", u)] : List (Str × Vv)).lookup ("own_text" : Str) = some (.str z) := rfl
      simp [getattr, ob, D.fT, this, ok1]
    simp only [evE, evEs, List.getElem?_cons_zero, Rb_ok, g]
    rfl
  unfold stoF
  rw [ob]
  have ms : methOf G "Condition" "__str__" = some ("Condition.__str__" : Str) := D.mcStr
  simp only [ms, orc_call2, call_of D.cStr rfl, k]
theorem ne_str {op : CmpOp} {z : Str} (hop : op = .Eq ∨ op = .NotEq) (hz : SeqAt.shaped (.str z) = true) : cmpoF G o op (.str z) (.str z) h = some (.ok (.bl (op == .Eq)) h) := by
  have e1 := eqd_str (G := G) (h := h) (v := .str z) (u := .str z) (d := .str z) (e := .str z) rfl rfl hz hz
  have e2 : PyData.eqv (.str z) (.str z) = true := by simp [PyData.eqv]
  rw [e2] at e1
  have ob : obj G h (.str z) = none := rfl
  unfold cmpoF
  rw [ob]
  rcases hop with q | q <;> subst q <;> simp only [cmpop, e1] <;> rfl
/-- what is due for some words -/
def due (ws : List Str) : Int := if ws.isEmpty then 0 else au ws .beg 0 0
theorem sok {z : Str} (q : SeqAt.shaped (.str z) = true) : ∀ c ∈ z.cps.toList, c < 1114112 := by
  have q2 := SeqAt.canLay_of_shaped q
  have q3 : z.cps.all (· < 0x110000) = true := q2
  intro c hc
  rw [← Array.all_toList, List.all_eq_true] at q3
  exact of_decide_eq_true (q3 c hc)
theorem shz {z : Str} (q : ∀ c ∈ z.cps.toList, c < 1114112) : SeqAt.shaped (.str z) = true := by
  have q3 : z.cps.all (· < 0x110000) = true := by
    rw [← Array.all_toList, List.all_eq_true]
    exact fun c hc => decide_eq_true (q c hc)
  show (z.cps.all (· < 0x110000) && _) = true
  rw [q3]; rfl
theorem join_mem {c : Nat} : ∀ {ws : List Str}, c ∈ (Str.join sp ws).cps.toList → c = 32 ∨ ∃ w ∈ ws, c ∈ w.cps.toList
  | [], q => nomatch q
  | [w], q => .inr ⟨w, List.mem_singleton.mpr rfl, q⟩
  | w :: v :: r, q => by
    have e : (Str.join sp (w :: v :: r)).cps.toList = (w.cps.toList ++ sp.cps.toList) ++ (Str.join sp (v :: r)).cps.toList := by
      show (w ++ sp ++ Str.join sp (v :: r)).cps.toList = _
      have e1 : (w ++ sp ++ Str.join sp (v :: r)).cps.toList = (w ++ sp).cps.toList ++ (Str.join sp (v :: r)).cps.toList := TL.tl_append _ _
      have e2 : (w ++ sp).cps.toList = w.cps.toList ++ sp.cps.toList := TL.tl_append _ _
      rw [e1, e2]
    rw [e] at q
    rcases List.mem_append.mp q with q | q
    · rcases List.mem_append.mp q with q | q
      · exact .inr ⟨w, List.mem_cons_self, q⟩
      · exact .inl (List.mem_singleton.mp (show c ∈ [32] from q))
    · rcases join_mem q with q | ⟨x, q1, q2⟩
      · exact .inl q
      · exact .inr ⟨x, List.mem_cons_of_mem _ q1, q2⟩
theorem mem_join {c : Nat} : ∀ {ws : List Str} {w : Str}, w ∈ ws → c ∈ w.cps.toList → c ∈ (Str.join sp ws).cps.toList
  | [], w, q, _ => nomatch q
  | [x], w, q, k => by rw [List.mem_singleton.mp q] at k; exact k
  | x :: v :: r, w, q, k => by
    have e : (Str.join sp (x :: v :: r)).cps.toList = (x ++ sp).cps.toList ++ (Str.join sp (v :: r)).cps.toList := TL.tl_append (x ++ sp) _
    have e2 : (x ++ sp).cps.toList = x.cps.toList ++ sp.cps.toList := TL.tl_append _ _
    rw [e, e2]
    rcases List.mem_cons.mp q with z | z
    · subst z; exact List.mem_append_left _ (List.mem_append_left _ k)
    · exact List.mem_append_right _ (mem_join z k)
theorem join_sh (hw : ∀ w ∈ ws, WdOk w) : SeqAt.shaped (.str (Txt.join sp ws)) = true := by
  rw [TL.join_eq]
  refine shz fun c hc => ?_
  rcases join_mem hc with q | ⟨w, q1, q2⟩
  · omega
  · exact sok (hw w q1).1 c q2
theorem join_len (hw : ∀ w ∈ ws, WdOk w) (hl : ws.length ≤ 1000) : (ws.map (·.length)).sum + ws.length * sp.length ≤ 2000000 ∧ (Txt.join sp ws).length ≤ 2000000 := by
  have q : ∀ l : List Str, (∀ w ∈ l, WdOk w) → (l.map (·.length)).sum ≤ l.length * 1000 := by
    intro l hl
    induction l with
    | nil => exact Nat.le_refl _
    | cons w r ih =>
      have := ih fun x hx => hl x (List.mem_cons_of_mem _ hx)
      have := (hl w List.mem_cons_self).2.1
      simp only [List.map_cons, List.sum_cons, List.length_cons]
      omega
  have q1 := q ws hw
  have q2 : sp.length = 1 := rfl
  have q3 := StrLaws.join_length_le sp ws
  rw [← TL.join_eq] at q3
  rw [q2] at q3 ⊢
  omega
/-- the words of a text -/
theorem split_lw {L : Nat} {z : Str} (t : Tx2 L z) (hL : L ≤ 900) : LW ((Txt.split z sp).map .str) ∧ (Txt.split z sp).length ≤ L + 2 ∧ Txt.split z sp ≠ [] := by
  refine ⟨LW.of fun w hm => ⟨shz fun c hc => t.2 c ?_, ?_, StrLaws.split_free z 32 w hm⟩, ?_, ?_⟩
  · have e := StrLaws.join_split z sp
    rw [← e]
    exact mem_join hm hc
  · have := PyProof.Rows.part_short hm
    have := t.1
    omega
  · have := PyProof.Rows.split_le z sp
    have := t.1
    omega
  · intro q
    have := PyProof.Rows.split_pos z sp
    rw [q] at this
    exact absurd this (by decide)
/-- the outcome of words that are joined -/
theorem out_ok (D : L02 G) (hn : 310 ≤ n) (hw : ∀ w ∈ ws, WdOk w) (hl : ws.length ≤ 1000) : ∃ i h', run G n "_law_outcome" [.str (Txt.join sp ws)] h = some (.ok (.ref i) h') ∧ HLe h h' ∧
    ((0 ≤ due ws ∧ h'[i]? = some (.tup [.int (due ws)])) ∨ (due ws = -1 ∧ ∃ u, h'[i]? = some (.ins "Condition" [("own_text", .str (Txt.join sp ws)), ("own_tree", u)]))) := by
  have go : ∀ vs : List Str, vs ≠ [] → (∀ w ∈ vs, WdOk w) → Txt.join sp vs = Txt.join sp ws → au vs .beg 0 0 = due ws → ∃ i h', run G n "_law_outcome" [.str (Txt.join sp ws)] h = some (.ok (.ref i) h') ∧ HLe h h' ∧
    ((0 ≤ due ws ∧ h'[i]? = some (.tup [.int (due ws)])) ∨ (due ws = -1 ∧ ∃ u, h'[i]? = some (.ins "Condition" [("own_text", .str (Txt.join sp ws)), ("own_tree", u)]))) := fun vs hne hv ej ed => by
    have jl := (join_len hw hl).2
    rcases parse_ok (G := G) (n := n - 2) (h := h) (ws := vs) D.rdr (by omega) hne hv (by rw [ej]; omega) with ⟨a, v, h1, e, l⟩ | ⟨q, h1, a, e, l⟩
    · rw [ej] at e
      obtain ⟨i, h', e2, l2, g⟩ := outc_ok D.rdr D.outc (n := n) (by omega) e l
      exact ⟨i, h', e2, l2, .inr ⟨by rw [← ed, a], v, g⟩⟩
    · rw [ej] at e
      obtain ⟨i, h', e2, l2, g⟩ := outc_ex D.rdr D.outc (n := n) (by omega) e l D.fp
      exact ⟨i, h', e2, l2, .inl ⟨by rw [← ed, a]; omega, by rw [← ed, a]; exact g⟩⟩
  cases ws with
  | nil => exact go [""] (by simp) (fun w hm => by rw [List.mem_singleton.mp hm]; decide +kernel) rfl (by decide +kernel)
  | cons w r => exact go (w :: r) (by simp) hw rfl rfl
theorem bjoin (hj : h[j]? = some (.lst (ws.map .str))) (hw : ∀ w ∈ ws, WdOk w) (hl : ws.length ≤ 1000) {k : Nat} (hs : s[k]? = some (some (.ref j))) : evE G o (.bm (.cst (.str " ")) .join (.cons (.var k) .nil)) s h = some (.ok (.str (Txt.join sp ws)) h) := by
  have t : ∀ ws : List Str, txts (ws.map .str) = some ws := by
    intro ws
    induction ws with
    | nil => rfl
    | cons w r ih => show (txts (r.map .str)).map (w :: ·) = _; rw [ih]; rfl
  have hs2 : seqOf G h (.ref j) = some (ws.map .str) := by
    have g : obj G h (.ref j) = some (.lst (ws.map .str)) := hj
    unfold seqOf
    rw [g]
  have jl := (join_len hw hl).1
  have bm : bmeth G (.str sp) .join [.ref j] h = some (.ok (.str (Txt.join sp ws)) h) := by
    show (seqOf G h (.ref j)).bind _ = _
    rw [hs2]
    show (txts _).bind _ = _
    rw [t ws]
    show (if _ then _ else _) = _
    rw [if_pos (by have : sz = 16777216 := rfl; omega)]
    rfl
  rw [evE, evE, Rb_ok]
  show (if true = true then Rb (evEs G o (.cons (.var k) .nil) s h) fun vs h2 => bmeth G (.str sp) .join vs h2 else none) = _
  rw [if_pos rfl, es_cons' (eVar hs) es_nil, Rb_ok, bm]
end
end Pl

set_option linter.all false
set_option autoImplicit false
set_option maxRecDepth 100000
set_option maxHeartbeats 1000000
namespace Pl
open PySem Dv
inductive Cd where
  | nm (x : Str) | eq (x : Str) (v : Int) | lt (x : Str) (v : Int) | no (c : Cd) | an (c d : Cd) | ro (c d : Cd)
inductive Kd where
  | si | bo | ei
def NMS : List Str := ["a", "b", "big", "os"]
def DGS : List (Str × Int) := [("0", 0), ("1", 1), ("2", 2), ("3", 3)]
/-- the words of a condition: single, with and between, with or between -/
inductive Gr : Kd → List Str → Cd → Prop where
  | nm {x : Str} : x ∈ NMS → Gr .si [x] (.nm x)
  | eq {x z : Str} {v : Int} : x ∈ NMS → (z, v) ∈ DGS → Gr .si [x, ("=" : Str), z] (.eq x v)
  | lt {x z : Str} {v : Int} : x ∈ NMS → (z, v) ∈ DGS → Gr .si [x, ("<" : Str), z] (.lt x v)
  | no {ws : List Str} {c : Cd} : Gr .si ws c → Gr .si (("not" : Str) :: ws) (.no c)
  | pa {ws : List Str} {c : Cd} : Gr .ei ws c → Gr .si (("(" : Str) :: (ws ++ [(")" : Str)])) c
  | b1 {ws : List Str} {c : Cd} : Gr .si ws c → Gr .bo ws c
  | b2 {ws vs : List Str} {c d : Cd} : Gr .bo ws c → Gr .si vs d → Gr .bo (ws ++ ("and" : Str) :: vs) (.an c d)
  | e1 {ws : List Str} {c : Cd} : Gr .bo ws c → Gr .ei ws c
  | e2 {ws vs : List Str} {c d : Cd} : Gr .ei ws c → Gr .bo vs d → Gr .ei (ws ++ ("or" : Str) :: vs) (.ro c d)
section
variable {k : Kd} {ws vs : List Str} {c d : Cd}
theorem nms_cases {x : Str} (h : x ∈ NMS) : x = "a" ∨ x = "b" ∨ x = "big" ∨ x = "os" := by simpa [NMS] using h
theorem dgs_cases {z : Str} {v : Int} (h : (z, v) ∈ DGS) : (z = "0" ∧ v = 0) ∨ (z = "1" ∧ v = 1) ∨ (z = "2" ∧ v = 2) ∨ (z = "3" ∧ v = 3) := by simpa [DGS] using h
theorem Gr.pos (g : Gr k ws c) : 0 < ws.length := by
  induction g <;> first | assumption | (simp; done) | (simp; omega)
theorem Gr.ne (g : Gr k ws c) : ws ≠ [] := fun z => by have := g.pos; rw [z] at this; exact absurd this (by decide)
theorem nms_wd {x : Str} (h : x ∈ NMS) : WdOk x ∧ isW x = true := by
  rcases nms_cases h with q | q | q | q <;> subst q <;> decide +kernel
theorem dgs_wd {z : Str} {v : Int} (h : (z, v) ∈ DGS) : WdOk z ∧ isDig z = true ∧ intText? z = some v := by
  rcases dgs_cases h with ⟨q, r⟩ | ⟨q, r⟩ | ⟨q, r⟩ | ⟨q, r⟩ <;> subst q <;> subst r <;> decide +kernel
theorem Gr.wd (g : Gr k ws c) : ∀ w ∈ ws, WdOk w := by
  have K : WdOk "not" ∧ WdOk "and" ∧ WdOk "or" ∧ WdOk "(" ∧ WdOk ")" ∧ WdOk "=" ∧ WdOk "<" := by decide +kernel
  obtain ⟨k1, k2, k3, k4, k5, k6, k7⟩ := K
  induction g with
  | nm h => intro w hw; rw [List.mem_singleton.mp hw]; exact (nms_wd h).1
  | eq h h2 =>
    intro w hw
    simp only [List.mem_cons, List.not_mem_nil, or_false] at hw
    rcases hw with q | q | q <;> subst q
    · exact (nms_wd h).1
    · exact k6
    · exact (dgs_wd h2).1
  | lt h h2 =>
    intro w hw
    simp only [List.mem_cons, List.not_mem_nil, or_false] at hw
    rcases hw with q | q | q <;> subst q
    · exact (nms_wd h).1
    · exact k7
    · exact (dgs_wd h2).1
  | no _ ih =>
    intro w hw
    rcases List.mem_cons.mp hw with q | q
    · subst q; exact k1
    · exact ih w q
  | pa _ ih =>
    intro w hw
    simp only [List.mem_cons, List.mem_append, List.not_mem_nil, or_false] at hw
    rcases hw with q | q | q
    · subst q; exact k4
    · exact ih w q
    · subst q; exact k5
  | b1 _ ih => exact ih
  | b2 _ _ ih1 ih2 =>
    intro w hw
    simp only [List.mem_append, List.mem_cons] at hw
    rcases hw with q | q | q
    · exact ih1 w q
    · subst q; exact k2
    · exact ih2 w q
  | e1 _ ih => exact ih
  | e2 _ _ ih1 ih2 =>
    intro w hw
    simp only [List.mem_append, List.mem_cons] at hw
    rcases hw with q | q | q
    · exact ih1 w q
    · subst q; exact k3
    · exact ih2 w q
theorem glue_bb (g : Gr .bo ws c) (g2 : Gr .bo vs d) : ∃ e, Gr .bo (ws ++ ("and" : Str) :: vs) e := by
  generalize hk : Kd.bo = kk at g2
  induction g2 with
  | b1 h _ => exact ⟨_, .b2 g h⟩
  | b2 h1 h2 ih1 _ =>
    obtain ⟨e, ih⟩ := ih1 rfl
    have := Gr.b2 ih h2
    rw [List.append_assoc, List.cons_append] at this
    exact ⟨_, this⟩
  | _ => cases hk
theorem glue_be (g : Gr .bo ws c) (g2 : Gr .ei vs d) : ∃ e, Gr .ei (ws ++ ("and" : Str) :: vs) e := by
  generalize hk : Kd.ei = kk at g2
  induction g2 with
  | e1 h _ => obtain ⟨e, q⟩ := glue_bb g h; exact ⟨_, .e1 q⟩
  | e2 h1 h2 ih1 _ =>
    obtain ⟨e, ih⟩ := ih1 rfl
    have := Gr.e2 ih h2
    rw [List.append_assoc, List.cons_append] at this
    exact ⟨_, this⟩
  | _ => cases hk
theorem glue_or (g : Gr .ei ws c) (g2 : Gr .ei vs d) : ∃ e, Gr .ei (ws ++ ("or" : Str) :: vs) e := by
  generalize hk : Kd.ei = kk at g2
  induction g2 with
  | e1 h _ => exact ⟨_, .e2 g h⟩
  | e2 h1 h2 ih1 _ =>
    obtain ⟨e, ih⟩ := ih1 rfl
    have := Gr.e2 ih h2
    rw [List.append_assoc, List.cons_append] at this
    exact ⟨_, this⟩
  | _ => cases hk
theorem glue_an (g : Gr .ei ws c) (g2 : Gr .ei vs d) : ∃ e, Gr .ei (ws ++ ("and" : Str) :: vs) e := by
  cases g with
  | e1 h => exact glue_be h g2
  | e2 h1 h2 =>
    obtain ⟨e, q⟩ := glue_be h2 g2
    obtain ⟨e', q'⟩ := glue_or h1 q
    refine ⟨e', ?_⟩
    rw [List.append_assoc, List.cons_append]
    exact q'
def sem (f : Str → Option Int) : Cd → Bool
  | .nm x => (f x).isSome
  | .eq x v => f x == some v
  | .lt x v => match f x with | some i => decide (i < v) | none => false
  | .no c => !sem f c
  | .an c d => sem f c && sem f d
  | .ro c d => sem f c || sem f d
def Cd.lvs : Cd → List Cd
  | .no c => c.lvs
  | .an c d => c.lvs ++ d.lvs
  | .ro c d => c.lvs ++ d.lvs
  | c => [c]
def Cd.nam : Cd → Str
  | .nm x => x
  | .eq x _ => x
  | .lt x _ => x
  | _ => ""
def Cd.nms (c : Cd) : List Str := c.lvs.map Cd.nam
theorem Gr.nms (g : Gr k ws c) : ws.filter (fun w => decide (w ∈ NMS)) = c.nms := by
  have K : decide (("not" : Str) ∈ NMS) = false ∧ decide (("and" : Str) ∈ NMS) = false ∧ decide (("or" : Str) ∈ NMS) = false ∧ decide (("(" : Str) ∈ NMS) = false ∧ decide ((")" : Str) ∈ NMS) = false ∧ decide (("=" : Str) ∈ NMS) = false ∧ decide (("<" : Str) ∈ NMS) = false := by decide +kernel
  obtain ⟨k1, k2, k3, k4, k5, k6, k7⟩ := K
  have dg : ∀ {z : Str} {v : Int}, (z, v) ∈ DGS → decide (z ∈ NMS) = false := fun h => by
    rcases dgs_cases h with ⟨q, r⟩ | ⟨q, r⟩ | ⟨q, r⟩ | ⟨q, r⟩ <;> subst q <;> decide +kernel
  induction g with
  | nm h => simp only [List.filter_cons, List.filter_nil, decide_eq_true h, if_true]; rfl
  | eq h h2 => simp only [List.filter_cons, List.filter_nil, decide_eq_true h, k6, dg h2, if_true, Bool.false_eq_true, if_false]; rfl
  | lt h h2 => simp only [List.filter_cons, List.filter_nil, decide_eq_true h, k7, dg h2, if_true, Bool.false_eq_true, if_false]; rfl
  | no _ ih => simp only [List.filter_cons, k1, Bool.false_eq_true, if_false]; exact ih
  | pa _ ih => simp only [List.filter_cons, List.filter_append, List.filter_nil, k4, k5, Bool.false_eq_true, if_false, List.append_nil]; exact ih
  | b1 _ ih => exact ih
  | b2 _ _ ih1 ih2 =>
    simp only [List.filter_cons, List.filter_append, k2, Bool.false_eq_true, if_false, ih1, ih2]
    exact List.map_append.symm
  | e1 _ ih => exact ih
  | e2 _ _ ih1 ih2 =>
    simp only [List.filter_cons, List.filter_append, k3, Bool.false_eq_true, if_false, ih1, ih2]
    exact List.map_append.symm
/-- each once, in the order of the first mention -/
def ddp : List Str → List Str → List Str
  | acc, [] => acc
  | acc, x :: r => ddp (if x ∈ acc then acc else acc ++ [x]) r
def nh (s : Str) : List Str → Int → Option Int
  | [], d => some d
  | w :: r, d => if d + (if w = ")" then 1 else 0) - (if w = "(" then 1 else 0) = 0 ∧ w = s then none else nh s r (d + (if w = ")" then 1 else 0) - (if w = "(" then 1 else 0))
theorem nh_app {s : Str} : ∀ {a b : List Str} {x : Int}, nh s (a ++ b) x = (nh s a x).bind (nh s b)
  | [], b, x => rfl
  | w :: r, b, x => by
    rw [List.cons_append, nh, nh]
    by_cases q : x + (if w = ")" then 1 else 0) - (if w = "(" then 1 else 0) = 0 ∧ w = s
    · rw [if_pos q, if_pos q]; rfl
    · rw [if_neg q, if_neg q]; exact nh_app
/-- a word that is no bracket, and is not found -/
theorem nh_w {s w : Str} {r : List Str} {x : Int} (h1 : w ≠ ")") (h2 : w ≠ "(") (h3 : x ≠ 0 ∨ w ≠ s) : nh s (w :: r) x = nh s r x := by
  rw [nh, if_neg h1, if_neg h2]
  have e : x + 0 - 0 = x := by omega
  rw [e, if_neg]
  rintro ⟨a, b⟩
  rcases h3 with z | z
  · exact z a
  · exact z b
theorem one_w {s w : Str} {x : Int} (h1 : w ≠ ")") (h2 : w ≠ "(") (h3 : x ≠ 0 ∨ w ≠ s) : nh s [w] x = some x := nh_w h1 h2 h3
theorem nms_ne {x : Str} (h : x ∈ NMS) : x ≠ ")" ∧ x ≠ "(" ∧ x ≠ "or" ∧ x ≠ "and" ∧ x ≠ "not" ∧ x ≠ "=" ∧ x ≠ "<" := by
  rcases nms_cases h with q | q | q | q <;> subst q <;> decide +kernel
theorem dgs_ne {z : Str} {v : Int} (h : (z, v) ∈ DGS) : z ≠ ")" ∧ z ≠ "(" ∧ z ≠ "or" ∧ z ≠ "and" := by
  rcases dgs_cases h with ⟨q, r⟩ | ⟨q, r⟩ | ⟨q, r⟩ | ⟨q, r⟩ <;> subst q <;> decide +kernel
/-- where the walk passes -/
def Ps (k : Kd) (s : Str) (x : Int) : Prop := 0 < x ∨ (x = 0 ∧ match k with | .si => True | .bo => s = "or" | .ei => False)
theorem Gr.pass {s : Str} (hs : s = "or" ∨ s = "and") (g : Gr k ws c) : ∀ x, Ps k s x → nh s ws.reverse x = some x := by
  have K : ("not" : Str) ≠ ")" ∧ ("not" : Str) ≠ "(" ∧ ("and" : Str) ≠ ")" ∧ ("and" : Str) ≠ "(" ∧ ("or" : Str) ≠ ")" ∧ ("or" : Str) ≠ "(" ∧ ("=" : Str) ≠ ")" ∧ ("=" : Str) ≠ "(" ∧ ("<" : Str) ≠ ")" ∧ ("<" : Str) ≠ "(" := by decide +kernel
  have L : ("not" : Str) ≠ s ∧ ("=" : Str) ≠ s ∧ ("<" : Str) ≠ s ∧ ("(" : Str) ≠ s ∧ (")" : Str) ≠ s := by
    rcases hs with q | q <;> subst q <;> decide +kernel
  obtain ⟨a1, a2, a3, a4, a5, a6, a7, a8, a9, a10⟩ := K
  obtain ⟨l1, l2, l3, l4, l5⟩ := L
  have ns : ∀ {x : Str}, x ∈ NMS → x ≠ s := fun h => by rcases hs with q | q <;> subst q; exact (nms_ne h).2.2.1; exact (nms_ne h).2.2.2.1
  have ds : ∀ {z : Str} {v : Int}, (z, v) ∈ DGS → z ≠ s := fun h => by rcases hs with q | q <;> subst q; exact (dgs_ne h).2.2.1; exact (dgs_ne h).2.2.2
  induction g with
  | nm h => intro x _; exact one_w (nms_ne h).1 (nms_ne h).2.1 (.inr (ns h))
  | eq h h2 =>
    intro x _
    show nh s [_, _, _] x = _
    rw [nh_w (dgs_ne h2).1 (dgs_ne h2).2.1 (.inr (ds h2)), nh_w a7 a8 (.inr l2)]
    exact one_w (nms_ne h).1 (nms_ne h).2.1 (.inr (ns h))
  | lt h h2 =>
    intro x _
    show nh s [_, _, _] x = _
    rw [nh_w (dgs_ne h2).1 (dgs_ne h2).2.1 (.inr (ds h2)), nh_w a9 a10 (.inr l3)]
    exact one_w (nms_ne h).1 (nms_ne h).2.1 (.inr (ns h))
  | no _ ih =>
    intro x hx
    rw [List.reverse_cons, nh_app, ih x hx]
    exact one_w a1 a2 (.inr l1)
  | pa _ ih =>
    intro x hx
    have x0 : 0 ≤ x := by rcases hx with q | ⟨q, _⟩ <;> omega
    rw [List.reverse_cons, List.reverse_append, List.reverse_singleton, nh_app, nh_app]
    have e1 : nh s [")"] x = some (x + 1) := by
      have b1 : (")" : Str) ≠ "(" := by decide +kernel
      have e : x + (if (")" : Str) = ")" then 1 else 0) - (if (")" : Str) = "(" then 1 else 0) = x + 1 := by
        rw [if_pos rfl, if_neg b1]; omega
      rw [nh, e, if_neg (fun z => l5 z.2)]
      rfl
    rw [e1, Option.bind_some, ih (x + 1) (.inl (by omega)), Option.bind_some]
    have b2 : ("(" : Str) ≠ ")" := by decide +kernel
    have e : x + 1 + (if ("(" : Str) = ")" then 1 else 0) - (if ("(" : Str) = "(" then 1 else 0) = x := by
      rw [if_neg b2, if_pos rfl]; omega
    rw [nh, e, if_neg (fun z => l4 z.2)]
    rfl
  | b1 _ ih =>
    intro x hx
    refine ih x ?_
    rcases hx with q | ⟨q, _⟩
    · exact .inl q
    · exact .inr ⟨q, trivial⟩
  | b2 _ _ ih1 ih2 =>
    intro x hx
    rw [List.reverse_append, List.reverse_cons, nh_app, nh_app, ih2 x (by
      rcases hx with q | ⟨q, _⟩
      · exact .inl q
      · exact .inr ⟨q, trivial⟩), Option.bind_some, one_w a3 a4 (by
      rcases hx with q | ⟨q, r⟩
      · exact .inl (by omega)
      · have r : s = "or" := r
        subst r
        exact .inr (by decide +kernel)), Option.bind_some]
    exact ih1 x hx
  | e1 _ ih =>
    intro x hx
    refine ih x ?_
    rcases hx with q | ⟨q, r⟩
    · exact .inl q
    · exact r.elim
  | e2 _ _ ih1 ih2 =>
    intro x hx
    rcases hx with q | ⟨_, r⟩
    · rw [List.reverse_append, List.reverse_cons, nh_app, nh_app, ih2 x (.inl q), Option.bind_some, one_w a5 a6 (.inl (by omega)), Option.bind_some]
      exact ih1 x (.inl q)
    · exact r.elim
end
end Pl

set_option linter.all false
set_option autoImplicit false
set_option maxRecDepth 100000
set_option maxHeartbeats 1000000
namespace Pl
open PySem Dv
/-- a value is a condition's tree -/
def TreeR (h : VH) : Cd → Vv → Prop
  | .nm x, v => ∃ i, v = .ref i ∧ h[i]? = some (.tup [.str "name", .str x])
  | .eq x k, v => ∃ i, v = .ref i ∧ h[i]? = some (.tup [.str "equal", .str x, .int k])
  | .lt x k, v => ∃ i, v = .ref i ∧ h[i]? = some (.tup [.str "less", .str x, .int k])
  | .no c, v => ∃ i a, v = .ref i ∧ h[i]? = some (.tup [.str "not", a]) ∧ TreeR h c a
  | .an c d, v => ∃ i a b, v = .ref i ∧ h[i]? = some (.tup [.str "and", a, b]) ∧ TreeR h c a ∧ TreeR h d b
  | .ro c d, v => ∃ i a b, v = .ref i ∧ h[i]? = some (.tup [.str "or", a, b]) ∧ TreeR h c a ∧ TreeR h d b
/-- tuples stay -/
def TK (h h' : VH) : Prop := ∀ (j : Nat) (xs : List Vv), h[j]? = some (.tup xs) → h'[j]? = some (.tup xs)
theorem HLe.tk {h h' : VH} (l : HLe h h') : TK h h' := fun j xs e => l j _ e
theorem HLx.tk {h h' : VH} {i : Nat} (l : HLx i h h') (q : ∀ xs, h[i]? ≠ some (.tup xs)) : TK h h' := fun j xs e => l j _ (fun z => q xs (z ▸ e)) e
theorem TreeR.keep {h h' : VH} (l : TK h h') : ∀ {c : Cd} {v : Vv}, TreeR h c v → TreeR h' c v
  | .nm x, v, ⟨i, e, g⟩ => ⟨i, e, l _ _ g⟩
  | .eq x k, v, ⟨i, e, g⟩ => ⟨i, e, l _ _ g⟩
  | .lt x k, v, ⟨i, e, g⟩ => ⟨i, e, l _ _ g⟩
  | .no c, v, ⟨i, a, e, g, t⟩ => ⟨i, a, e, l _ _ g, TreeR.keep l t⟩
  | .an c d, v, ⟨i, a, b, e, g, t, u⟩ => ⟨i, a, b, e, l _ _ g, TreeR.keep l t, TreeR.keep l u⟩
  | .ro c d, v, ⟨i, a, b, e, g, t, u⟩ => ⟨i, a, b, e, l _ _ g, TreeR.keep l t, TreeR.keep l u⟩
section
variable {G : Tx} {n : Nat} {h : VH} {r wl p : Nat} {W ws vs rest : List Str} {o : Orc} {s : Sl} {w : Str} {c d : Cd}
theorem Rd.tk {h' : VH} (D : Rd h r wl W p) (l : HLx r h h') : TK h h' := l.tk fun xs z => by rw [D.at_] at z; cases z
theorem tskip_t (D : Rdr G) (hn : 9 ≤ n) (d : Rd h r wl W p) (h0 : s[0]? = some (some (.ref r))) (hs : SeqAt.shaped (.str w) = true) (q : W[p]? = some w) (hp : p < 60) : ∃ h', evT G (oc G n) (.val (.meth (.var 0) "skip" (.cons (.cst (.str w)) .nil))) s h = some (.ok true h') ∧ Rd h' r wl W (p + 1) ∧ HLx r h h' := by
  rcases tskip D hn d h0 w hs with ⟨a, _⟩ | ⟨_, _, x⟩ | ⟨_, b, _⟩
  · exact (a q).elim
  · exact x
  · omega
theorem tskip_f (D : Rdr G) (hn : 9 ≤ n) (d : Rd h r wl W p) (h0 : s[0]? = some (some (.ref r))) (hs : SeqAt.shaped (.str w) = true) (q : W[p]? ≠ some w) : evT G (oc G n) (.val (.meth (.var 0) "skip" (.cons (.cst (.str w)) .nil))) s h = some (.ok false h) := by
  rcases tskip D hn d h0 w hs with ⟨_, x⟩ | ⟨a, _⟩ | ⟨a, _⟩
  · exact x
  · exact (q a).elim
  · exact (q a).elim
theorem tword (D : Rdr G) (hn : 8 ≤ n) (d : Rd h r wl W p) (s0 : s[0]? = some (some (.ref r))) (q : W[p]? = some w) (hp : p < 60) (f : isW w = true) : ∃ h', evE G (oc G n) (.meth (.var 0) "take" (.cons (.cst (.fn "is_word")) .nil)) s h = some (.ok (.str w) h') ∧ Rd h' r wl W (p + 1) ∧ HLx r h h' := by
  rcases etake_word D hn d s0 with ⟨w', h', a, _, _, e, x⟩ | ⟨_, _, _, t⟩
  · rw [q] at a; cases a; exact ⟨h', e, x⟩
  · rcases t with t | t | ⟨w', a, b⟩
    · have := lt_of_w q; omega
    · omega
    · rw [q] at a; cases a; rw [f] at b; cases b
theorem tdig (D : Rdr G) (hn : 8 ≤ n) (d : Rd h r wl W p) (s0 : s[0]? = some (some (.ref r))) (q : W[p]? = some w) (hp : p < 60) (f : isDig w = true) : ∃ h', evE G (oc G n) (.meth (.var 0) "take" (.cons (.cst (.fn "is_digit")) .nil)) s h = some (.ok (.str w) h') ∧ Rd h' r wl W (p + 1) ∧ HLx r h h' := by
  rcases etake_dig D hn d s0 with ⟨w', h', a, _, _, e, x⟩ | ⟨_, _, _, t⟩
  · rw [q] at a; cases a; exact ⟨h', e, x⟩
  · rcases t with t | t | ⟨w', a, b⟩
    · have := lt_of_w q; omega
    · omega
    · rw [q] at a; cases a; rw [f] at b; cases b
theorem tpar (D : Rdr G) (hn : 8 ≤ n) (d : Rd h r wl W p) (s0 : s[0]? = some (some (.ref r))) (q : W[p]? = some (")" : Str)) (hp : p < 60) : ∃ h', evE G (oc G n) (.meth (.var 0) "take" (.cons lpar .nil)) s h = some (.ok (.str ")") h') ∧ Rd h' r wl W (p + 1) ∧ HLx r h h' := by
  rcases etake_par D hn d s0 with ⟨w', h', a, _, _, e, x⟩ | ⟨_, _, _, t⟩
  · rw [q] at a; cases a; exact ⟨h', e, x⟩
  · rcases t with t | t | ⟨w', a, b⟩
    · have := lt_of_w q; omega
    · omega
    · rw [q] at a; cases a; exact absurd b (by decide +kernel)
/-- a sign behind a name, with its digit -/
theorem cmpd_dig (D : Rdr G) (hn : 20 ≤ n) (d : Rd h r wl W p) {x z : Str} {v : Int} {eq : Bool} (q1 : W[p]? = some (if eq then "=" else "<" : Str)) (q2 : W[p + 1]? = some z) (hp : p + 1 < 60) (hz : (z, v) ∈ DGS) :
    ∃ i h', run G n "Reader.compared" [.ref r, .str x, .str "name", .str "equal", .str "less"] h = some (.ok (.ref i) h') ∧ Rd h' r wl W (p + 2) ∧ HLx r h h' ∧ h'[i]? = some (.tup [.str (if eq then "equal" else "less"), .str x, .int v]) := by
  have s0 : ([some (.ref r), some (.str x), some (.str "name"), some (.str "equal"), some (.str "less")] : Sl)[0]? = some (some (.ref r)) := rfl
  have R : ∀ {q t}, evS G (oc G n) xCmpd [some (.ref r), some (.str x), some (.str "name"), some (.str "equal"), some (.str "less")] h = t → retR t = q → run G n "Reader.compared" [.ref r, .str x, .str "name", .str "equal", .str "less"] h = q := fun e1 e2 => run_ev D.cmpd (by omega) rfl rfl e1 e2
  obtain ⟨_, zd, zi⟩ := dgs_wd hz
  have zl : z.length ≤ 640 := by rcases dgs_cases hz with ⟨a, b⟩ | ⟨a, b⟩ | ⟨a, b⟩ | ⟨a, b⟩ <;> subst a <;> decide +kernel
  have T : ∀ {h1 : VH} {i : Nat} {st : Str}, ([some (.ref r), some (.str x), some (.str "name"), some (.str "equal"), some (.str "less")] : Sl)[i]? = some (some (.str st)) → Rd h1 r wl W (p + 1) → ∃ h2, evE G (oc G n) (.tup (.cons (.var i) (.cons (.var 1) (.cons (.bf .int (.cons (.meth (.var 0) "take" (.cons (.cst (.fn "is_digit")) .nil)) .nil)) .nil)))) [some (.ref r), some (.str x), some (.str "name"), some (.str "equal"), some (.str "less")] h1 = some (.ok (.ref h2.length) (h2 ++ [.tup [.str st, .str x, .int v]])) ∧ Rd h2 r wl W (p + 2) ∧ HLx r h1 h2 := fun {h1 i st} hi d1 => by
    obtain ⟨h2, k, d2, l2⟩ := tdig D (n := n) (by omega) d1 s0 q2 hp zd
    refine ⟨h2, ?_, d2, l2⟩
    have c1 : callb G .int [.str z] h2 = some (.ok (.int v) h2) := by simp [callb, zi, zl, ok1]
    refine e_tup' (es_cons' (eVar hi) (es_cons' (eVar (i := 1) rfl) (es_cons' (v := .int v) ?_ es_nil))) (by simp)
    rw [evE, es_cons' k es_nil, Rb_ok, c1]
  cases eq with
  | true =>
    obtain ⟨h1, e1, d1, l1⟩ := tskip_t D (n := n) (by omega) d s0 (w := "=") (by decide +kernel) q1 (by omega)
    obtain ⟨h2, e2, d2, l2⟩ := T (i := 3) (st := "equal") rfl d1
    exact ⟨_, _, R (seq_rt (ifs_t e1 (seq_rt (ret_of e2)))) rfl, d2.keep (HLe.app _ _), (l1.trans l2).trans ((HLe.app _ _).x r), get_new⟩
  | false =>
    have n1 : W[p]? ≠ some ("=" : Str) := by rw [q1]; decide +kernel
    obtain ⟨h1, e1, d1, l1⟩ := tskip_t D (n := n) (by omega) d s0 (w := "<") (by decide +kernel) q1 (by omega)
    obtain ⟨h2, e2, d2, l2⟩ := T (i := 4) (st := "less") rfl d1
    exact ⟨_, _, R (seq_nx (ifs_f (tskip_f D (n := n) (by omega) d s0 (w := "=") (by decide +kernel) n1) rfl) (seq_rt (ifs_t e1 (seq_rt (ret_of e2))))) rfl, d2.keep (HLe.app _ _), (l1.trans l2).trans ((HLe.app _ _).x r), get_new⟩
theorem cmpd_nm (D : Rdr G) (hn : 20 ≤ n) (d : Rd h r wl W p) {x : Str} (q1 : W[p]? ≠ some ("=" : Str)) (q2 : W[p]? ≠ some ("<" : Str)) :
    run G n "Reader.compared" [.ref r, .str x, .str "name", .str "equal", .str "less"] h = some (.ok (.ref h.length) (h ++ [.tup [.str "name", .str x]])) := by
  have s0 : ([some (.ref r), some (.str x), some (.str "name"), some (.str "equal"), some (.str "less")] : Sl)[0]? = some (some (.ref r)) := rfl
  refine run_ev D.cmpd (by omega) rfl rfl (s := [some (.ref r), some (.str x), some (.str "name"), some (.str "equal"), some (.str "less")]) (r := some (.rt (.ref h.length) (h ++ [.tup [.str "name", .str x]]))) ?_ rfl
  exact seq_nx (ifs_f (tskip_f D (n := n) (by omega) d s0 (w := "=") (by decide +kernel) q1) rfl) (seq_nx (ifs_f (tskip_f D (n := n) (by omega) d s0 (w := "<") (by decide +kernel) q2) rfl) (seq_rt (ret_of rfl)))
/-- a method reads some words as a tree -/
def Cal (G : Tx) (r wl : Nat) (W : List Str) (f : Str) (N : Nat) (F ws : List Str) (c : Cd) : Prop := ∀ n h p rest, N + 3 * ws.length ≤ n → Rd h r wl W p → W.drop p = ws ++ rest → p + ws.length ≤ 60 → (∀ w ∈ F, rest.head? ≠ some w) →
  ∃ v h', run G n f [.ref r] h = some (.ok v h') ∧ Rd h' r wl W (p + ws.length) ∧ HLx r h h' ∧ TreeR h' c v
def bdT (w : Str) : Tt := .val (.meth (.var 0) "skip" (.cons (.cst (.str w)) .nil))
def bdB (m w : Str) : St := .seq (.asg (.one 1) (.tup (.cons (.cst (.str w)) (.cons (.var 1) (.cons (.meth (.var 0) m .nil) .nil))))) .skip
/-- .. as the walk of one of its loops -/
def Rch (G : Tx) (r wl : Nat) (W : List Str) (m w : Str) (N : Nat) (F ws : List Str) (c : Cd) : Prop := ∀ n h p rest, N + 3 * ws.length ≤ n → Rd h r wl W p → W.drop p = ws ++ rest → p + ws.length ≤ 60 → (∀ w ∈ F, rest.head? ≠ some w) →
  ∃ h0 v0 t v h', evS G (oc G n) (.asg (.one 1) (.meth (.var 0) m .nil)) [some (.ref r), none] h = some (.nx [some (.ref r), some v0] h0) ∧ t ≤ ws.length ∧
    (∀ T, t ≤ T → whlF (evT G (oc G n) (bdT w)) (evS G (oc G n) (bdB m w)) T [some (.ref r), some v0] h0 = whlF (evT G (oc G n) (bdT w)) (evS G (oc G n) (bdB m w)) (T - t) [some (.ref r), some v] h') ∧ Rd h' r wl W (p + ws.length) ∧ HLx r h h' ∧ TreeR h' c v
theorem at_drop {i : Nat} (e : W.drop p = ws ++ rest) : W[p + i]? = (ws ++ rest)[i]? := by rw [← e, List.getElem?_drop]
theorem at_rest (e : W.drop p = ws ++ rest) : W[p + ws.length]? = rest.head? := by
  rw [at_drop e, List.getElem?_append_right (Nat.le_refl _), Nat.sub_self]
  cases rest <;> rfl
theorem drop_more {u : List Str} (e : W.drop p = ws ++ u) : W.drop (p + ws.length) = u := by
  rw [← List.drop_drop, e, List.drop_left]
section
variable {f m k w : Str} {N : Nat} {F : List Str} {fi : Fn}
theorem rch_one (hm : methOf G "Reader" m = some k) (hm2 : ∀ wl p, (rf wl p).lookup m = none) (hk : G.fns k = some fi) (hk2 : fi.kw = []) (A : Cal G r wl W k N F ws c) : Rch G r wl W m w (N + 1) F ws c := by
  intro n h p rest hn d e hp hF
  obtain ⟨v, h', e1, d1, l1, t1⟩ := A (n - 1) h p rest (by omega) d e hp hF
  have M : evE G (oc G n) (.meth (.var 0) m .nil) [some (.ref r), none] h = run G (n - 1) k [.ref r] h := meth_ok hm (hm2 _ _) hk hk2 d rfl rfl
  exact ⟨h', v, 0, v, h', asg_of (i := 1) (M.trans e1), Nat.zero_le _, fun T _ => rfl, d1, l1, t1⟩
theorem rch_more (D : Rdr G) (hm : methOf G "Reader" m = some k) (hm2 : ∀ wl p, (rf wl p).lookup m = none) (hk : G.fns k = some fi) (hk2 : fi.kw = []) (hs : SeqAt.shaped (.str w) = true) (hw : ∀ x ∈ F, x ≠ w) (hN : 20 ≤ N)
    (con : Cd) (hT : ∀ (h : VH) (a b : Vv) (i : Nat), h[i]? = some (.tup [.str w, a, b]) → TreeR h c a → TreeR h d b → TreeR h con (.ref i)) (A : Rch G r wl W m w (N + 1) F ws c) (B : Cal G r wl W k N F vs d) : Rch G r wl W m w (N + 1) F (ws ++ w :: vs) con := by
  intro n h p rest hn dd e hp hF
  rw [List.length_append, List.length_cons] at hn hp
  have e' : W.drop p = ws ++ (w :: vs ++ rest) := by rw [e, List.append_assoc]
  obtain ⟨h0, v0, t, v, h1, a0, ht, a1, d1, l1, t1⟩ := A n h p _ (by omega) dd e' (by omega) (fun x hx z => hw x hx (by simpa using z.symm))
  have q1 : W[p + ws.length]? = some w := at_rest e'
  obtain ⟨h2, e2, d2, l2⟩ := tskip_t D (n := n) (s := [some (.ref r), some v]) (by omega) d1 rfl hs q1 (by omega)
  have e3 : W.drop (p + ws.length + 1) = vs ++ rest := by
    have := drop_more (ws := ws ++ [w]) (u := vs ++ rest) (p := p) (W := W) (by rw [e']; simp)
    rw [List.length_append, List.length_singleton] at this
    rw [← this, Nat.add_assoc]
  obtain ⟨v3, h3, e4, d3, l3, t3⟩ := B (n - 1) h2 (p + ws.length + 1) rest (by omega) d2 e3 (by omega) hF
  have M : evE G (oc G n) (.meth (.var 0) m .nil) [some (.ref r), some v] h2 = run G (n - 1) k [.ref r] h2 := meth_ok hm (hm2 _ _) hk hk2 d2 rfl rfl
  have tp : evE G (oc G n) (.tup (.cons (.cst (.str w)) (.cons (.var 1) (.cons (.meth (.var 0) m .nil) .nil)))) [some (.ref r), some v] h2 = some (.ok (.ref h3.length) (h3 ++ [.tup [.str w, v, v3]])) := e_tup' (es_cons' rfl (es_cons' (eVar (i := 1) rfl) (es_cons' (M.trans e4) es_nil))) (by simp)
  have bd : evS G (oc G n) (bdB m w) [some (.ref r), some v] h2 = some (.nx [some (.ref r), some (.ref h3.length)] (h3 ++ [.tup [.str w, v, v3]])) := seq_nx (asg_of (i := 1) tp) rfl
  refine ⟨h0, v0, t + 1, .ref h3.length, h3 ++ [.tup [.str w, v, v3]], a0, by rw [List.length_append, List.length_cons]; omega, fun T hT => ?_, ?_, ((l1.trans l2).trans l3).trans ((HLe.app _ _).x r), ?_⟩
  · rw [a1 T (by omega)]
    obtain ⟨u, hu⟩ : ∃ u, T - t = u + 1 := ⟨T - t - 1, by omega⟩
    have hu2 : T - (t + 1) = u := by omega
    rw [hu, hu2, whlF, show evT G (oc G n) (bdT w) [some (.ref r), some v] h1 = some (.ok true h2) from e2, Sb_ok]
    show (match evS G (oc G n) (bdB m w) [some (.ref r), some v] h2 with
      | some (.nx s2 h2) => _ | some (.ct s2 h2) => _ | some (.bk s2 h2) => _ | x => x) = _
    rw [bd]
  · have := d3.keep (HLe.app h3 [.tup [.str w, v, v3]])
    rw [List.length_append, List.length_cons]
    have z : p + (ws.length + (vs.length + 1)) = p + ws.length + 1 + vs.length := by omega
    rw [z]
    exact this
  · exact hT _ _ _ _ get_new (((t1.keep (d1.tk l2)).keep (d2.tk l3)).keep (HLe.app _ _).tk) (t3.keep (HLe.app _ _).tk)
theorem rch_end (D : Rdr G) (hf : G.fns f = some ⟨1, 2, xBetw m w, []⟩) (hs : SeqAt.shaped (.str w) = true) (hN : 20 ≤ N) (A : Rch G r wl W m w N F ws c) : Cal G r wl W f N (w :: F) ws c := by
  intro n h p rest hn d e hp hF
  obtain ⟨h0, v0, t, v, h', a0, ht, a1, d1, l1, t1⟩ := A n h p rest hn d e hp (fun x hx => hF x (List.mem_cons_of_mem _ hx))
  refine ⟨v, h', ?_, d1, l1, t1⟩
  have q : W[p + ws.length]? ≠ some w := by rw [at_rest e]; exact hF w List.mem_cons_self
  have sk := tskip_f D (n := n) (s := [some (.ref r), some v]) (by omega) d1 rfl hs q
  refine run_ev hf (by omega) rfl rfl (s := [some (.ref r), none]) (r := some (.rt v h')) (seq_nx a0 (seq_nx (s1 := [some (.ref r), some v]) (h1 := h') ?_ (seq_rt (ret_of rfl)))) rfl
  show whlF (evT G (oc G n) (bdT w)) (evS G (oc G n) (bdB m w)) turns [some (.ref r), some v0] h0 = _
  have ht2 : t < turns := by unfold turns; omega
  rw [a1 turns (by omega)]
  obtain ⟨u, hu⟩ : ∃ u, turns - t = u + 1 := ⟨turns - t - 1, by omega⟩
  rw [hu, whlF, show evT G (oc G n) (bdT w) [some (.ref r), some v] h' = some (.ok false h') from sk]
  rfl
end
def F1 : List Str := ["=", "<"]
def F2 : List Str := "and" :: F1
def F3 : List Str := "or" :: F2
theorem hd_F1 {w : Str} (h1 : w ≠ "=") (h2 : w ≠ "<") : ∀ x ∈ F1, x ≠ w := fun x hx z => by
  simp only [F1, List.mem_cons, List.not_mem_nil, or_false] at hx
  rcases hx with q | q <;> subst q
  · exact h1 z.symm
  · exact h2 z.symm
/-- a name, alone or compared, from a place -/
theorem single_nm (D : Rdr G) (hn : 25 ≤ n) (d : Rd h r wl W p) {x : Str} (hx : x ∈ NMS) (q : W[p]? = some x) (hp : p < 60) : ∃ h2, Rd h2 r wl W (p + 1) ∧ HLx r h h2 ∧ ∀ v h3, run G (n - 1) "Reader.compared" [.ref r, .str x, .str "name", .str "equal", .str "less"] h2 = some (.ok v h3) → run G n "Reader.single" [.ref r] h = some (.ok v h3) := by
  have s0 : ([some (.ref r), none, none] : Sl)[0]? = some (some (.ref r)) := rfl
  obtain ⟨n1, n2, _, _, n3, _, _⟩ := nms_ne hx
  have b1 := tskip_f D (n := n) (by omega) d s0 (w := "not") (by decide +kernel) (by rw [q]; exact fun z => n3 (Option.some.inj z))
  have b2 := tskip_f D (n := n) (by omega) d s0 (w := "(") (by decide +kernel) (by rw [q]; exact fun z => n2 (Option.some.inj z))
  have Wf : ∀ (w : Str), evT G (oc G n) (.and (.val (.attr (.var 0) "is_wide")) (.val (.meth (.var 0) "skip" (.cons (.cst (.str w)) .nil)))) [some (.ref r), none, none] h = some (.ok false h) := fun w => by
    simp only [evT, evE, List.getElem?_cons_zero, Rb_ok, gWide D d, truth]
  obtain ⟨h2, k, d2, l2⟩ := tword D (n := n) (by omega) d s0 q hp (nms_wd hx).2
  refine ⟨h2, d2, l2, fun v h3 e3 => ?_⟩
  have M : evE G (oc G n) (.meth (.var 0) "compared" (.cons (.meth (.var 0) "take" (.cons (.cst (.fn "is_word")) .nil)) (.cons (.cst (.str "name")) (.cons (.cst (.str "equal")) (.cons (.cst (.str "less")) .nil))))) [some (.ref r), none, none] h = run G (n - 1) "Reader.compared" [.ref r, .str x, .str "name", .str "equal", .str "less"] h2 :=
    meth_ok D.mCmpd rfl D.cmpd rfl d rfl (es_cons' k rfl)
  exact run_ev D.single (by omega) rfl rfl (s := [some (.ref r), none, none]) (r := some (.rt v h3)) (seq_nx (ifs_f b1 rfl) (seq_nx (ifs_f b2 rfl) (seq_nx (ifs_f (Wf "was") rfl) (seq_nx (ifs_f (Wf "has") rfl) (seq_rt (ret_of (M.trans e3))))))) rfl
/-- the words of a tree are read as this tree -/
theorem read_gr (D : Rdr G) {k : Kd} (g : Gr k ws c) : match k with
    | .si => Cal G r wl W "Reader.single" 25 F1 ws c
    | .bo => Rch G r wl W "single" "and" 26 F1 ws c
    | .ei => Rch G r wl W "both" "or" 27 F2 ws c := by
  induction g with
  | @nm x hx =>
    intro n h p rest hn d e hp hF
    have q := at_drop (i := 0) e
    have q2 := at_rest e
    obtain ⟨h2, d2, l2, k⟩ := single_nm D (n := n) (by simp at hn; omega) d hx q (by simp at hp; omega)
    have c1 := cmpd_nm D (n := n - 1) (x := x) (by simp at hn; omega) d2 (by rw [show p + 1 = p + [x].length from rfl, q2]; exact hF _ (by simp [F1])) (by rw [show p + 1 = p + [x].length from rfl, q2]; exact hF _ (by simp [F1]))
    exact ⟨_, _, k _ _ c1, d2.keep (HLe.app _ _), l2.trans ((HLe.app _ _).x r), _, rfl, get_new⟩
  | eq hx hz =>
    intro n h p rest hn d e hp hF
    have q := at_drop (i := 0) e
    have q1 := at_drop (i := 1) e
    have q2 := at_drop (i := 2) e
    obtain ⟨h2, d2, l2, k⟩ := single_nm D (n := n) (by simp at hn; omega) d hx q (by simp at hp; omega)
    obtain ⟨i, h3, e3, d3, l3, g3⟩ := cmpd_dig D (n := n - 1) (x := _) (eq := true) (by simp at hn; omega) d2 q1 q2 (by simp at hp; omega) hz
    exact ⟨_, _, k _ _ e3, d3, l2.trans l3, _, rfl, g3⟩
  | lt hx hz =>
    intro n h p rest hn d e hp hF
    have q := at_drop (i := 0) e
    have q1 := at_drop (i := 1) e
    have q2 := at_drop (i := 2) e
    obtain ⟨h2, d2, l2, k⟩ := single_nm D (n := n) (by simp at hn; omega) d hx q (by simp at hp; omega)
    obtain ⟨i, h3, e3, d3, l3, g3⟩ := cmpd_dig D (n := n - 1) (x := _) (eq := false) (by simp at hn; omega) d2 q1 q2 (by simp at hp; omega) hz
    exact ⟨_, _, k _ _ e3, d3, l2.trans l3, _, rfl, g3⟩
  | @no ws1 c1 _ ih =>
    intro n h p rest hn d e hp hF
    rw [List.length_cons] at hn hp
    have s0 : ([some (.ref r), none, none] : Sl)[0]? = some (some (.ref r)) := rfl
    have q := at_drop (i := 0) e
    have e2 : W.drop (p + 1) = ws1 ++ rest := drop_more (ws := ["not"]) e
    obtain ⟨h1, e1, d1, l1⟩ := tskip_t D (n := n) (by omega) d s0 (w := "not") (by decide +kernel) q (by omega)
    have ih : Cal G r wl W "Reader.single" 25 F1 ws1 c1 := ih
    obtain ⟨v, h3, e3, d3, l3, t3⟩ := ih (n - 1) h1 (p + 1) rest (by omega) d1 e2 (by omega) hF
    have M : evE G (oc G n) (.meth (.var 0) "single" .nil) [some (.ref r), none, none] h1 = run G (n - 1) "Reader.single" [.ref r] h1 := meth_ok D.mSingle rfl D.single rfl d1 rfl rfl
    have T : evE G (oc G n) (.tup (.cons (.cst (.str "not")) (.cons (.meth (.var 0) "single" .nil) .nil))) [some (.ref r), none, none] h1 = some (.ok (.ref h3.length) (h3 ++ [.tup [.str "not", v]])) := e_tup' (es_cons' rfl (es_cons' (M.trans e3) es_nil)) (by simp)
    refine ⟨.ref h3.length, h3 ++ [.tup [.str "not", v]], run_ev D.single (by omega) rfl rfl (s := [some (.ref r), none, none]) (r := some (.rt (.ref h3.length) (h3 ++ [.tup [.str "not", v]]))) (seq_rt (ifs_t e1 (seq_rt (ret_of T)))) rfl, ?_, (l1.trans l3).trans ((HLe.app _ _).x r), _, _, rfl, get_new, t3.keep (HLe.app _ _).tk⟩
    have := d3.keep (HLe.app h3 [.tup [.str "not", v]])
    rw [List.length_cons, show p + (ws1.length + 1) = p + 1 + ws1.length by omega]
    exact this
  | @pa ws1 c1 _ ih =>
    intro n h p rest hn d e hp hF
    rw [List.length_cons, List.length_append, List.length_singleton] at hn hp
    have s0 : ([some (.ref r), none, none] : Sl)[0]? = some (some (.ref r)) := rfl
    have q := at_drop (i := 0) e
    have e' : W.drop p = [("(" : Str)] ++ (ws1 ++ ((")" : Str) :: rest)) := by rw [e]; simp
    have e2 : W.drop (p + 1) = ws1 ++ ((")" : Str) :: rest) := drop_more (ws := ["("]) e'
    have b1 := tskip_f D (n := n) (by omega) d s0 (w := "not") (by decide +kernel) (fun z => by have z2 := q.symm.trans z; exact absurd (Option.some.inj z2) (by decide +kernel))
    obtain ⟨h1, e1, d1, l1⟩ := tskip_t D (n := n) (by omega) d s0 (w := "(") (by decide +kernel) q (by omega)
    have ih : Rch G r wl W "both" "or" 27 F2 ws1 c1 := ih
    have A := rch_end (f := "Reader.either") D D.either (by decide +kernel) (by omega) ih
    have hr : ∀ w ∈ ("or" : Str) :: F2, (((")" : Str) :: rest).head?) ≠ some w := by
      have z : ∀ w ∈ ("or" : Str) :: F2, (")" : Str) ≠ w := by decide +kernel
      exact fun w hw q => z w hw (Option.some.inj q)
    obtain ⟨v, h3, e3, d3, l3, t3⟩ := A (n - 1) h1 (p + 1) _ (by omega) d1 e2 (by omega) hr
    have M : evE G (oc G n) (.meth (.var 0) "either" .nil) [some (.ref r), none, none] h1 = run G (n - 1) "Reader.either" [.ref r] h1 := meth_ok D.mEither rfl D.either rfl d1 rfl rfl
    obtain ⟨h4, k, d4, l4⟩ := tpar D (n := n) (s := [some (.ref r), some v, none]) (by omega) d3 rfl (at_rest e2) (by omega)
    refine ⟨v, h4, run_ev D.single (by omega) rfl rfl (s := [some (.ref r), none, none]) (r := some (.rt v h4)) (seq_nx (ifs_f b1 rfl) (seq_rt (ifs_t e1 (seq_nx (asg_of (M.trans e3)) (seq_nx (expr_of k) (seq_rt (ret_of rfl))))))) rfl, ?_, (l1.trans l3).trans l4, t3.keep (d3.tk l4)⟩
    rw [List.length_cons, List.length_append, List.length_singleton, show p + (ws1.length + 1 + 1) = p + 1 + ws1.length + 1 by omega]
    exact d4
  | b1 _ ih => exact rch_one D.mSingle (fun _ _ => rfl) D.single rfl ih
  | b2 _ _ ih1 ih2 => exact rch_more D D.mSingle (fun _ _ => rfl) D.single rfl (by decide +kernel) (hd_F1 (by decide +kernel) (by decide +kernel)) (by omega) _ (fun h a b i g t u => ⟨i, a, b, rfl, g, t, u⟩) ih1 ih2
  | e1 _ ih => exact rch_one D.mBoth (fun _ _ => rfl) D.both rfl (rch_end D D.both (by decide +kernel) (by omega) ih)
  | e2 _ _ ih1 ih2 =>
    refine rch_more D D.mBoth (fun _ _ => rfl) D.both rfl (by decide +kernel) (fun x hx => ?_) (by omega) _ (fun h a b i g t u => ⟨i, a, b, rfl, g, t, u⟩) ih1 (rch_end D D.both (by decide +kernel) (by omega) ih2)
    rcases List.mem_cons.mp hx with q | q
    · subst q; decide +kernel
    · exact hd_F1 (by decide +kernel) (by decide +kernel) x q
end
end Pl

set_option linter.all false
set_option autoImplicit false
set_option maxRecDepth 100000
set_option maxHeartbeats 1000000
namespace Pl
open PySem Dv
def xHolds : St := (.seq (.asg (.one 2) (.idx (.var 0) (.cst (.int 0)))) (.seq (.ifs (.val (.cmp .Eq (.var 2) (.cst (.str "not")))) (.seq (.ret (.not (.call "holds" (.cons (.idx (.var 0) (.cst (.int 1))) (.cons (.var 1) .nil))))) .skip) .skip) (.seq (.ifs (.val (.cmp .Eq (.var 2) (.cst (.str "and")))) (.seq (.ret (.and (.call "holds" (.cons (.idx (.var 0) (.cst (.int 1))) (.cons (.var 1) .nil))) (.call "holds" (.cons (.idx (.var 0) (.cst (.int 2))) (.cons (.var 1) .nil))))) .skip) .skip) (.seq (.ifs (.val (.cmp .Eq (.var 2) (.cst (.str "or")))) (.seq (.ret (.or (.call "holds" (.cons (.idx (.var 0) (.cst (.int 1))) (.cons (.var 1) .nil))) (.call "holds" (.cons (.idx (.var 0) (.cst (.int 2))) (.cons (.var 1) .nil))))) .skip) .skip) (.seq (.asg (.one 3) (.bm (.var 1) .get (.cons (.idx (.var 0) (.cst (.int 1))) .nil))) (.seq (.ifs (.val (.cmp .Is (.var 3) (.cst .non))) (.seq (.ret (.cst (.bl false))) .skip) .skip) (.seq (.ret (.or (.cmp .Eq (.var 2) (.cst (.str "name"))) (.or (.and (.cmp .Eq (.var 2) (.cst (.str "equal"))) (.cmp .Eq (.var 3) (.idx (.var 0) (.cst (.int 2))))) (.and (.cmp .Eq (.var 2) (.cst (.str "less"))) (.cmp .Lt (.var 3) (.idx (.var 0) (.cst (.int 2)))))))) .skip)))))))
section
variable {G : Tx} {n : Nat} {h h1 h2 : VH} {i j : Nat} {o : Orc} {s : Sl} {e a b : Ex} {xs : List Vv} {v w : Vv} {ws : List Str} {c : Cd}
/-- a parse of a condition's words -/
theorem parse_tree (D : Rdr G) (hn : 300 ≤ n) (g : Gr .ei ws c) (hl : ws.length ≤ 60) : ∃ v h', run G n "parse" [.str (Txt.join sp ws), .bl false] h = some (.ok v h') ∧ HLe h h' ∧ TreeR h' c v := by
  have hw := g.wd
  have R : ∀ {q t}, evS G (oc G n) xParse [some (.str (Txt.join sp ws)), some (.bl false), none, none] h = t → retR t = q → run G n "parse" [.str (Txt.join sp ws), .bl false] h = q := fun e1 e2 => run_ev D.parse (by omega) rfl rfl e1 e2
  have e1 := isi_ty (G := G) (h := h) (v := .str (Txt.join sp ws)) (m := "str") (T := "str") rfl (by decide)
  have jl := (join_len hw (by omega)).2
  have c1 : evT G (oc G n) (.not (.val (.bf .isinst (.cons (.var 0) (.cons (.cst (.ty "str")) .nil))))) [some (.str (Txt.join sp ws)), some (.bl false), none, none] h = some (.ok false h) := by
    have c : callb G .isinst [.str (Txt.join sp ws), .ty "str"] h = some (.ok (.bl true) h) := by simp [callb, e1, ok1]
    simp only [evT, evE, evEs, List.getElem?_cons_zero, Rb_ok, c, truth]
    rfl
  have c2 : evE G (oc G n) (.bm (.var 0) .split (.cons (.cst (.str " ")) .nil)) [some (.str (Txt.join sp ws)), some (.bl false), none, none] h = some (.ok (.ref h.length) (h ++ [.lst (ws.map .str)])) := by
    have b : bmeth G (.str (Txt.join sp ws)) .split [.str sp] h = some (.ok (.ref h.length) (h ++ [.lst (ws.map .str)])) := by
      show (if _ then _ else _) = _
      rw [if_pos ⟨rfl, by have : sz = 16777216 := rfl; omega⟩, split_join_sp g.ne hw]
      rfl
    simp only [evE, evEs, List.getElem?_cons_zero, Rb_ok, brecv, if_true]
    exact b
  have d0 : Rd (h ++ [.lst (ws.map .str)] ++ [.ins "Reader" (rf h.length 0)]) (h ++ [Ho.lst (ws.map .str)]).length h.length ws 0 := ⟨get_new, get_app get_new, by simp, fun w hm => ⟨(hw w hm).1, (hw w hm).2.1⟩⟩
  have c3 : evE G (oc G n) (.mk "Reader" (.cons (.bm (.var 0) .split (.cons (.cst (.str " ")) .nil)) (.cons (.var 1) .nil))) [some (.str (Txt.join sp ws)), some (.bl false), none, none] h = some (.ok (.ref (h ++ [Ho.lst (ws.map .str)]).length) (h ++ [.lst (ws.map .str)] ++ [.ins "Reader" (rf h.length 0)])) :=
    mk_ok D.mIni D.ini rfl (es_cons' c2 (es_cons' (h2 := h ++ [Ho.lst (ws.map .str)]) (v := .bl false) rfl rfl)) (rini_ok D (by omega))
  have l0 : HLe h (h ++ [.lst (ws.map .str)] ++ [.ins "Reader" (rf h.length 0)]) := (HLe.app _ _).trans (HLe.app _ _)
  have hk : h.length ≤ (h ++ [Ho.lst (ws.map .str)]).length := by simp
  have M : evE G (oc G n) (.meth (.var 2) "either" .nil) [some (.str (Txt.join sp ws)), some (.bl false), some (.ref (h ++ [Ho.lst (ws.map .str)]).length), none] (h ++ [.lst (ws.map .str)] ++ [.ins "Reader" (rf h.length 0)]) = _ := meth_ok D.mEither rfl D.either rfl d0 rfl rfl
  have rg : Rch G (h ++ [Ho.lst (ws.map .str)]).length h.length ws "both" "or" 27 F2 ws c := read_gr D g
  obtain ⟨v, h2, e2, d2, l2, t2⟩ := rch_end (f := "Reader.either") D D.either (by decide +kernel) (by omega) rg (n - 1) _ 0 [] (by omega) d0 (by simp) (by omega) (fun w _ z => by cases z)
  have H : evE G (oc G n) (.meth (.var 2) "here" .nil) [some (.str (Txt.join sp ws)), some (.bl false), some (.ref (h ++ [Ho.lst (ws.map .str)]).length), some v] h2 = some (.ok .non h2) := by
    have hv : hereV ws (0 + ws.length) = .non := by simp [hereV]
    rw [meth_ok D.mHere rfl D.here rfl d2 rfl rfl, here_ok D (by omega) d2, hv]
  have c4 : evT G (oc G n) (.val (.cmp .IsNot (.meth (.var 2) "here" .nil) (.cst .non))) [some (.str (Txt.join sp ws)), some (.bl false), some (.ref (h ++ [Ho.lst (ws.map .str)]).length), some v] h2 = some (.ok false h2) := by
    have H' := H
    simp only [evT, evE] at H' ⊢
    rw [H']
    rfl
  exact ⟨v, h2, R (seq_nx (ifs_f c1 rfl) (seq_nx (asg_of c3) (seq_nx (asg_of (M.trans e2)) (seq_nx (ifs_f c4 rfl) (seq_rt (ret_of rfl)))))) rfl, HLx.new l0 hk l2, t2⟩
/-- a condition at i: its text, its tree -/
def CdAt (h : VH) (i : Nat) (ws : List Str) (c : Cd) : Prop := ∃ v, h[i]? = some (.ins "Condition" [("own_text", .str (Txt.join sp ws)), ("own_tree", v)]) ∧ TreeR h c v
theorem CdAt.keep (q : CdAt h i ws c) (l : HLe h h1) : CdAt h1 i ws c := by obtain ⟨v, a, t⟩ := q; exact ⟨v, l _ _ a, t.keep l.tk⟩
theorem readc_ok (D : Rdr G) (hn : 302 ≤ n) (g : Gr .ei ws c) (hl : ws.length ≤ 60) : ∃ i h', run G n "read_condition" [.str (Txt.join sp ws)] h = some (.ok (.ref i) h') ∧ HLe h h' ∧ h.length ≤ i ∧ CdAt h' i ws c := by
  obtain ⟨v, h1, e, l, t⟩ := parse_tree (G := G) (n := n - 1) (h := h) D (by omega) g hl
  have l1 := HLe.app h1 [.ins "Condition" [("own_text", .str (Txt.join sp ws)), ("own_tree", v)]]
  have le : h.length ≤ h1.length := by
    rcases Nat.lt_or_ge h1.length h.length with q | q
    · have := l h1.length _ (List.getElem?_eq_getElem q)
      have := lt_of_get this
      omega
    · exact q
  refine ⟨h1.length, h1 ++ [.ins "Condition" [("own_text", .str (Txt.join sp ws)), ("own_tree", v)]], ?_, l.trans l1, le, v, get_new, t.keep l1.tk⟩
  refine run_ev D.readC (by omega) rfl rfl (s := [some (.str (Txt.join sp ws))]) (r := some (.rt (.ref h1.length) (h1 ++ [.ins "Condition" [("own_text", .str (Txt.join sp ws)), ("own_tree", v)]]))) ?_ rfl
  refine seq_rt (ret_of (mk_ok D.mcIni D.cIni rfl (vs := [.str (Txt.join sp ws), v]) (h1 := h1) ?_ (cini_ok D (by omega))))
  refine es_cons' (eVar (i := 0) rfl) (es_cons' ?_ es_nil)
  rw [evE, es_cons' (eVar (i := 0) rfl) (es_cons' (v := .bl false) rfl es_nil), Rb_ok, orc_call, call_of D.parse rfl, e]
theorem ix_tup (g : h[i]? = some (.tup xs)) {k : Nat} (q : xs[k]? = some v) : index G (.ref i) (.int k) h = some (.ok v h) := by
  have ob : obj G h (.ref i) = some (.tup xs) := g
  have hs : seqOf G h (.ref i) = some xs := by unfold seqOf; rw [ob]
  have hk : k < xs.length := (List.getElem?_eq_some_iff.mp q).1
  have q2 : xs[k] = v := by rw [List.getElem?_eq_getElem hk] at q; exact Option.some.inj q
  simp [index, hs, place, hk, q2, ok1]
theorem e_ix (hj : s[j]? = some (some (.ref i))) (g : h[i]? = some (.tup xs)) {k : Nat} (q : xs[k]? = some v) : evE G o (.idx (.var j) (.cst (.int k))) s h = some (.ok v h) := by
  rw [evE, eVar hj, Rb_ok]
  rw [evE, Rb_ok, ix_tup g q]
theorem e_orT (k : evE G o a s h = some (.ok (.bl true) h1)) : evE G o (.or a b) s h = some (.ok (.bl true) h1) := by rw [evE, k, Rb_ok]; rfl
theorem e_orF (k : evE G o a s h = some (.ok (.bl false) h1)) {q : Option (Re Vv)} (k2 : evE G o b s h1 = q) : evE G o (.or a b) s h = q := by rw [evE, k, Rb_ok]; exact k2
theorem e_andF (k : evE G o a s h = some (.ok (.bl false) h1)) : evE G o (.and a b) s h = some (.ok (.bl false) h1) := by rw [evE, k, Rb_ok]; rfl
theorem e_andT (k : evE G o a s h = some (.ok (.bl true) h1)) {q : Option (Re Vv)} (k2 : evE G o b s h1 = q) : evE G o (.and a b) s h = q := by rw [evE, k, Rb_ok]; exact k2
theorem e_or2 {x y : Bool} (k : evE G o a s h = some (.ok (.bl x) h1)) (k2 : evE G o b s h1 = some (.ok (.bl y) h1)) : evE G o (.or a b) s h = some (.ok (.bl (x || y)) h1) := by
  cases x with
  | true => exact e_orT k
  | false => exact e_orF k k2
theorem e_and2 {x y : Bool} (k : evE G o a s h = some (.ok (.bl x) h1)) (k2 : evE G o b s h1 = some (.ok (.bl y) h1)) : evE G o (.and a b) s h = some (.ok (.bl (x && y)) h1) := by
  cases x with
  | true => exact e_andT k k2
  | false => exact e_andF k
theorem e_not2 {x : Bool} (k : evE G o a s h = some (.ok (.bl x) h1)) : evE G o (.not a) s h = some (.ok (.bl (!x)) h1) := by rw [evE, k, Rb_ok]; rfl
/-- the values of the names -/
def Vals (h : VH) (d : Nat) (f : Str → Option Int) : Prop := ∃ kvs, h[d]? = some (.dct kvs) ∧ ∀ x ∈ NMS, (valK kvs (.inr x)).getD .non = (match f x with | some i => .int i | none => .non)
theorem Vals.keep {d : Nat} {f : Str → Option Int} (q : Vals h d f) (l : HLe h h1) : Vals h1 d f := by obtain ⟨k, a, b⟩ := q; exact ⟨k, l _ _ a, b⟩
def vOf (f : Str → Option Int) (x : Str) : Vv := match f x with | some i => .int i | none => .non
theorem e_get {d : Nat} {f : Str → Option Int} {x : Str} (V : Vals h d f) (hx : x ∈ NMS) (hj : s[j]? = some (some (.ref d))) (k : evE G o a s h = some (.ok (.str x) h)) : evE G o (.bm (.var j) .get (.cons a .nil)) s h = some (.ok (vOf f x) h) := by
  obtain ⟨kvs, g, q⟩ := V
  rw [evE, eVar hj, Rb_ok]
  show (if (match h[d]? with | some (.dct _) => true | _ => false) = true then Rb (evEs G o (.cons a .nil) s h) fun vs h2 => bmeth G (.ref d) .get vs h2 else none) = _
  rw [g]
  show (if true = true then _ else _) = _
  rw [if_pos rfl, es_cons' k es_nil, Rb_ok]
  show (match h[d]? with | some (.dct kvs) => (keyOf (.str x)).bind fun k => ok1 ((valK kvs k).getD .non) h | _ => none) = _
  rw [g]
  show ok1 ((valK kvs (.inr x)).getD .non) h = _
  rw [q x hx]; rfl
def Cd.dep : Cd → Nat
  | .no c => c.dep + 1
  | .an c d => max c.dep d.dep + 1
  | .ro c d => max c.dep d.dep + 1
  | _ => 1
def Cd.ok (c : Cd) : Prop := ∀ l ∈ c.lvs, l.nam ∈ NMS
theorem Gr.okk {k : Kd} (g : Gr k ws c) : c.ok := by
  have q := g.nms
  intro l hl
  have : l.nam ∈ c.nms := List.mem_map.mpr ⟨l, hl, rfl⟩
  rw [← q] at this
  exact of_decide_eq_true (List.mem_filter.mp this).2
theorem Gr.dep {k : Kd} (g : Gr k ws c) : c.dep ≤ ws.length := by
  induction g <;> first | assumption | (simp only [Cd.dep, List.length_cons, List.length_append, List.length_nil] at *; omega)
theorem cmp_ii' {x y : Int} : cmpop G o .Eq (.int x) (.int y) h = some (.ok (.bl (decide (x = y))) h) := cmp_ii
/-- what a def says of a tree -/
theorem holds_ok (hf : G.fns "holds" = some ⟨2, 4, xHolds, []⟩) {d : Nat} {f : Str → Option Int} : ∀ (c : Cd) (n : Nat) (h : VH) (v : Vv), 3 + c.dep ≤ n → c.ok → TreeR h c v → Vals h d f → run G n "holds" [v, .ref d] h = some (.ok (.bl (sem f c)) h) := by
  intro c
  -- the kinds
  have K : ∀ {n : Nat} {h : VH} {i : Nat} {kd : Str} {r : List Vv} {q : Option Sr}, 2 ≤ n → h[i]? = some (.tup (.str kd :: r)) → SeqAt.shaped (.str kd) = true →
      (∀ w : Str, SeqAt.shaped (.str w) = true → ∀ x3 hh, evT G (oc G n) (.val (.cmp .Eq (.var 2) (.cst (.str w)))) [some (.ref i), some (.ref d), some (.str kd), x3] hh = some (.ok (decide (kd = w)) hh)) ∧
      evS G (oc G n) (.asg (.one 2) (.idx (.var 0) (.cst (.int 0)))) [some (.ref i), some (.ref d), none, none] h = some (.nx [some (.ref i), some (.ref d), some (.str kd), none] h) := fun {n h i kd r q} hn g hs => by
    refine ⟨fun w hw x3 hh => val_of (tEq (j := 2) rfl hs hw), asg_of (i := 2) ?_⟩
    exact e_ix (k := 0) rfl g rfl
  -- the leaves
  have leaf : ∀ {n : Nat} {h : VH} {i : Nat} {kd x : Str} {r : List Vv} {b : Bool}, 2 ≤ n → h[i]? = some (.tup (.str kd :: .str x :: r)) → SeqAt.shaped (.str kd) = true → kd ≠ "not" → kd ≠ "and" → kd ≠ "or" → x ∈ NMS → Vals h d f →
      (∀ k, f x = some k → evE G (oc G n) (.or (.cmp .Eq (.var 2) (.cst (.str "name"))) (.or (.and (.cmp .Eq (.var 2) (.cst (.str "equal"))) (.cmp .Eq (.var 3) (.idx (.var 0) (.cst (.int 2))))) (.and (.cmp .Eq (.var 2) (.cst (.str "less"))) (.cmp .Lt (.var 3) (.idx (.var 0) (.cst (.int 2))))))) [some (.ref i), some (.ref d), some (.str kd), some (.int k)] h = some (.ok (.bl b) h)) → (f x = none → b = false) →
      run G n "holds" [.ref i, .ref d] h = some (.ok (.bl b) h) := fun {n h i kd x r b} hn g hs k1 k2 k3 hx V fin fno => by
    obtain ⟨T, e0⟩ := K (n := n) (q := none) hn g hs
    refine run_ev hf hn rfl rfl (s := [some (.ref i), some (.ref d), none, none]) (r := some (.rt (.bl b) h)) ?_ rfl
    refine seq_nx e0 (seq_nx (ifs_f (shw (decide_eq_false k1) (T "not" (by decide +kernel) none h)) rfl) (seq_nx (ifs_f (shw (decide_eq_false k2) (T "and" (by decide +kernel) none h)) rfl) (seq_nx (ifs_f (shw (decide_eq_false k3) (T "or" (by decide +kernel) none h)) rfl) (seq_nx (asg_of (i := 3) (e_get V hx (j := 1) rfl (e_ix (k := 1) rfl g rfl))) ?_))))
    show evS G (oc G n) _ [some (.ref i), some (.ref d), some (.str kd), some (vOf f x)] h = _
    cases q : f x with
    | none =>
      rw [fno q]
      have e : vOf f x = .non := by unfold vOf; rw [q]
      rw [e]
      exact seq_rt (ifs_t rfl (seq_rt (ret_of rfl)))
    | some k =>
      have e : vOf f x = .int k := by unfold vOf; rw [q]
      rw [e]
      exact seq_nx (ifs_f rfl rfl) (seq_rt (ret_of (fin k q)))
  have sub : ∀ {n : Nat} {h : VH} {i k : Nat} {kd : Str} {xs : List Vv} {a : Vv} {q : Option (Re Vv)} {x3 : Option Vv}, h[i]? = some (.tup xs) → xs[k]? = some a → run G (n - 1) "holds" [a, .ref d] h = q → evE G (oc G n) (.call "holds" (.cons (.idx (.var 0) (.cst (.int k))) (.cons (.var 1) .nil))) [some (.ref i), some (.ref d), some (.str kd), x3] h = q := fun {n h i k kd xs a q x3} g hk e => by
    rw [evE, es_cons' (e_ix (j := 0) rfl g hk) (es_cons' (eVar (i := 1) rfl) es_nil), Rb_ok, orc_call, call_of hf rfl, e]
  induction c with
  | nm x =>
    intro n h v hn hk t V
    obtain ⟨i, rfl, g⟩ := t
    have hx : x ∈ NMS := hk (.nm x) List.mem_cons_self
    refine leaf (by omega) g (by decide +kernel) (by decide +kernel) (by decide +kernel) (by decide +kernel) hx V (fun k q => ?_) (fun q => by simp [sem, q])
    have : sem f (.nm x) = true := by simp [sem, q]
    rw [this]
    exact e_orT (tEq (j := 2) (x := "name") rfl (by decide +kernel) (by decide +kernel))
  | eq x z =>
    intro n h v hn hk t V
    obtain ⟨i, rfl, g⟩ := t
    have hx : x ∈ NMS := hk (.eq x z) List.mem_cons_self
    refine leaf (by omega) g (by decide +kernel) (by decide +kernel) (by decide +kernel) (by decide +kernel) hx V (fun k q => ?_) (fun q => by simp [sem, q])
    have : sem f (.eq x z) = (decide (k = z) || false) := by
      simp only [sem, q, Bool.or_false]
      by_cases y : k = z
      · subst y; simp
      · simp [y]
    rw [this]
    have c1 : evE G (oc G n) (.cmp .Eq (.var 3) (.idx (.var 0) (.cst (.int 2)))) [some (.ref i), some (.ref d), some (.str "equal"), some (.int k)] h = some (.ok (.bl (decide (k = z))) h) := by
      rw [evE, eVar (i := 3) rfl, Rb_ok]
      show Rb (evE G _ (.idx (.var 0) (.cst (.int (2 : Nat)))) _ h) _ = _
      rw [e_ix (k := 2) rfl g rfl, Rb_ok, cmp_ii]
    refine e_orF (tEq (j := 2) (x := "equal") rfl (by decide +kernel) (by decide +kernel)) (e_or2 (e_andT (tEq (j := 2) (x := "equal") rfl (by decide +kernel) (by decide +kernel)) c1) ?_)
    exact e_andF (tEq (j := 2) (x := "equal") rfl (by decide +kernel) (by decide +kernel))
  | lt x z =>
    intro n h v hn hk t V
    obtain ⟨i, rfl, g⟩ := t
    have hx : x ∈ NMS := hk (.lt x z) List.mem_cons_self
    refine leaf (by omega) g (by decide +kernel) (by decide +kernel) (by decide +kernel) (by decide +kernel) hx V (fun k q => ?_) (fun q => by simp [sem, q])
    have : sem f (.lt x z) = decide (k < z) := by simp [sem, q]
    rw [this]
    have c1 : evE G (oc G n) (.cmp .Lt (.var 3) (.idx (.var 0) (.cst (.int 2)))) [some (.ref i), some (.ref d), some (.str "less"), some (.int k)] h = some (.ok (.bl (decide (k < z))) h) := by
      rw [evE, eVar (i := 3) rfl, Rb_ok]
      show Rb (evE G _ (.idx (.var 0) (.cst (.int (2 : Nat)))) _ h) _ = _
      rw [e_ix (k := 2) rfl g rfl, Rb_ok]
      rfl
    exact e_orF (tEq (j := 2) (x := "less") rfl (by decide +kernel) (by decide +kernel)) (e_orF (e_andF (tEq (j := 2) (x := "less") rfl (by decide +kernel) (by decide +kernel))) (e_andT (tEq (j := 2) (x := "less") rfl (by decide +kernel) (by decide +kernel)) c1))
  | no c ih =>
    intro n h v hn hk t V
    obtain ⟨i, a, rfl, g, t⟩ := t
    simp only [Cd.dep] at hn
    obtain ⟨T, e0⟩ := K (n := n) (q := none) (by omega) g (by decide +kernel)
    have e1 := ih (n - 1) h a (by omega) hk t V
    exact run_ev hf (by omega) rfl rfl (s := [some (.ref i), some (.ref d), none, none]) (r := some (.rt (.bl (!sem f c)) h)) (seq_nx e0 (seq_rt (ifs_t (T "not" (by decide +kernel) none h) (seq_rt (ret_of (e_not2 (sub (k := 1) g rfl e1))))))) rfl
  | an c d' ih1 ih2 =>
    intro n h v hn hk t V
    obtain ⟨i, a, b, rfl, g, t, u⟩ := t
    simp only [Cd.dep] at hn
    obtain ⟨T, e0⟩ := K (n := n) (q := none) (by omega) g (by decide +kernel)
    have e1 := ih1 (n - 1) h a (by omega) (fun l hl => hk l (List.mem_append_left _ hl)) t V
    have e2 := ih2 (n - 1) h b (by omega) (fun l hl => hk l (List.mem_append_right _ hl)) u V
    exact run_ev hf (by omega) rfl rfl (s := [some (.ref i), some (.ref d), none, none]) (r := some (.rt (.bl (sem f c && sem f d')) h)) (seq_nx e0 (seq_nx (ifs_f (T "not" (by decide +kernel) none h) rfl) (seq_rt (ifs_t (T "and" (by decide +kernel) none h) (seq_rt (ret_of (e_and2 (sub (k := 1) g rfl e1) (sub (k := 2) g rfl e2)))))))) rfl
  | ro c d' ih1 ih2 =>
    intro n h v hn hk t V
    obtain ⟨i, a, b, rfl, g, t, u⟩ := t
    simp only [Cd.dep] at hn
    obtain ⟨T, e0⟩ := K (n := n) (q := none) (by omega) g (by decide +kernel)
    have e1 := ih1 (n - 1) h a (by omega) (fun l hl => hk l (List.mem_append_left _ hl)) t V
    have e2 := ih2 (n - 1) h b (by omega) (fun l hl => hk l (List.mem_append_right _ hl)) u V
    exact run_ev hf (by omega) rfl rfl (s := [some (.ref i), some (.ref d), none, none]) (r := some (.rt (.bl (sem f c || sem f d')) h)) (seq_nx e0 (seq_nx (ifs_f (T "not" (by decide +kernel) none h) rfl) (seq_nx (ifs_f (T "and" (by decide +kernel) none h) rfl) (seq_rt (ifs_t (T "or" (by decide +kernel) none h) (seq_rt (ret_of (e_or2 (sub (k := 1) g rfl e1) (sub (k := 2) g rfl e2))))))))) rfl
end
end Pl

set_option linter.all false
set_option autoImplicit false
set_option maxRecDepth 100000
set_option maxHeartbeats 1000000
namespace Pl
open PySem Dv
def xLeaves : St := (.seq (.ifs (.val (.cmp .In (.idx (.var 0) (.cst (.int 0))) (.tup (.cons (.cst (.str "not")) (.cons (.cst (.str "and")) (.cons (.cst (.str "or")) .nil)))))) (.seq (.ret (.lc2 (.var 2) [1, 2] [1] (.val (.slc (.var 0) (.cst (.int 1)) .noe)) .yes [2] (.val (.call "leaves_in" (.cons (.var 1) .nil))) .yes)) .skip) .skip) (.seq (.ret (.lst (.cons (.var 0) .nil))) .skip))
def xNames : St := (.seq (.asg (.one 1) (.lst .nil)) (.seq (.for_ [2] (.val (.call "leaves_in" (.cons (.var 0) .nil))) (.seq (.ifs (.val (.cmp .NotIn (.idx (.var 2) (.cst (.int 1))) (.var 1))) (.seq (.expr (.bm (.var 1) .append (.cons (.idx (.var 2) (.cst (.int 1))) .nil))) .skip) .skip) .skip)) (.seq (.ret (.var 1)) .skip)))
section
variable {G : Tx} {n : Nat} {h h1 h2 : VH} {i j d : Nat} {o : Orc} {s : Sl} {e a b : Ex} {xs : List Vv} {v w : Vv} {ws : List Str} {c : Cd}
abbrev PT (h : VH) : List Cd → List Vv → Prop := PySem.Paired (TreeR h)
theorem PT.keep (l : TK h h1) : ∀ {cs : List Cd} {vs : List Vv}, PT h cs vs → PT h1 cs vs
  | _, _, .nil => .nil
  | _, _, .cons t p => .cons (t.keep l) (PT.keep l p)
theorem src_lst' {p : Nat} (g : h[p]? = some (.lst xs)) : srcOf G 1 (.ref p) h = some ⟨xs.map fun v => [v], some (.ref p), xs, true, false⟩ ∧ keeps G ⟨xs.map fun v => [v], some (.ref p), xs, true, false⟩ h = true := by
  have ob : obj G h (.ref p) = some (.lst xs) := g
  have q : seqOf G h (.ref p) = some xs ∧ isL G h (.ref p) = true := by
    unfold seqOf isL
    rw [ob]
    exact ⟨rfl, rfl⟩
  refine ⟨?_, by simp [keeps, q.1, q.2]⟩
  show (if 1 = 1 then (seqOf G h (.ref p)).map (fun xs => (⟨xs.map fun v => [v], some (.ref p), xs, isL G h (.ref p), false⟩ : Src)) else _) = _
  rw [if_pos rfl, q.1, q.2]; rfl
/-- items put to a list -/
theorem lc_push {kp : VH → Bool} {sl : Sl} (h2 : 2 < sl.length) : ∀ (ls acc : List Vv) (h : VH), h[d]? = some (.lst acc) → (∀ acc', kp (h.set d (.lst acc')) = true) → acc.length + ls.length < 1000000 →
    lcF (evE G o (.var 2)) (evT G o .yes) sl [2] kp d (ls.map fun v => [v]) h = some (.ok (.ref d) (h.set d (.lst (acc ++ ls))))
  | [], acc, h, g, hk, hl => by
    have e : h.set d (.lst acc) = h := by
      obtain ⟨q, r⟩ := List.getElem?_eq_some_iff.mp g
      rw [← r]; exact List.set_getElem_self q
    have k := hk acc
    rw [e] at k
    rw [List.append_nil, e, List.map_nil, lcF, if_pos k]
  | x :: r, acc, h, g, hk, hl => by
    have e : h.set d (.lst acc) = h := by
      obtain ⟨q, r⟩ := List.getElem?_eq_some_iff.mp g
      rw [← r]; exact List.set_getElem_self q
    have k := hk acc
    rw [e] at k
    have hd : d < h.length := lt_of_get g
    have g2 : (h.set d (.lst (acc ++ [x])))[d]? = some (.lst (acc ++ [x])) := List.getElem?_set_self hd
    have ih := lc_push h2 r (acc ++ [x]) (h.set d (.lst (acc ++ [x]))) g2 (fun acc' => by rw [List.set_set]; exact hk acc') (by
      rw [List.length_append, List.length_singleton]; rw [List.length_cons] at hl; omega)
    rw [List.set_set, List.append_assoc, List.singleton_append] at ih
    have v2 : evE G o (.var 2) (sl.set 2 (some x)) h = some (.ok x h) := eVar (List.getElem?_set_self h2)
    have sT : setT [2] sl [x] = some (sl.set 2 (some x)) := rfl
    have y2 : evT G o .yes (sl.set 2 (some x)) h = some (.ok true h) := rfl
    rw [List.map_cons, lcF, if_pos k]
    simp only [sT, y2, v2, g]
    rw [if_pos (by show acc.length < 16777216; omega)]
    exact ih
theorem keeps_lst {k : Nat} (g : h[k]? = some (.lst xs)) : keeps G ⟨xs.map fun v => [v], some (.ref k), xs, true, false⟩ h = true := (src_lst' (G := G) g).2
theorem src_tup {p : Nat} (g : h[p]? = some (.tup xs)) : srcOf G 1 (.ref p) h = some ⟨xs.map fun v => [v], some (.ref p), xs, false, false⟩ ∧ keeps G ⟨xs.map fun v => [v], some (.ref p), xs, false, false⟩ h = true := by
  have ob : obj G h (.ref p) = some (.tup xs) := g
  have hs : seqOf G h (.ref p) = some xs := by
    unfold seqOf
    rw [ob]
  have hL : isL G h (.ref p) = false := by
    unfold isL
    rw [ob]
  refine ⟨?_, ?_⟩
  · show (if 1 = 1 then (seqOf G h (.ref p)).map (fun xs => (⟨xs.map fun v => [v], some (.ref p), xs, isL G h (.ref p), false⟩ : Src)) else _) = _
    rw [if_pos rfl, hs, hL]; rfl
  · simp [keeps, hs, hL]
/-- what a leaves_in says of a tree -/
def LvS (G : Tx) (n : Nat) (c : Cd) : Prop := ∀ (h : VH) (v : Vv), TreeR h c v → ∃ k ls h', run G n "leaves_in" [v] h = some (.ok (.ref k) h') ∧ HLe h h' ∧ h.length ≤ k ∧ h'[k]? = some (.lst ls) ∧ PT h' c.lvs ls
theorem len_le (l : HLe h h1) : h.length ≤ h1.length := by
  rcases Nat.lt_or_ge h1.length h.length with q | q
  · have := l h1.length _ (List.getElem?_eq_getElem q)
    have := lt_of_get this
    omega
  · exact q
/-- the parts of a tree, one after the other -/
theorem parts_ok (hf : G.fns "leaves_in" = some ⟨1, 3, xLeaves, []⟩) {sl : Sl} (hs : 2 < sl.length) {kp : VH → Bool} : ∀ (cs : List Cd) (as acc : List Vv) (h : VH), (∀ c ∈ cs, LvS G (n - 1) c) → PT h cs as → h[d]? = some (.lst acc) → (∀ h', HLx d h h' → kp h' = true) → acc.length + (cs.flatMap Cd.lvs).length < 1000000 →
    ∃ ls h', lc2F (fun s1 h2 => Rb (evI G (oc G n) (.val (.call "leaves_in" (.cons (.var 1) .nil))) [2].length s1 h2) fun S1 h3 => lcF (evE G (oc G n) (.var 2)) (evT G (oc G n) .yes) (wipeV s1 [2]) [2] (keeps G S1) d S1.items h3) (evT G (oc G n) .yes) sl [1] kp d (as.map fun v => [v]) h = some (.ok (.ref d) h') ∧ HLx d h h' ∧ h'[d]? = some (.lst (acc ++ ls)) ∧ PT h' (cs.flatMap Cd.lvs) ls
  | [], _, acc, h, _, .nil, g, hk, _ => ⟨[], h, by rw [List.map_nil, lc2F, if_pos (hk h ((HLe.refl h).x d))], (HLe.refl h).x d, by rw [List.append_nil]; exact g, .nil⟩
  | c :: cs, _, acc, h, L, .cons (b := a) (l₂ := as) t p, g, hk, hl => by
    obtain ⟨k, ls, h1, e1, l1, hk1, g1, p1⟩ := L c List.mem_cons_self h a t
    have hd := lt_of_get g
    have gd := l1 _ _ g
    have hd1 := lt_of_get gd
    have kd : k ≠ d := by omega
    have lsl : ls.length = c.lvs.length := p1.length.symm
    rw [List.flatMap_cons, List.length_append] at hl
    have psh := lc_push (G := G) (o := oc G n) (kp := keeps G ⟨ls.map fun v => [v], some (.ref k), ls, true, false⟩) (sl := wipeV (sl.set 1 (some a)) [2]) (by simp [wipeV]; exact hs) ls acc h1 gd (fun acc' => keeps_lst (by rw [List.getElem?_set_ne (Ne.symm kd)]; exact g1)) (by omega)
    have g2 : (h1.set d (.lst (acc ++ ls)))[d]? = some (.lst (acc ++ ls)) := List.getElem?_set_self hd1
    have x2 : HLx d h (h1.set d (.lst (acc ++ ls))) := (l1.x d).trans (HLx.set _ _ _)
    have nt : ∀ (hh : VH) (zs ys : List Vv), hh[d]? = some (.lst ys) → hh[d]? ≠ some (.tup zs) := fun hh zs ys q z => by rw [q] at z; cases z
    have tk2 : TK h (h1.set d (.lst (acc ++ ls))) := x2.tk fun zs => nt _ _ _ g
    have tk1 : TK h1 (h1.set d (.lst (acc ++ ls))) := (HLx.set d h1 _).tk fun zs => nt _ _ _ gd
    obtain ⟨ls2, h3, e3, x3, g3, p3⟩ := parts_ok hf hs cs as (acc ++ ls) _ (fun c hc => L c (List.mem_cons_of_mem _ hc)) (PT.keep tk2 p) g2 (fun h' x => hk h' (x2.trans x)) (by
      rw [List.length_append]; omega)
    refine ⟨ls ++ ls2, h3, ?_, x2.trans x3, by rw [← List.append_assoc]; exact g3, ?_⟩
    · have sT : setT [1] sl [a] = some (sl.set 1 (some a)) := rfl
      have y1 : evT G (oc G n) .yes (sl.set 1 (some a)) h = some (.ok true h) := rfl
      have c1 : evE G (oc G n) (.call "leaves_in" (.cons (.var 1) .nil)) (sl.set 1 (some a)) h = some (.ok (.ref k) h1) := by
        rw [evE, es_cons' (eVar (i := 1) (List.getElem?_set_self (by omega))) es_nil, Rb_ok, orc_call, call_of hf rfl, e1]
      have i1 : evI G (oc G n) (.val (.call "leaves_in" (.cons (.var 1) .nil))) [2].length (sl.set 1 (some a)) h = some (.ok ⟨ls.map fun v => [v], some (.ref k), ls, true, false⟩ h1) := by
        rw [evI, c1, Rb_ok]
        show (srcOf G 1 (.ref k) h1).map _ = _
        rw [(src_lst' (G := G) g1).1]; rfl
      rw [List.map_cons, lc2F, if_pos (hk h ((HLe.refl h).x d))]
      simp only [sT, y1, i1, Rb_ok, psh]
      exact e3
    · rw [List.flatMap_cons]
      exact Paired.app (PT.keep (HLx.tk ((HLx.set d h1 _).trans x3) fun zs => nt _ _ _ gd) p1) p3
theorem in_tup3 {x : Str} (hj : evE G o a s h = some (.ok (.str x) h)) {b : Bool} (q : b = decide (x = "not" ∨ x = "and" ∨ x = "or")) : evT G o (.val (.cmp .In a (.tup (.cons (.cst (.str "not")) (.cons (.cst (.str "and")) (.cons (.cst (.str "or")) .nil)))))) s h = some (.ok b (h ++ [.tup [.str "not", .str "and", .str "or"]])) := by
  subst q
  refine val_of ?_
  have hs : seqOf G (h ++ [.tup [.str "not", .str "and", .str "or"]]) (.ref h.length) = some [.str "not", .str "and", .str "or"] := by
    have g : obj G (h ++ [.tup [.str "not", .str "and", .str "or"]]) (.ref h.length) = some (.tup [.str "not", .str "and", .str "or"]) := get_new
    unfold seqOf
    rw [g]
  have t : evE G o (.tup (.cons (.cst (.str "not")) (.cons (.cst (.str "and")) (.cons (.cst (.str "or")) .nil)))) s h = some (.ok (.ref h.length) (h ++ [.tup [.str "not", .str "and", .str "or"]])) := rfl
  rw [evE, hj, Rb_ok, t, Rb_ok]
  show (seqOf G _ _).bind _ = _
  rw [hs]
  have e : ([Vv.str "not", Vv.str "and", Vv.str "or"].any fun z => feq z (.str x)) = decide (x = "not" ∨ x = "and" ∨ x = "or") := by
    show ((("not" : Str) == x) || ((("and" : Str) == x) || ((("or" : Str) == x) || false))) = _
    rw [Bool.or_false, Bool.eq_iff_iff]
    simp only [Bool.or_eq_true, beq_iff_eq, decide_eq_true_eq]
    constructor
    · rintro (z | z | z) <;> subst z <;> simp
    · rintro (z | z | z) <;> subst z <;> simp
  show ok1 (.bl ([Vv.str "not", Vv.str "and", Vv.str "or"].any fun z => feq z (.str x))) _ = _
  rw [e]; rfl
theorem leaves_ok (hf : G.fns "leaves_in" = some ⟨1, 3, xLeaves, []⟩) : ∀ (c : Cd) (n : Nat), 3 + c.dep ≤ n → c.lvs.length ≤ 1000 → LvS G n c := by
  intro c
  -- a leaf
  have leaf : ∀ {n : Nat} {h : VH} {i : Nat} {kd : Str} {r : List Vv} (c : Cd), 2 ≤ n → h[i]? = some (.tup (.str kd :: r)) → kd ≠ "not" → kd ≠ "and" → kd ≠ "or" → TreeR h c (.ref i) → c.lvs = [c] → ∃ k ls h', run G n "leaves_in" [.ref i] h = some (.ok (.ref k) h') ∧ HLe h h' ∧ h.length ≤ k ∧ h'[k]? = some (.lst ls) ∧ PT h' c.lvs ls := fun {n h i kd r} c hn g k1 k2 k3 t hc => by
    have T := in_tup3 (G := G) (o := oc G n) (s := [some (.ref i), none, none]) (x := kd) (b := false) (e_ix (j := 0) (k := 0) rfl g rfl) (by simp [k1, k2, k3])
    refine ⟨_, [.ref i], _, run_ev hf hn rfl rfl (s := [some (.ref i), none, none]) (r := some (.rt (.ref (h ++ [Ho.tup [.str "not", .str "and", .str "or"]]).length) (h ++ [.tup [.str "not", .str "and", .str "or"]] ++ [.lst [.ref i]]))) (seq_nx (ifs_f T rfl) (seq_rt (ret_of rfl))) rfl, (HLe.app _ _).trans (HLe.app _ _), by simp, get_new, ?_⟩
    rw [hc]
    exact .cons (t.keep ((HLe.app _ _).trans (HLe.app _ _)).tk) .nil
  -- parts
  have more : ∀ {n : Nat} {h : VH} {i : Nat} {kd : Str} {as : List Vv} (c : Cd) (cs : List Cd), 3 ≤ n → h[i]? = some (.tup (.str kd :: as)) → (kd = "not" ∨ kd = "and" ∨ kd = "or") → PT h cs as → cs ≠ [] → (∀ c ∈ cs, LvS G (n - 1) c) → c.lvs = cs.flatMap Cd.lvs → c.lvs.length ≤ 1000 → ∃ k ls h', run G n "leaves_in" [.ref i] h = some (.ok (.ref k) h') ∧ HLe h h' ∧ h.length ≤ k ∧ h'[k]? = some (.lst ls) ∧ PT h' c.lvs ls := fun {n h i kd as} c cs hn g hk p hne L hc hl => by
    have T := in_tup3 (G := G) (o := oc G n) (s := [some (.ref i), none, none]) (x := kd) (b := true) (e_ix (j := 0) (k := 0) rfl g rfl) (by rw [decide_eq_true hk])
    generalize hh : h ++ [Ho.tup [.str "not", .str "and", .str "or"]] = hA at T
    have lA : HLe h hA := by rw [← hh]; exact HLe.app _ _
    have gA := lA _ _ g
    have asn : 0 < as.length := by rw [← p.length]; exact List.length_pos_iff.mpr hne
    have ct : cut (Vv.str kd :: as) (some 1) none = as := by
      have e1 : HT.sIx (as.length + 1) 0 (some 1) = 1 := by simp [HT.sIx]
      have e2 : HT.sIx (as.length + 1) (as.length + 1) none = as.length + 1 := rfl
      unfold cut
      rw [List.length_cons, e1, e2]
      simp
    have hwn : ¬ (HT.sIx (Vv.str kd :: as).length 0 (some 1) = 0 ∧ HT.sIx (Vv.str kd :: as).length (Vv.str kd :: as).length none = (Vv.str kd :: as).length) := by
      rintro ⟨z, _⟩
      have e1 : HT.sIx (as.length + 1) 0 (some 1) = 1 := by simp [HT.sIx]
      rw [List.length_cons, e1] at z
      exact absurd z (by decide)
    have slE : slice (.ref i) (some 1) none hA = some (.ok (.ref hA.length) (hA ++ [.tup as])) := by
      simp only [slice, gA]
      rw [if_neg hwn, ct]
      rfl
    have e1 : evE G (oc G n) (.slc (.var 0) (.cst (.int 1)) .noe) [some (.ref i), none, none] hA = some (.ok (.ref hA.length) (hA ++ [.tup as])) := by
      rw [evE, eVar (i := 0) rfl, Rb_ok]
      exact slE
    have gt : (hA ++ [Ho.tup as])[hA.length]? = some (.tup as) := get_new
    have i1 : evI G (oc G n) (.val (.slc (.var 0) (.cst (.int 1)) .noe)) [1].length [some (.ref i), none, none] hA = some (.ok ⟨as.map fun v => [v], some (.ref hA.length), as, false, false⟩ (hA ++ [.tup as])) := by
      rw [evI, e1, Rb_ok]
      show (srcOf G 1 (.ref hA.length) (hA ++ [.tup as])).map _ = _
      rw [(src_tup (G := G) gt).1]; rfl
    have lB : HLe hA (hA ++ [.tup as] ++ [.lst []]) := (HLe.app _ _).trans (HLe.app _ _)
    have gd : (hA ++ [Ho.tup as] ++ [Ho.lst []])[(hA ++ [Ho.tup as]).length]? = some (.lst []) := get_new
    have ne : hA.length ≠ (hA ++ [Ho.tup as]).length := by simp
    obtain ⟨ls, h', e3, x3, g3, p3⟩ := parts_ok (n := n) (d := (hA ++ [Ho.tup as]).length) hf (sl := wipeV [some (.ref i), none, none] [1, 2]) (by simp [wipeV]) (kp := keeps G ⟨as.map fun v => [v], some (.ref hA.length), as, false, false⟩) cs as [] _ L (PT.keep (lA.trans lB).tk p) gd (fun h' x => (src_tup (G := G) (x _ _ ne (get_app gt))).2) (by
      rw [← hc, List.length_nil]; omega)
    have l3 : HLe hA h' := HLx.new (HLe.app hA [.tup as]) (by simp) (HLx.trans ((HLe.app _ [Ho.lst []]).x _) x3)
    refine ⟨_, ls, h', run_ev hf (by omega) rfl rfl (s := [some (.ref i), none, none]) (r := some (.rt (.ref (hA ++ [Ho.tup as]).length) h')) (seq_rt (ifs_t T (seq_rt (ret_of ?_)))) rfl, lA.trans l3, by rw [← hh]; simp, by rw [List.nil_append] at g3; exact g3, by rw [hc]; exact p3⟩
    rw [evE, i1, Rb_ok]
    exact e3
  induction c with
  | nm x =>
    intro n hn _ h v t
    have t' := t
    obtain ⟨i, rfl, g⟩ := t
    exact leaf _ (by omega) g (by decide +kernel) (by decide +kernel) (by decide +kernel) t' rfl
  | eq x z =>
    intro n hn _ h v t
    have t' := t
    obtain ⟨i, rfl, g⟩ := t
    exact leaf _ (by omega) g (by decide +kernel) (by decide +kernel) (by decide +kernel) t' rfl
  | lt x z =>
    intro n hn _ h v t
    have t' := t
    obtain ⟨i, rfl, g⟩ := t
    exact leaf _ (by omega) g (by decide +kernel) (by decide +kernel) (by decide +kernel) t' rfl
  | no c ih =>
    intro n hn hl h v t
    obtain ⟨i, a, rfl, g, t⟩ := t
    simp only [Cd.dep] at hn
    refine more (.no c) [c] (by omega) g (.inl rfl) (.cons t .nil) (by simp) (fun c' hc => ?_) (by simp [Cd.lvs]) hl
    rw [List.mem_singleton.mp hc]
    exact ih (n - 1) (by omega) hl
  | an c d ih1 ih2 =>
    intro n hn hl h v t
    obtain ⟨i, a, b, rfl, g, t, u⟩ := t
    simp only [Cd.dep] at hn
    have hl2 : c.lvs.length + d.lvs.length ≤ 1000 := by rw [← List.length_append]; exact hl
    refine more (.an c d) [c, d] (by omega) g (.inr (.inl rfl)) (.cons t (.cons u .nil)) (by simp) (fun c' hc => ?_) (by simp [Cd.lvs]) hl
    simp only [List.mem_cons, List.not_mem_nil, or_false] at hc
    rcases hc with q | q <;> subst q
    · exact ih1 (n - 1) (by omega) (by omega)
    · exact ih2 (n - 1) (by omega) (by omega)
  | ro c d ih1 ih2 =>
    intro n hn hl h v t
    obtain ⟨i, a, b, rfl, g, t, u⟩ := t
    simp only [Cd.dep] at hn
    have hl2 : c.lvs.length + d.lvs.length ≤ 1000 := by rw [← List.length_append]; exact hl
    refine more (.ro c d) [c, d] (by omega) g (.inr (.inr rfl)) (.cons t (.cons u .nil)) (by simp) (fun c' hc => ?_) (by simp [Cd.lvs]) hl
    simp only [List.mem_cons, List.not_mem_nil, or_false] at hc
    rcases hc with q | q <;> subst q
    · exact ih1 (n - 1) (by omega) (by omega)
    · exact ih2 (n - 1) (by omega) (by omega)
end
end Pl

set_option linter.all false
set_option autoImplicit false
set_option maxRecDepth 100000
set_option maxHeartbeats 1000000
namespace Pl
open PySem Dv
def xDue : St := (.seq (.asg (.one 1) (.lst .nil)) (.seq (.for_ [2] (.val (.var 0)) (.seq (.ifs (.and (.val (.cmp .In (.var 2) (.tup (.cons (.cst (.str "a")) (.cons (.cst (.str "b")) (.cons (.cst (.str "big")) (.cons (.cst (.str "os")) .nil))))))) (.val (.cmp .NotIn (.var 2) (.var 1)))) (.seq (.expr (.bm (.var 1) .append (.cons (.var 2) .nil))) .skip) .skip) .skip)) (.seq (.ret (.var 1)) .skip)))
section
variable {G : Tx} {n : Nat} {h h1 h2 : VH} {i j d k : Nat} {o : Orc} {s : Sl} {e a b : Ex} {xs : List Vv} {v w : Vv} {ws acc : List Str} {c : Cd} {x : Str}
theorem any_str : ((acc.map Vv.str).any fun z => feq z (.str x)) = decide (x ∈ acc) := by
  rw [Bool.eq_iff_iff, decide_eq_true_eq, List.any_eq_true]
  constructor
  · rintro ⟨z, hz, q⟩
    obtain ⟨y, hy, rfl⟩ := List.mem_map.mp hz
    have q : (y == x) = true := q
    rw [beq_iff_eq] at q
    exact q ▸ hy
  · intro hx
    exact ⟨.str x, List.mem_map.mpr ⟨x, hx, rfl⟩, by show (x == x) = true; exact beq_self_eq_true x⟩
theorem flat_strs : (flat (.str x) && (acc.map Vv.str).all flat) = true := by
  show ((acc.map Vv.str).all flat) = true
  rw [List.all_eq_true]
  intro z hz
  obtain ⟨y, _, rfl⟩ := List.mem_map.mp hz
  rfl
theorem seq_strs (g : h[k]? = some (.lst xs)) : seqOf G h (.ref k) = some xs := by
  have ob : obj G h (.ref k) = some (.lst xs) := g
  unfold seqOf; rw [ob]
theorem notin_strs (g : seqOf G h (.ref k) = some (acc.map .str)) : cmpop G o .NotIn (.str x) (.ref k) h = some (.ok (.bl (!decide (x ∈ acc))) h) := by
  show (seqOf G h (.ref k)).bind _ = _
  rw [g]
  show (if (flat (.str x) && (acc.map Vv.str).all flat) = true then ok1 (.bl (!((acc.map Vv.str).any fun z => feq z (.str x)))) h else none) = _
  rw [if_pos flat_strs, any_str]; rfl
theorem in_strs (g : seqOf G h (.ref k) = some (acc.map .str)) : cmpop G o .In (.str x) (.ref k) h = some (.ok (.bl (decide (x ∈ acc))) h) := by
  show (seqOf G h (.ref k)).bind _ = _
  rw [g]
  show (if (flat (.str x) && (acc.map Vv.str).all flat) = true then ok1 (.bl ((acc.map Vv.str).any fun z => feq z (.str x))) h else none) = _
  rw [if_pos flat_strs, any_str]; rfl
/-- a text put to a list -/
theorem app_str (g : h[k]? = some (.lst (acc.map .str))) (hl : acc.length < 1000000) (hj : s[j]? = some (some (.ref k))) (ha : evE G o a s h = some (.ok (.str x) h)) : evS G o (.expr (.bm (.var j) .append (.cons a .nil))) s h = some (.nx s (h.set k (.lst ((acc ++ [x]).map .str)))) := by
  refine expr_of (v := .non) ?_
  rw [evE, eVar hj, Rb_ok]
  show (if (match h[k]? with | some (.lst _) => true | _ => false) = true then Rb (evEs G o (.cons a .nil) s h) fun vs h2 => bmeth G (.ref k) .append vs h2 else none) = _
  rw [g]
  show (if true = true then _ else _) = _
  rw [if_pos rfl, es_cons' ha es_nil, Rb_ok]
  have z : acc.length < sz := by have : sz = 16777216 := rfl; omega
  simp [bmeth, g, z]
def IsL : Cd → Prop
  | .nm _ => True
  | .eq _ _ => True
  | .lt _ _ => True
  | _ => False
theorem lvs_isL : ∀ {c : Cd}, ∀ l ∈ c.lvs, IsL l
  | .nm x, l, h => by rw [List.mem_singleton.mp h]; trivial
  | .eq x _, l, h => by rw [List.mem_singleton.mp h]; trivial
  | .lt x _, l, h => by rw [List.mem_singleton.mp h]; trivial
  | .no c, l, h => lvs_isL (c := c) l h
  | .an c d, l, h => (List.mem_append.mp h).elim (lvs_isL (c := c) l) (lvs_isL (c := d) l)
  | .ro c d, l, h => (List.mem_append.mp h).elim (lvs_isL (c := c) l) (lvs_isL (c := d) l)
theorem leaf_nam : ∀ {l : Cd}, IsL l → TreeR h l v → ∃ i kd r, v = .ref i ∧ h[i]? = some (.tup (.str kd :: .str l.nam :: r))
  | .nm x, _, ⟨i, e, g⟩ => ⟨i, _, _, e, g⟩
  | .eq x _, _, ⟨i, e, g⟩ => ⟨i, _, _, e, g⟩
  | .lt x _, _, ⟨i, e, g⟩ => ⟨i, _, _, e, g⟩
  | .no c, q, _ => q.elim
  | .an c d, q, _ => q.elim
  | .ro c d, q, _ => q.elim
def nBody : St := (.seq (.ifs (.val (.cmp .NotIn (.idx (.var 2) (.cst (.int 1))) (.var 1))) (.seq (.expr (.bm (.var 1) .append (.cons (.idx (.var 2) (.cst (.int 1))) .nil))) .skip) .skip) .skip)
theorem n_loop {v0 : Option Vv} {kp : VH → Bool} : ∀ (cs : List Cd) (ls : List Vv) (acc : List Str) (h : VH) (x2 : Option Vv), PT h cs ls → (∀ c ∈ cs, IsL c) → h[k]? = some (.lst (acc.map .str)) → (∀ h', HLx k h h' → kp h' = true) → acc.length + cs.length < 1000000 →
    ∃ y h', forF (evS G o nBody) [2] kp (ls.map fun v => [v]) [v0, some (.ref k), x2] h = some (.nx [v0, some (.ref k), y] h') ∧ HLx k h h' ∧ h'[k]? = some (.lst ((ddp acc (cs.map Cd.nam)).map .str))
  | [], _, acc, h, x2, .nil, _, g, hk, _ => ⟨x2, h, by rw [List.map_nil, forF, if_pos (hk h ((HLe.refl h).x k))], (HLe.refl h).x k, g⟩
  | c :: cs, _, acc, h, x2, .cons (b := a) (l₂ := ls) t p, hi, g, hk, hl => by
    obtain ⟨i, kd, r, rfl, gi⟩ := leaf_nam (hi c List.mem_cons_self) t
    have s1 : setT [2] [v0, some (.ref k), x2] [Vv.ref i] = some [v0, some (.ref k), some (.ref i)] := rfl
    have ei : evE G o (.idx (.var 2) (.cst (.int 1))) [v0, some (.ref k), some (.ref i)] h = some (.ok (.str c.nam) h) := e_ix (j := 2) (k := 1) rfl gi rfl
    have T : evT G o (.val (.cmp .NotIn (.idx (.var 2) (.cst (.int 1))) (.var 1))) [v0, some (.ref k), some (.ref i)] h = some (.ok (!decide (c.nam ∈ acc)) h) := by
      refine val_of ?_
      rw [evE, ei, Rb_ok, eVar (i := 1) rfl, Rb_ok, notin_strs (seq_strs g)]
    rw [List.length_cons] at hl
    by_cases q : c.nam ∈ acc
    · have B : evS G o nBody [v0, some (.ref k), some (.ref i)] h = some (.nx [v0, some (.ref k), some (.ref i)] h) := seq_skip (ifs_f (shw (by simp [q]) T) rfl)
      obtain ⟨y, h', e3, x3, g3⟩ := n_loop cs ls acc h (some (.ref i)) p (fun c hc => hi c (List.mem_cons_of_mem _ hc)) g hk (by omega)
      refine ⟨y, h', ?_, x3, ?_⟩
      · rw [List.map_cons, forF, if_pos (hk h ((HLe.refl h).x k))]
        simp only [s1, B]
        exact e3
      · rw [List.map_cons, ddp, if_pos q]; exact g3
    · have B : evS G o nBody [v0, some (.ref k), some (.ref i)] h = some (.nx [v0, some (.ref k), some (.ref i)] (h.set k (.lst ((acc ++ [c.nam]).map .str)))) := seq_skip (ifs_t (shw (by simp [q]) T) (seq_skip (app_str g (by omega) rfl ei)))
      have x1 := HLx.set k h (.lst ((acc ++ [c.nam]).map .str))
      have tk : TK h (h.set k (.lst ((acc ++ [c.nam]).map .str))) := x1.tk fun zs z => by rw [g] at z; cases z
      obtain ⟨y, h', e3, x3, g3⟩ := n_loop cs ls (acc ++ [c.nam]) _ (some (.ref i)) (PT.keep tk p) (fun c hc => hi c (List.mem_cons_of_mem _ hc)) (List.getElem?_set_self (lt_of_get g)) (fun h' x => hk h' (x1.trans x)) (by
        rw [List.length_append, List.length_singleton]; omega)
      refine ⟨y, h', ?_, x1.trans x3, ?_⟩
      · rw [List.map_cons, forF, if_pos (hk h ((HLe.refl h).x k))]
        simp only [s1, B]
        exact e3
      · rw [List.map_cons, ddp, if_neg q]; exact g3
/-- the names of a tree, in a new list -/
theorem names_ok (hf : G.fns "names_in" = some ⟨1, 3, xNames, []⟩) (hf2 : G.fns "leaves_in" = some ⟨1, 3, xLeaves, []⟩) (hn : 4 + c.dep ≤ n) (hl : c.lvs.length ≤ 1000) (t : TreeR h c v) : ∃ k h', run G n "names_in" [v] h = some (.ok (.ref k) h') ∧ HLe h h' ∧ h.length ≤ k ∧ h'[k]? = some (.lst ((ddp [] c.nms).map .str)) := by
  have a1 : evS G (oc G n) (.asg (.one 1) (.lst .nil)) [some v, none, none] h = some (.nx [some v, some (.ref h.length), none] (h ++ [.lst []])) := rfl
  obtain ⟨kl, ls, h1, e1, l1, hk, g1, p1⟩ := leaves_ok (G := G) hf2 c (n - 1) (by omega) hl (h ++ [.lst []]) v (t.keep (HLe.app _ _).tk)
  have ne : kl ≠ h.length := by rw [List.length_append, List.length_singleton] at hk; omega
  have g0 : h1[h.length]? = some (.lst (([] : List Str).map .str)) := l1 _ _ get_new
  obtain ⟨y, h', e3, x3, g3⟩ := n_loop (G := G) (o := oc G n) (k := h.length) (v0 := some v) (kp := keeps G ⟨ls.map fun v => [v], some (.ref kl), ls, true, false⟩) c.lvs ls [] h1 none p1 lvs_isL g0 (fun h' x => keeps_lst (x _ _ ne g1)) (by rw [List.length_nil]; omega)
  have c1 : evE G (oc G n) (.call "leaves_in" (.cons (.var 0) .nil)) [some v, some (.ref h.length), none] (h ++ [.lst []]) = some (.ok (.ref kl) h1) := by
    rw [evE, es_cons' (eVar (i := 0) rfl) es_nil, Rb_ok, orc_call, call_of hf2 rfl, e1]
  have f1 : evS G (oc G n) (.for_ [2] (.val (.call "leaves_in" (.cons (.var 0) .nil))) nBody) [some v, some (.ref h.length), none] (h ++ [.lst []]) = some (.nx [some v, some (.ref h.length), y] h') := by
    show Sb (evI G (oc G n) (.val _) 1 _ _) _ _ = _
    rw [evI, c1, Rb_ok, (src_lst' (G := G) g1).1]
    exact e3
  refine ⟨h.length, h', run_ev hf (by omega) rfl rfl (s := [some v, none, none]) (r := some (.rt (.ref h.length) h')) (seq_nx a1 (seq_nx f1 (seq_rt (ret_of rfl)))) rfl, HLx.new ((HLe.app h [.lst []]).trans l1) (Nat.le_refl _) x3, Nat.le_refl _, g3⟩
def dBody : St := (.seq (.ifs (.and (.val (.cmp .In (.var 2) (.tup (.cons (.cst (.str "a")) (.cons (.cst (.str "b")) (.cons (.cst (.str "big")) (.cons (.cst (.str "os")) .nil))))))) (.val (.cmp .NotIn (.var 2) (.var 1)))) (.seq (.expr (.bm (.var 1) .append (.cons (.var 2) .nil))) .skip) .skip) .skip)
theorem d_loop {v0 : Option Vv} {kp : VH → Bool} : ∀ (ws acc : List Str) (h : VH) (x2 : Option Vv), h[k]? = some (.lst (acc.map .str)) → (∀ h', HLx k h h' → kp h' = true) → acc.length + ws.length < 1000000 →
    ∃ y h', forF (evS G o dBody) [2] kp ((ws.map Vv.str).map fun v => [v]) [v0, some (.ref k), x2] h = some (.nx [v0, some (.ref k), y] h') ∧ HLx k h h' ∧ h'[k]? = some (.lst ((ddp acc (ws.filter fun w => decide (w ∈ NMS))).map .str))
  | [], acc, h, x2, g, hk, _ => ⟨x2, h, by rw [List.map_nil, List.map_nil, forF, if_pos (hk h ((HLe.refl h).x k))], (HLe.refl h).x k, g⟩
  | w :: ws, acc, h, x2, g, hk, hl => by
    have s1 : setT [2] [v0, some (.ref k), x2] [Vv.str w] = some [v0, some (.ref k), some (.str w)] := rfl
    rw [List.length_cons] at hl
    have gt : (h ++ [Ho.tup (NMS.map .str)])[h.length]? = some (.tup (NMS.map .str)) := get_new
    have sq : seqOf G (h ++ [Ho.tup (NMS.map .str)]) (.ref h.length) = some (NMS.map .str) := by
      have ob : obj G (h ++ [Ho.tup (NMS.map .str)]) (.ref h.length) = some (.tup (NMS.map .str)) := gt
      unfold seqOf; rw [ob]
    have T1 : evT G o (.val (.cmp .In (.var 2) (.tup (.cons (.cst (.str "a")) (.cons (.cst (.str "b")) (.cons (.cst (.str "big")) (.cons (.cst (.str "os")) .nil))))))) [v0, some (.ref k), some (.str w)] h = some (.ok (decide (w ∈ NMS)) (h ++ [.tup (NMS.map .str)])) := by
      refine val_of ?_
      have tt : evE G o (.tup (.cons (.cst (.str "a")) (.cons (.cst (.str "b")) (.cons (.cst (.str "big")) (.cons (.cst (.str "os")) .nil))))) [v0, some (.ref k), some (.str w)] h = some (.ok (.ref h.length) (h ++ [.tup (NMS.map .str)])) := rfl
      rw [evE, eVar (i := 2) rfl, Rb_ok, tt, Rb_ok, in_strs sq]
    have lA := HLe.app h [.tup (NMS.map .str)]
    generalize (h ++ [Ho.tup (NMS.map .str)]) = hA at T1 lA
    have gA := lA _ _ g
    have T2 : evT G o (.val (.cmp .NotIn (.var 2) (.var 1))) [v0, some (.ref k), some (.str w)] hA = some (.ok (!decide (w ∈ acc)) hA) := by
      refine val_of ?_
      rw [evE, eVar (i := 2) rfl, Rb_ok, eVar (i := 1) rfl, Rb_ok, notin_strs (seq_strs gA)]
    have step : ∀ {acc2 : List Str} {hB : VH}, evS G o dBody [v0, some (.ref k), some (.str w)] h = some (.nx [v0, some (.ref k), some (.str w)] hB) → hB[k]? = some (.lst (acc2.map .str)) → HLx k h hB → acc2.length ≤ acc.length + 1 → ddp acc ((w :: ws).filter fun w => decide (w ∈ NMS)) = ddp acc2 (ws.filter fun w => decide (w ∈ NMS)) →
        ∃ y h', forF (evS G o dBody) [2] kp (((w :: ws).map Vv.str).map fun v => [v]) [v0, some (.ref k), x2] h = some (.nx [v0, some (.ref k), y] h') ∧ HLx k h h' ∧ h'[k]? = some (.lst ((ddp acc ((w :: ws).filter fun w => decide (w ∈ NMS))).map .str)) := fun {acc2 hB} B gB xB hl2 e => by
      obtain ⟨y, h', e3, x3, g3⟩ := d_loop ws acc2 hB (some (.str w)) gB (fun h' x => hk h' (xB.trans x)) (by omega)
      refine ⟨y, h', ?_, xB.trans x3, by rw [e]; exact g3⟩
      rw [List.map_cons, List.map_cons, forF, if_pos (hk h ((HLe.refl h).x k))]
      simp only [s1, B]
      exact e3
    by_cases q : w ∈ NMS
    · have T1 := shw (decide_eq_true q) T1
      by_cases q2 : w ∈ acc
      · exact step (seq_skip (ifs_f (and_t T1 (shw (by simp [q2]) T2)) rfl)) gA (lA.x k) (by omega) (by rw [List.filter_cons, if_pos (decide_eq_true q), ddp, if_pos q2])
      · refine step (acc2 := acc ++ [w]) (seq_skip (ifs_t (and_t T1 (shw (by simp [q2]) T2)) (seq_skip (app_str gA (by omega) rfl (eVar (i := 2) rfl))))) (List.getElem?_set_self (lt_of_get gA)) ((lA.x k).trans (HLx.set _ _ _)) (by simp) (by rw [List.filter_cons, if_pos (decide_eq_true q), ddp, if_neg q2])
    · exact step (seq_skip (ifs_f (and_f (shw (decide_eq_false q) T1)) rfl)) gA (lA.x k) (by omega) (by rw [List.filter_cons, if_neg (by simpa using q)])
/-- the names that are due, in a new list -/
theorem due_ok (hf : G.fns "_law_names_due" = some ⟨1, 3, xDue, []⟩) (hn : 2 ≤ n) (g : h[i]? = some (.lst (ws.map .str))) (hl : ws.length ≤ 1000) : ∃ k h', run G n "_law_names_due" [.ref i] h = some (.ok (.ref k) h') ∧ HLe h h' ∧ h.length ≤ k ∧ h'[k]? = some (.lst ((ddp [] (ws.filter fun w => decide (w ∈ NMS))).map .str)) := by
  have a1 : evS G (oc G n) (.asg (.one 1) (.lst .nil)) [some (.ref i), none, none] h = some (.nx [some (.ref i), some (.ref h.length), none] (h ++ [.lst []])) := rfl
  have gi : (h ++ [Ho.lst []])[i]? = some (.lst (ws.map .str)) := get_app g
  have ne : i ≠ h.length := by have := lt_of_get g; omega
  have g0 : (h ++ [Ho.lst []])[h.length]? = some (.lst (([] : List Str).map .str)) := get_new
  obtain ⟨y, h', e3, x3, g3⟩ := d_loop (G := G) (o := oc G n) (k := h.length) (v0 := some (.ref i)) (kp := keeps G ⟨(ws.map Vv.str).map fun v => [v], some (.ref i), ws.map .str, true, false⟩) ws [] (h ++ [.lst []]) none g0 (fun h' x => keeps_lst (x _ _ ne gi)) (by rw [List.length_nil]; omega)
  have f1 : evS G (oc G n) (.for_ [2] (.val (.var 0)) dBody) [some (.ref i), some (.ref h.length), none] (h ++ [.lst []]) = some (.nx [some (.ref i), some (.ref h.length), y] h') := by
    show Sb (evI G (oc G n) (.val _) 1 _ _) _ _ = _
    rw [evI, eVar (i := 0) rfl, Rb_ok, (src_lst' (G := G) gi).1]
    exact e3
  exact ⟨h.length, h', run_ev hf (by omega) rfl rfl (s := [some (.ref i), none, none]) (r := some (.rt (.ref h.length) h')) (seq_nx a1 (seq_nx f1 (seq_rt (ret_of rfl)))) rfl, HLx.new (HLe.app h [.lst []]) (Nat.le_refl _) x3, Nat.le_refl _, g3⟩
end
end Pl

set_option linter.all false
set_option autoImplicit false
set_option maxRecDepth 100000
set_option maxHeartbeats 1000000
namespace Pl
open PySem Dv
def xLH : St := (.seq (.for_ [2] (.val (.lst (.cons (.cst (.str "or")) (.cons (.cst (.str "and")) .nil)))) (.seq (.asg (.one 3) (.cst (.int 0))) (.seq (.for_ [4] (.rng (.cons (.bin .Sub (.bf .len (.cons (.var 0) .nil)) (.cst (.int 1))) (.cons (.neg (.cst (.int 1))) (.cons (.neg (.cst (.int 1))) .nil)))) (.seq (.asg (.one 3) (.bin .Sub (.bin .Add (.var 3) (.bf .int (.cons (.cmp .Eq (.idx (.var 0) (.var 4)) (.cst (.str ")"))) .nil))) (.bf .int (.cons (.cmp .Eq (.idx (.var 0) (.var 4)) (.cst (.str "("))) .nil)))) (.seq (.ifs (.and (.val (.cmp .Eq (.var 3) (.cst (.int 0)))) (.val (.cmp .Eq (.idx (.var 0) (.var 4)) (.var 2)))) (.seq (.par [5, 6] (.cons (.call "_law_holds" (.cons (.slc (.var 0) .noe (.var 4)) (.cons (.var 1) .nil))) (.cons (.call "_law_holds" (.cons (.slc (.var 0) (.bin .Add (.var 4) (.cst (.int 1))) .noe) (.cons (.var 1) .nil))) .nil))) (.seq (.ret (.ite (.val (.cmp .Eq (.var 2) (.cst (.str "or")))) (.or (.var 5) (.var 6)) (.and (.var 5) (.var 6)))) .skip)) .skip) .skip))) .skip))) (.seq (.ifs (.val (.cmp .Eq (.idx (.var 0) (.cst (.int 0))) (.cst (.str "not")))) (.seq (.ret (.not (.call "_law_holds" (.cons (.slc (.var 0) (.cst (.int 1)) .noe) (.cons (.var 1) .nil))))) .skip) .skip) (.seq (.ifs (.val (.cmp .Eq (.idx (.var 0) (.cst (.int 0))) (.cst (.str "(")))) (.seq (.ret (.call "_law_holds" (.cons (.slc (.var 0) (.cst (.int 1)) (.neg (.cst (.int 1)))) (.cons (.var 1) .nil)))) .skip) .skip) (.seq (.asg (.one 7) (.bm (.var 1) .get (.cons (.idx (.var 0) (.cst (.int 0))) .nil))) (.seq (.ifs (.or (.val (.cmp .Is (.var 7) (.cst .non))) (.val (.cmp .Eq (.bf .len (.cons (.var 0) .nil)) (.cst (.int 1))))) (.seq (.ret (.cmp .IsNot (.var 7) (.cst .non))) .skip) .skip) (.seq (.ret (.ite (.val (.cmp .Eq (.idx (.var 0) (.cst (.int 1))) (.cst (.str "=")))) (.cmp .Eq (.var 7) (.bf .int (.cons (.idx (.var 0) (.cst (.int 2))) .nil))) (.cmp .Lt (.var 7) (.bf .int (.cons (.idx (.var 0) (.cst (.int 2))) .nil))))) .skip))))))
def g0 : St := (.asg (.one 3) (.bin .Sub (.bin .Add (.var 3) (.bf .int (.cons (.cmp .Eq (.idx (.var 0) (.var 4)) (.cst (.str ")"))) .nil))) (.bf .int (.cons (.cmp .Eq (.idx (.var 0) (.var 4)) (.cst (.str "("))) .nil))))
def eL : Ex := .call "_law_holds" (.cons (.slc (.var 0) .noe (.var 4)) (.cons (.var 1) .nil))
def eR : Ex := .call "_law_holds" (.cons (.slc (.var 0) (.bin .Add (.var 4) (.cst (.int 1))) .noe) (.cons (.var 1) .nil))
def eB : Ex := .ite (.val (.cmp .Eq (.var 2) (.cst (.str "or")))) (.or (.var 5) (.var 6)) (.and (.var 5) (.var 6))
def gBody : St := .seq g0 (.seq (.ifs (.and (.val (.cmp .Eq (.var 3) (.cst (.int 0)))) (.val (.cmp .Eq (.idx (.var 0) (.var 4)) (.var 2)))) (.seq (.par [5, 6] (.cons eL (.cons eR .nil))) (.seq (.ret eB) .skip)) .skip) .skip)
def fBody : St := .seq (.asg (.one 3) (.cst (.int 0))) (.seq (.for_ [4] (.rng (.cons (.bin .Sub (.bf .len (.cons (.var 0) .nil)) (.cst (.int 1))) (.cons (.neg (.cst (.int 1))) (.cons (.neg (.cst (.int 1))) .nil)))) gBody) .skip)
def hA1 : Tt := .val (.cmp .Eq (.idx (.var 0) (.cst (.int 0))) (.cst (.str "not")))
def hA2 : Tt := .val (.cmp .Eq (.idx (.var 0) (.cst (.int 0))) (.cst (.str "(")))
def hR1 : Ex := .not (.call "_law_holds" (.cons (.slc (.var 0) (.cst (.int 1)) .noe) (.cons (.var 1) .nil)))
def hR2 : Ex := .call "_law_holds" (.cons (.slc (.var 0) (.cst (.int 1)) (.neg (.cst (.int 1)))) (.cons (.var 1) .nil))
def hG : Ex := .bm (.var 1) .get (.cons (.idx (.var 0) (.cst (.int 0))) .nil)
def hT : Tt := .or (.val (.cmp .Is (.var 7) (.cst .non))) (.val (.cmp .Eq (.bf .len (.cons (.var 0) .nil)) (.cst (.int 1))))
def hV : Ex := .ite (.val (.cmp .Eq (.idx (.var 0) (.cst (.int 1))) (.cst (.str "=")))) (.cmp .Eq (.var 7) (.bf .int (.cons (.idx (.var 0) (.cst (.int 2))) .nil))) (.cmp .Lt (.var 7) (.bf .int (.cons (.idx (.var 0) (.cst (.int 2))) .nil)))
def hRest : St := .seq (.ifs hA1 (.seq (.ret hR1) .skip) .skip) (.seq (.ifs hA2 (.seq (.ret hR2) .skip) .skip) (.seq (.asg (.one 7) hG) (.seq (.ifs hT (.seq (.ret (.cmp .IsNot (.var 7) (.cst .non))) .skip) .skip) (.seq (.ret hV) .skip))))
theorem lh_eq : xLH = .seq (.for_ [2] (.val (.lst (.cons (.cst (.str "or")) (.cons (.cst (.str "and")) .nil)))) fBody) hRest := rfl
section
variable {G : Tx} {n : Nat} {h h1 h2 : VH} {i j d k : Nat} {o : Orc} {s : Sl} {e a b : Ex} {xs : List Vv} {v w : Vv} {ws acc l m : List Str} {c : Cd} {x y z : Str}
theorem eqd_ss (hx : SeqAt.shaped (.str x) = true) (hy : SeqAt.shaped (.str y) = true) : cmpop G o .Eq (.str x) (.str y) h = some (.ok (.bl (decide (x = y))) h) := by
  have e1 : eqd G h (.str x) (.str y) = some (x == y) := eqd_str (d := .str x) (e := .str y) rfl rfl hx hy
  simp only [cmpop, e1]
  by_cases q : x = y
  · subst q; simp [ok1]
  · simp [ok1, q]
theorem e_eqs (ha : evE G o a s h = some (.ok (.str x) h)) (hb : evE G o b s h = some (.ok (.str y) h)) (hx : SeqAt.shaped (.str x) = true) (hy : SeqAt.shaped (.str y) = true) : evE G o (.cmp .Eq a b) s h = some (.ok (.bl (decide (x = y))) h) := by
  rw [evE, ha, Rb_ok, hb, Rb_ok, eqd_ss hx hy]
theorem e_cst : evE G o (.cst v) s h = some (.ok v h) := by rw [evE]
theorem ix_lst (g : h[i]? = some (.lst (ws.map .str))) (q : ws[k]? = some x) : index G (.ref i) (.int k) h = some (.ok (.str x) h) := by
  have hs := seq_strs (G := G) g
  obtain ⟨hk, q2⟩ := List.getElem?_eq_some_iff.mp q
  simp [index, hs, place, hk, q2, ok1]
theorem e_ixw (hj : s[j]? = some (some (.ref i))) (g : h[i]? = some (.lst (ws.map .str))) (hb : evE G o b s h = some (.ok (.int k) h)) (q : ws[k]? = some x) : evE G o (.idx (.var j) b) s h = some (.ok (.str x) h) := by
  rw [evE, eVar hj, Rb_ok, hb, Rb_ok, ix_lst g q]
theorem e_int {c : Bool} (ha : evE G o a s h = some (.ok (.bl c) h)) : evE G o (.bf .int (.cons a .nil)) s h = some (.ok (.int (if c then 1 else 0)) h) := by
  rw [evE, es_cons' ha es_nil, Rb_ok]; rfl
/-- the slots of the walk -/
def LS (i d : Nat) (sg : Str) (x : Int) (p : Option Vv) : Sl := [some (.ref i), some (.ref d), some (.str sg), some (.int x), p, none, none, none]
def stp (w : Str) (x : Int) : Int := x + (if w = ")" then 1 else 0) - (if w = "(" then 1 else 0)
theorem g0_ok {sg w : Str} {x : Int} {p : Nat} (g : h[i]? = some (.lst (ws.map .str))) (hw : ∀ w ∈ ws, WdOk w) (q : ws[p]? = some w) : evS G o g0 (LS i d sg x (some (.int p))) h = some (.nx (LS i d sg (stp w x) (some (.int p))) h) := by
  have e1 : evE G o (.idx (.var 0) (.var 4)) (LS i d sg x (some (.int p))) h = some (.ok (.str w) h) := e_ixw (j := 0) rfl g (eVar (i := 4) rfl) q
  have wk := (hw w (List.mem_of_getElem? q)).1
  have e2 := e_int (e_eqs (G := G) (o := o) e1 (e_cst (v := .str ")")) wk (by decide +kernel))
  have e3 := e_int (e_eqs (G := G) (o := o) e1 (e_cst (v := .str "(")) wk (by decide +kernel))
  refine asg_of (i := 3) ?_
  rw [evE, evE, eVar (i := 3) rfl, Rb_ok, e2, Rb_ok]
  show Rb (some (Re.ok (Vv.int _) h)) _ = _
  rw [Rb_ok, e3, Rb_ok]
  show some (Re.ok (Vv.int _) h) = _
  unfold stp
  simp only [decide_eq_true_eq]
theorem tHit {sg w : Str} {x : Int} {p : Nat} (g : h[i]? = some (.lst (ws.map .str))) (hw : ∀ w ∈ ws, WdOk w) (q : ws[p]? = some w) (hs : SeqAt.shaped (.str sg) = true) : evT G o (.and (.val (.cmp .Eq (.var 3) (.cst (.int 0)))) (.val (.cmp .Eq (.idx (.var 0) (.var 4)) (.var 2)))) (LS i d sg x (some (.int p))) h = some (.ok (decide (x = 0 ∧ w = sg)) h) := by
  have e1 : evE G o (.idx (.var 0) (.var 4)) (LS i d sg x (some (.int p))) h = some (.ok (.str w) h) := e_ixw (j := 0) rfl g (eVar (i := 4) rfl) q
  have wk := (hw w (List.mem_of_getElem? q)).1
  have t2 := val_of (e_eqs (G := G) (o := o) e1 (eVar (i := 2) rfl) wk hs)
  have t1 : evT G o (.val (.cmp .Eq (.var 3) (.cst (.int 0)))) (LS i d sg x (some (.int p))) h = some (.ok (decide (x = 0)) h) := by
    refine val_of ?_
    rw [evE, eVar (i := 3) rfl, Rb_ok, e_cst, Rb_ok, cmp_ii]
  by_cases a : x = 0
  · have t1 := shw (decide_eq_true a) t1
    rw [and_t t1 t2]
    simp [a]
  · have t1 := shw (decide_eq_false a) t1
    rw [and_f t1]
    simp [a]
theorem g_miss {sg w : Str} {x : Int} {p : Nat} (g : h[i]? = some (.lst (ws.map .str))) (hw : ∀ w ∈ ws, WdOk w) (q : ws[p]? = some w) (hs : SeqAt.shaped (.str sg) = true) (hn : ¬ (stp w x = 0 ∧ w = sg)) : evS G o gBody (LS i d sg x (some (.int p))) h = some (.nx (LS i d sg (stp w x) (some (.int p))) h) :=
  seq_nx (g0_ok g hw q) (seq_skip (ifs_f (shw (decide_eq_false hn) (tHit g hw q hs)) rfl))
/-- the places from k on down -/
def dn : Nat → List (List Vv)
  | 0 => []
  | k + 1 => [.int k] :: dn k
theorem rng_dn : ∀ n : Nat, rngItems ((n : Int) - 1) (-1) (-1) = dn n := by
  have go : ∀ (n : Nat), (List.range n).map (fun (i : Nat) => [Vv.int (((n : Int) - 1) + (i : Int) * (-1))]) = dn n := by
    intro n
    induction n with
    | zero => rfl
    | succ n ih =>
      rw [List.range_succ_eq_map, List.map_cons, List.map_map, dn, ← ih]
      refine congr (congrArg List.cons ?_) (List.map_congr_left fun i _ => ?_)
      · have : (((n + 1 : Nat) : Int) - 1) + ((0 : Nat) : Int) * (-1) = (n : Int) := by omega
        rw [this]
      · have : (((n + 1 : Nat) : Int) - 1) + ((i + 1 : Nat) : Int) * (-1) = ((n : Int) - 1) + (i : Int) * (-1) := by omega
        show [Vv.int _] = [Vv.int _]
        rw [← this]
  intro n
  rw [← go n]
  unfold rngItems
  rw [if_neg (by decide)]
  have : ((((n : Int) - 1) - (-1) - (-1) - 1) / (-(-1))).toNat = n := by
    have e : ((n : Int) - 1) - (-1) - (-1) - 1 = n := by omega
    rw [e]
    show ((n : Int) / 1).toNat = n
    rw [Int.ediv_one, Int.toNat_natCast]
  rw [this]
theorem nh_cons {s w : Str} {r : List Str} {x : Int} {u : Option Int} (e : nh s (w :: r) x = u) (hu : u ≠ none) : ¬ (stp w x = 0 ∧ w = s) ∧ nh s r (stp w x) = u := by
  rw [nh] at e
  by_cases q : x + (if w = ")" then 1 else 0) - (if w = "(" then 1 else 0) = 0 ∧ w = s
  · rw [if_pos q] at e; exact (hu e.symm).elim
  · rw [if_neg q] at e; exact ⟨q, e⟩
theorem take_rev {k : Nat} {w : Str} (q : ws[k]? = some w) : (ws.take (k + 1)).reverse = w :: (ws.take k).reverse := by
  rw [List.take_add_one, q]
  simp
theorem sT4 {sg : Str} {x : Int} {p : Option Vv} {v : Vv} : setT [4] (LS i d sg x p) [v] = some (LS i d sg x (some v)) := rfl
/-- nothing found -/
theorem scan_no {sg : Str} (g : h[i]? = some (.lst (ws.map .str))) (hw : ∀ w ∈ ws, WdOk w) (hs : SeqAt.shaped (.str sg) = true) : ∀ (k : Nat) (x u : Int) (p : Option Vv), k ≤ ws.length → nh sg (ws.take k).reverse x = some u → ∃ p' u', forF (evS G o gBody) [4] (fun _ => true) (dn k) (LS i d sg x p) h = some (.nx (LS i d sg u' p') h)
  | 0, x, u, p, _, e => ⟨p, x, rfl⟩
  | k + 1, x, u, p, hk, e => by
    obtain ⟨w, q⟩ : ∃ w, ws[k]? = some w := ⟨ws[k], List.getElem?_eq_getElem hk⟩
    rw [take_rev q] at e
    obtain ⟨e1, e2⟩ := nh_cons e (by simp)
    obtain ⟨p', u', ih⟩ := scan_no g hw hs k _ u (some (.int k)) (by omega) e2
    refine ⟨p', u', ?_⟩
    rw [dn, forF, if_pos rfl]
    simp only [sT4, g_miss (G := G) (o := o) (d := d) g hw q hs e1]
    exact ih
/-- found at a place -/
theorem scan_yes {sg : Str} {r : Vv} {h' : VH} {t : Nat} (g : h[i]? = some (.lst (ws.map .str))) (hw : ∀ w ∈ ws, WdOk w) (hs : SeqAt.shaped (.str sg) = true) (hit : evS G o gBody (LS i d sg 0 (some (.int t))) h = some (.rt r h')) : ∀ (k : Nat) (x : Int) (p : Option Vv), t + 1 + k ≤ ws.length → nh sg ((ws.drop (t + 1)).take k).reverse x = some 0 → forF (evS G o gBody) [4] (fun _ => true) (dn (t + 1 + k)) (LS i d sg x p) h = some (.rt r h')
  | 0, x, p, hk, e => by
    have e : x = 0 := by
      have : nh sg [] x = some 0 := e
      exact Option.some.inj this
    subst e
    rw [Nat.add_zero, dn, forF, if_pos rfl]
    simp only [sT4, hit]
  | k + 1, x, p, hk, e => by
    have hk2 : k < (ws.drop (t + 1)).length := by rw [List.length_drop]; omega
    obtain ⟨w, q⟩ : ∃ w, (ws.drop (t + 1))[k]? = some w := ⟨(ws.drop (t + 1))[k], List.getElem?_eq_getElem hk2⟩
    have q2 : ws[t + 1 + k]? = some w := by rw [← q, List.getElem?_drop]
    rw [take_rev q] at e
    obtain ⟨e1, e2⟩ := nh_cons e (by simp)
    have ih := scan_yes g hw hs hit k _ (some (.int (t + 1 + k : Nat))) (by omega) e2
    rw [← Nat.add_assoc, dn, forF, if_pos rfl]
    simp only [sT4, g_miss (G := G) (o := o) (d := d) g hw q2 hs e1]
    exact ih
/-- the walk over the places, from the statement -/
theorem for_dn {sg : Str} {r : Option Sr} (g : h[i]? = some (.lst (ws.map .str))) (hl : ws.length ≤ 1000) {p : Option Vv} (k : forF (evS G o gBody) [4] (fun _ => true) (dn ws.length) (LS i d sg 0 p) h = r) : evS G o (.for_ [4] (.rng (.cons (.bin .Sub (.bf .len (.cons (.var 0) .nil)) (.cst (.int 1))) (.cons (.neg (.cst (.int 1))) (.cons (.neg (.cst (.int 1))) .nil)))) gBody) (LS i d sg 0 p) h = r := by
  have hs := seq_strs (G := G) g
  have c2 : callb G .len [.ref i] h = some (.ok (.int ws.length) h) := by simp [callb, hs, ok1]
  have e1 : evE G o (.bin .Sub (.bf .len (.cons (.var 0) .nil)) (.cst (.int 1))) (LS i d sg 0 p) h = some (.ok (.int ((ws.length : Int) - 1)) h) := by
    rw [evE, evE, es_cons' (eVar (i := 0) rfl) es_nil, Rb_ok, c2, Rb_ok]; rfl
  have r1 : rngOf [.int ((ws.length : Int) - 1), .int (-1), .int (-1)] = some ⟨rngItems ((ws.length : Int) - 1) (-1) (-1), none, [], false, false⟩ := if_pos ⟨by omega, by omega, by decide, by decide, rfl⟩
  refine for_rng' (vs := [.int ((ws.length : Int) - 1), .int (-1), .int (-1)]) (h1 := h) (items := dn ws.length) (es_cons' e1 rfl) ?_ k
  rw [r1, rng_dn]
/-- what it says of some words -/
def LhS (G : Tx) (f : Str → Option Int) (d n : Nat) (ws : List Str) (b : Bool) : Prop := ∀ (h : VH) (i : Nat), h[i]? = some (.lst (ws.map .str)) → Vals h d f → ∃ h', run G n "_law_holds" [.ref i, .ref d] h = some (.ok (.bl b) h') ∧ HLe h h'
theorem cut_take {k : Nat} (hk : k ≤ xs.length) : cut xs none (some (k : Int)) = xs.take k := by
  unfold cut
  rw [HT.sIx_nat, HT.sIx_none, Nat.min_eq_left hk, List.drop_zero, Nat.sub_zero]
theorem cut_drop {k : Nat} (hk : k ≤ xs.length) : cut xs (some (k : Int)) none = xs.drop k := by
  unfold cut
  rw [HT.sIx_nat, HT.sIx_none, Nat.min_eq_left hk]
  exact List.take_of_length_le (by rw [List.length_drop]; exact Nat.le_refl _)
theorem cut_mid {a b : Vv} {ys : List Vv} : cut (a :: (ys ++ [b])) (some (1 : Int)) (some (-1 : Int)) = ys := by
  have e1 : HT.sIx (ys.length + 1 + 1) 0 (some ((1 : Nat) : Int)) = 1 := by rw [HT.sIx_nat]; omega
  have e2 : HT.sIx (ys.length + 1 + 1) (ys.length + 1 + 1) (some (-1)) = ys.length + 1 := by
    unfold HT.sIx
    show (if (-1 : Int) < 0 then ((-1 : Int) + ((ys.length + 1 + 1 : Nat) : Int)).toNat else _) = _
    rw [if_pos (by decide)]
    omega
  unfold cut
  rw [List.length_cons, List.length_append, List.length_singleton]
  rw [show (some (1 : Int)) = some ((1 : Nat) : Int) from rfl, e1, e2]
  simp
/-- the reading of a part, in a call -/
theorem e_part (hf : G.fns "_law_holds" = some ⟨2, 8, xLH, []⟩) {f : Str → Option Int} {bb : Bool} {lo hi : Option Int} {el eh : Ex} (g : h[i]? = some (.lst (ws.map .str))) (V : Vals h d f) (s0 : s[0]? = some (some (.ref i))) (s1 : s[1]? = some (some (.ref d)))
    {vl vh : Vv} (k1 : evE G (oc G n) el s h = some (.ok vl h)) (k2 : evE G (oc G n) eh s h = some (.ok vh h)) (b1 : bnd el vl = some lo) (b2 : bnd eh vh = some hi) (hc : cut (ws.map Vv.str) lo hi = acc.map .str) (L : LhS G f d (n - 1) acc bb) :
    ∃ h', evE G (oc G n) (.call "_law_holds" (.cons (.slc (.var 0) el eh) (.cons (.var 1) .nil))) s h = some (.ok (.bl bb) h') ∧ HLe h h' := by
  have sl : evE G (oc G n) (.slc (.var 0) el eh) s h = some (.ok (.ref h.length) (h ++ [.lst (acc.map .str)])) := by
    rw [evE, eVar s0, Rb_ok, k1, Rb_ok]
    simp only [b1]
    rw [k2, Rb_ok]
    simp only [b2]
    rw [sl_lst g, hc]
  obtain ⟨h', e, l⟩ := L (h ++ [.lst (acc.map .str)]) h.length get_new (V.keep (HLe.app _ _))
  refine ⟨h', ?_, (HLe.app _ _).trans l⟩
  rw [evE, es_cons' sl (es_cons' (eVar s1) es_nil), Rb_ok, orc_call, call_of hf rfl, e]
theorem orand : SeqAt.shaped (.str "or") = true ∧ SeqAt.shaped (.str "and") = true ∧ ("or" : Str) ≠ ")" ∧ ("or" : Str) ≠ "(" ∧ ("and" : Str) ≠ ")" ∧ ("and" : Str) ≠ "(" ∧ ("and" : Str) ≠ "or" := by decide +kernel
/-- the outer walk: the sign's list lies at its place -/
theorem out_walk {r : Option Sr} {f : Str → Option Int} (g : h[i]? = some (.lst (ws.map .str)))
    (k : forF (evS G o fBody) [2] (keeps G ⟨([Vv.str "or", Vv.str "and"] : List Vv).map fun v => [v], some (.ref h.length), [.str "or", .str "and"], true, false⟩) [[Vv.str "or"], [Vv.str "and"]] [some (.ref i), some (.ref d), none, none, none, none, none, none] (h ++ [.lst [.str "or", .str "and"]]) = r) :
    evS G o (.for_ [2] (.val (.lst (.cons (.cst (.str "or")) (.cons (.cst (.str "and")) .nil)))) fBody) [some (.ref i), some (.ref d), none, none, none, none, none, none] h = r := by
  have el : evE G o (.lst (.cons (.cst (.str "or")) (.cons (.cst (.str "and")) .nil))) [some (.ref i), some (.ref d), none, none, none, none, none, none] h = some (.ok (.ref h.length) (h ++ [.lst [.str "or", .str "and"]])) := rfl
  show Sb (evI G o (.val _) 1 _ _) _ _ = _
  rw [evI, el, Rb_ok, (src_lst' (G := G) get_new).1]
  exact k
/-- a sign that is not found -/
theorem sign_no {sg : Str} {p : Option Vv} {x : Int} (g : h[i]? = some (.lst (ws.map .str))) (hw : ∀ w ∈ ws, WdOk w) (hl : ws.length ≤ 1000) (hs : SeqAt.shaped (.str sg) = true) (q : nh sg ws.reverse 0 = some 0) {x3 : Option Vv} : ∃ p' u', evS G o fBody [some (.ref i), some (.ref d), some (.str sg), x3, p, none, none, none] h = some (.nx (LS i d sg u' p') h) := by
  obtain ⟨p', u', e⟩ := scan_no (G := G) (o := o) (d := d) g hw hs ws.length 0 0 p (Nat.le_refl _) (by rw [List.take_length]; exact q)
  exact ⟨p', u', seq_nx (s1 := LS i d sg 0 p) (h1 := h) rfl (seq_skip (for_dn g hl e))⟩
/-- a sign that is found -/
theorem sign_yes (hf : G.fns "_law_holds" = some ⟨2, 8, xLH, []⟩) {f : Str → Option Int} {b1 b2 : Bool} {isOr : Bool} {p x3 : Option Vv} (g : h[i]? = some (.lst ((l ++ (if isOr then "or" else "and" : Str) :: m).map .str))) (hw : ∀ w ∈ l ++ (if isOr then "or" else "and" : Str) :: m, WdOk w) (hl : (l ++ (if isOr then "or" else "and" : Str) :: m).length ≤ 1000)
    (V : Vals h d f) (q : nh (if isOr then "or" else "and" : Str) m.reverse 0 = some 0) (L1 : LhS G f d (n - 1) l b1) (L2 : LhS G f d (n - 1) m b2) :
    ∃ h', evS G (oc G n) fBody [some (.ref i), some (.ref d), some (.str (if isOr then "or" else "and" : Str)), x3, p, none, none, none] h = some (.rt (.bl (if isOr then b1 || b2 else b1 && b2)) h') ∧ HLe h h' := by
  generalize hS : (if isOr then "or" else "and" : Str) = sg at *
  have hs : SeqAt.shaped (.str sg) = true := by subst hS; cases isOr; exact orand.2.1; exact orand.1
  have ns : sg ≠ ")" ∧ sg ≠ "(" := by subst hS; cases isOr; exact ⟨orand.2.2.2.2.1, orand.2.2.2.2.2.1⟩; exact ⟨orand.2.2.1, orand.2.2.2.1⟩
  generalize hW : l ++ sg :: m = W at *
  have WL : W.length = l.length + 1 + m.length := by rw [← hW]; simp; omega
  have ql : W[l.length]? = some sg := by rw [← hW]; simp
  have st0 : stp sg 0 = 0 := by unfold stp; rw [if_neg ns.1, if_neg ns.2]; rfl
  obtain ⟨h1, e1, l1⟩ := e_part (n := n) (s := LS i d sg 0 (some (.int l.length))) (el := .noe) (eh := .var 4) (lo := none) (hi := some (l.length : Int)) hf g V rfl rfl (vl := .non) (vh := .int l.length) (by rw [evE]) (eVar (i := 4) rfl) rfl rfl (acc := l) (by
    rw [cut_take (by rw [List.length_map]; omega), ← List.map_take, ← hW, List.take_left]) L1
  have g1 := l1 _ _ g
  obtain ⟨h2, e2, l2⟩ := e_part (n := n) (s := LS i d sg 0 (some (.int l.length))) (el := .bin .Add (.var 4) (.cst (.int 1))) (eh := .noe) (lo := some ((l.length + 1 : Nat) : Int)) (hi := none) hf g1 (V.keep l1) rfl rfl (vl := .int ((l.length + 1 : Nat) : Int)) (vh := .non) (by
    rw [evE, eVar (i := 4) rfl, Rb_ok, e_cst, Rb_ok]; rfl) (by rw [evE]) rfl rfl (acc := m) (by
    rw [cut_drop (by rw [List.length_map]; omega), ← List.map_drop, ← hW]; simp) L2
  have tO : ∀ (y5 y6 : Vv) (hh : VH), evT G (oc G n) (.val (.cmp .Eq (.var 2) (.cst (.str "or")))) [some (.ref i), some (.ref d), some (.str sg), some (.int 0), some (.int l.length), some y5, some y6, none] hh = some (.ok isOr hh) := fun y5 y6 hh => by
    have t : evT G (oc G n) (.val (.cmp .Eq (.var 2) (.cst (.str "or")))) [some (.ref i), some (.ref d), some (.str sg), some (.int 0), some (.int l.length), some y5, some y6, none] hh = some (.ok (decide (sg = "or")) hh) := val_of (tEq (j := 2) rfl hs orand.1)
    refine shw ?_ t
    subst hS
    cases isOr
    · exact decide_eq_false orand.2.2.2.2.2.2
    · exact decide_eq_true rfl
  have hit : evS G (oc G n) gBody (LS i d sg 0 (some (.int l.length))) h = some (.rt (.bl (if isOr then b1 || b2 else b1 && b2)) h2) := by
    have g0' := g0_ok (G := G) (o := oc G n) (d := d) (sg := sg) (x := 0) g hw ql
    rw [st0] at g0'
    refine seq_nx g0' (seq_rt (ifs_t (shw (decide_eq_true ⟨rfl, rfl⟩) (tHit g hw ql hs)) (seq_nx (par2 (p := 5) (q := 6) e1 e2) (seq_rt (ret_of ?_)))))
    show evE G (oc G n) eB [some (.ref i), some (.ref d), some (.str sg), some (.int 0), some (.int l.length), some (.bl b1), some (.bl b2), none] h2 = _
    rw [eB, evE, tO, Rb_ok]
    cases isOr
    · exact e_and2 (eVar (i := 5) rfl) (eVar (i := 6) rfl)
    · exact e_or2 (eVar (i := 5) rfl) (eVar (i := 6) rfl)
  have sc := scan_yes (G := G) (o := oc G n) (d := d) g hw hs hit m.length 0 p (by omega) (by
    have : W.drop (l.length + 1) = m := by rw [← hW]; simp
    rw [this, List.take_length]; exact q)
  rw [← WL] at sc
  exact ⟨h2, seq_nx (s1 := LS i d sg 0 p) (h1 := h) rfl (seq_rt (for_dn g hl sc)), l1.trans l2⟩
end
end Pl

set_option linter.all false
set_option autoImplicit false
set_option maxRecDepth 100000
set_option maxHeartbeats 1000000
namespace Pl
open PySem Dv
section
variable {G : Tx} {n : Nat} {h h1 h2 : VH} {i j d k : Nat} {o : Orc} {s : Sl} {e a b : Ex} {xs : List Vv} {v w : Vv} {ws acc l m : List Str} {c : Cd} {x y z : Str} {f : Str → Option Int}
abbrev oa : Ho := .lst [.str "or", .str "and"]
theorem len_ws (g : h[i]? = some (.lst (ws.map .str))) (s0 : s[0]? = some (some (.ref i))) {b : Bool} (q : decide (ws.length = 1) = b) : evT G o (.val (.cmp .Eq (.bf .len (.cons (.var 0) .nil)) (.cst (.int 1)))) s h = some (.ok b h) := by
  have hs := seq_strs (G := G) g
  have c2 : callb G .len [.ref i] h = some (.ok (.int ws.length) h) := by simp [callb, hs, ok1]
  subst q
  refine val_of ?_
  rw [evE, evE, es_cons' (eVar s0) es_nil, Rb_ok, c2, Rb_ok, e_cst, Rb_ok, cmp_ii]
  have : decide ((ws.length : Int) = 1) = decide (ws.length = 1) := by
    rw [Bool.eq_iff_iff, decide_eq_true_eq, decide_eq_true_eq]; omega
  rw [this]
/-- the first word asked -/
theorem t_first (g : h[i]? = some (.lst (ws.map .str))) (s0 : s[0]? = some (some (.ref i))) (q : ws[0]? = some x) (hx : SeqAt.shaped (.str x) = true) (hy : SeqAt.shaped (.str y) = true) {b : Bool} (e : decide (x = y) = b) : evT G o (.val (.cmp .Eq (.idx (.var 0) (.cst (.int 0))) (.cst (.str y)))) s h = some (.ok b h) := by
  subst e
  exact val_of (e_eqs (e_ixw (k := 0) s0 g e_cst q) e_cst hx hy)
/-- no sign outside of brackets: the rest decides -/
theorem lh_rest (hf : G.fns "_law_holds" = some ⟨2, 8, xLH, []⟩) (hn : 2 ≤ n) {r : Option (Re Vv)} (g : h[i]? = some (.lst (ws.map .str))) (hw : ∀ w ∈ ws, WdOk w) (hl : ws.length ≤ 1000) (q1 : nh "or" ws.reverse 0 = some 0) (q2 : nh "and" ws.reverse 0 = some 0)
    (k : ∀ u p, retR (evS G (oc G n) hRest (LS i d "and" u p) (h ++ [oa])) = r) : run G n "_law_holds" [.ref i, .ref d] h = r := by
  have g' : (h ++ [oa])[i]? = some (.lst (ws.map .str)) := get_app g
  obtain ⟨p1, u1, e1⟩ := sign_no (G := G) (o := oc G n) (d := d) (p := none) (x := 0) (x3 := none) g' hw hl orand.1 q1
  obtain ⟨p2, u2, e2⟩ := sign_no (G := G) (o := oc G n) (d := d) (p := p1) (x := 0) (x3 := some (.int u1)) g' hw hl orand.2.1 q2
  refine run_ev hf hn rfl rfl (s := [some (.ref i), some (.ref d), none, none, none, none, none, none]) (r := evS G (oc G n) hRest (LS i d "and" u2 p2) (h ++ [oa])) ?_ (k u2 p2)
  show evS G (oc G n) xLH _ h = _
  rw [lh_eq]
  refine seq_nx (out_walk (f := fun _ => none) (r := some (.nx (LS i d "and" u2 p2) (h ++ [oa]))) g ?_) rfl
  have kp : keeps G ⟨([Vv.str "or", Vv.str "and"] : List Vv).map fun v => [v], some (.ref h.length), [.str "or", .str "and"], true, false⟩ (h ++ [oa]) = true := keeps_lst get_new
  have t1 : setT [2] [some (.ref i), some (.ref d), none, none, none, none, none, none] [Vv.str "or"] = some [some (.ref i), some (.ref d), some (.str "or"), none, none, none, none, none] := rfl
  have t2 : setT [2] (LS i d "or" u1 p1) [Vv.str "and"] = some [some (.ref i), some (.ref d), some (.str "and"), some (.int u1), p1, none, none, none] := rfl
  rw [forF, if_pos kp]
  simp only [t1, e1]
  rw [forF, if_pos kp]
  simp only [t2, e2]
  rw [forF, if_pos kp]
/-- a leaf's rest -/
theorem leaf_rest (V : Vals h d f) (hx : x ∈ NMS) (g : h[i]? = some (.lst (ws.map .str))) (q : ws[0]? = some x) {b1 b2 : Bool} {u : Int} {p : Option Vv} (hl : ws.length = 1 → b2 = true) (hv : ws.length ≠ 1 → ∀ t, f x = some t → evE G o hV [some (.ref i), some (.ref d), some (.str "and"), some (.int u), p, none, none, some (.int t)] h = some (.ok (.bl b2) h)) (hb : b1 = (match f x with | some _ => b2 | none => false)) :
    retR (evS G o hRest (LS i d "and" u p) h) = some (.ok (.bl b1) h) := by
  obtain ⟨a1, a2, _, _, a3, _, _⟩ := nms_ne hx
  have sx := (nms_wd hx).1.1
  have n1 : evT G o hA1 (LS i d "and" u p) h = some (.ok false h) := t_first g rfl q sx (by decide +kernel) (decide_eq_false a3)
  have n2 : evT G o hA2 (LS i d "and" u p) h = some (.ok false h) := t_first g rfl q sx (by decide +kernel) (decide_eq_false a2)
  have e7 : evE G o hG (LS i d "and" u p) h = some (.ok (vOf f x) h) := e_get V hx (j := 1) rfl (e_ixw (j := 0) (k := 0) rfl g e_cst q)
  have E : ∀ r, evS G o (.seq (.ifs hT (.seq (.ret (.cmp .IsNot (.var 7) (.cst .non))) .skip) .skip) (.seq (.ret hV) .skip)) [some (.ref i), some (.ref d), some (.str "and"), some (.int u), p, none, none, some (vOf f x)] h = r → evS G o hRest (LS i d "and" u p) h = r := fun r e => seq_nx (ifs_f n1 rfl) (seq_nx (ifs_f n2 rfl) (seq_nx (asg_of (i := 7) e7) e))
  cases hq : f x with
  | none =>
    rw [hq] at hb
    subst hb
    have ev : vOf f x = .non := by unfold vOf; rw [hq]
    rw [ev] at E
    rw [E (some (.rt (.bl false) h)) (seq_rt (ifs_t rfl (seq_rt (ret_of rfl))))]
    rfl
  | some t =>
    have hb : b1 = b2 := by rw [hq] at hb; exact hb
    rw [hb]
    have ev : vOf f x = .int t := by unfold vOf; rw [hq]
    rw [ev] at E
    by_cases ql : ws.length = 1
    · have T : evT G o hT [some (.ref i), some (.ref d), some (.str "and"), some (.int u), p, none, none, some (.int t)] h = some (.ok true h) := by
        have t2 := len_ws (G := G) (o := o) (s := [some (.ref i), some (.ref d), some (.str "and"), some (.int u), p, none, none, some (.int t)]) g rfl (decide_eq_true ql)
        have t1 : evT G o (.val (.cmp .Is (.var 7) (.cst .non))) [some (.ref i), some (.ref d), some (.str "and"), some (.int u), p, none, none, some (.int t)] h = some (.ok false h) := rfl
        rw [hT, evT, t1, Rb_ok]
        exact t2
      rw [E (some (.rt (.bl true) h)) (seq_rt (ifs_t T (seq_rt (ret_of rfl)))), hl ql]
      rfl
    · have T : evT G o hT [some (.ref i), some (.ref d), some (.str "and"), some (.int u), p, none, none, some (.int t)] h = some (.ok false h) := by
        have t2 := len_ws (G := G) (o := o) (s := [some (.ref i), some (.ref d), some (.str "and"), some (.int u), p, none, none, some (.int t)]) g rfl (decide_eq_false ql)
        have t1 : evT G o (.val (.cmp .Is (.var 7) (.cst .non))) [some (.ref i), some (.ref d), some (.str "and"), some (.int u), p, none, none, some (.int t)] h = some (.ok false h) := rfl
        rw [hT, evT, t1, Rb_ok]
        exact t2
      rw [E (some (.rt (.bl b2) h)) (seq_nx (ifs_f T rfl) (seq_rt (ret_of (hv ql t hq))))]
      rfl
/-- a compared leaf's value -/
theorem hV_ok {t v0 : Int} {u : Int} {p : Option Vv} {isE : Bool} (hz : (z, v0) ∈ DGS) (g : h[i]? = some (.lst (([x, (if isE then "=" else "<" : Str), z]).map .str))) : evE G o hV [some (.ref i), some (.ref d), some (.str "and"), some (.int u), p, none, none, some (.int t)] h = some (.ok (.bl (if isE then decide (t = v0) else decide (t < v0))) h) := by
  have zl : z.length ≤ 640 := by rcases dgs_cases hz with ⟨a, b⟩ | ⟨a, b⟩ | ⟨a, b⟩ | ⟨a, b⟩ <;> subst a <;> decide +kernel
  have c1 : callb G .int [.str z] h = some (.ok (.int v0) h) := by simp [callb, (dgs_wd hz).2.2, zl, ok1]
  have e2 : evE G o (.bf .int (.cons (.idx (.var 0) (.cst (.int 2))) .nil)) [some (.ref i), some (.ref d), some (.str "and"), some (.int u), p, none, none, some (.int t)] h = some (.ok (.int v0) h) := by
    have e0 : evE G o (.idx (.var 0) (.cst (.int 2))) [some (.ref i), some (.ref d), some (.str "and"), some (.int u), p, none, none, some (.int t)] h = some (.ok (.str z) h) := e_ixw (j := 0) (k := 2) rfl g e_cst rfl
    rw [evE, es_cons' e0 es_nil, Rb_ok, c1]
  have K : SeqAt.shaped (.str "=") = true ∧ SeqAt.shaped (.str "<") = true ∧ ("<" : Str) ≠ "=" := by decide +kernel
  have t1 : evT G o (.val (.cmp .Eq (.idx (.var 0) (.cst (.int 1))) (.cst (.str "=")))) [some (.ref i), some (.ref d), some (.str "and"), some (.int u), p, none, none, some (.int t)] h = some (.ok isE h) := by
    refine shw (a := decide ((if isE then "=" else "<" : Str) = "=")) ?_ (val_of (e_eqs (e_ixw (j := 0) (k := 1) rfl g e_cst rfl) e_cst ?_ K.1))
    · cases isE
      · exact decide_eq_false K.2.2
      · exact decide_eq_true rfl
    · cases isE
      · exact K.2.1
      · exact K.1
  rw [hV, evE, t1, Rb_ok]
  cases isE with
  | true =>
    show evE G o (.cmp .Eq (.var 7) _) _ h = _
    rw [evE, eVar (i := 7) rfl, Rb_ok, e2, Rb_ok, cmp_ii]; rfl
  | false =>
    show evE G o (.cmp .Lt (.var 7) _) _ h = _
    rw [evE, eVar (i := 7) rfl, Rb_ok, e2, Rb_ok]; rfl
/-- the law's own reading says what the condition says -/
theorem lh_ok (hf : G.fns "_law_holds" = some ⟨2, 8, xLH, []⟩) {k : Kd} (gr : Gr k ws c) : ∀ n, 3 + ws.length ≤ n → ws.length ≤ 1000 → LhS G f d n ws (sem f c) := by
  have pO : ∀ {ws : List Str} {c : Cd}, Gr .si ws c → nh "or" ws.reverse 0 = some 0 := fun g => g.pass (.inl rfl) 0 (.inr ⟨rfl, trivial⟩)
  have pA : ∀ {ws : List Str} {c : Cd}, Gr .si ws c → nh "and" ws.reverse 0 = some 0 := fun g => g.pass (.inr rfl) 0 (.inr ⟨rfl, trivial⟩)
  have lA : ∀ h : VH, HLe h (h ++ [oa]) := fun h => HLe.app _ _
  -- a walk that ends at a sign
  have sgn : ∀ {n : Nat} {h : VH} {i : Nat} {ws : List Str} {r : Vv} {h' : VH}, 2 ≤ n → h[i]? = some (.lst (ws.map .str)) → forF (evS G (oc G n) fBody) [2] (keeps G ⟨([Vv.str "or", Vv.str "and"] : List Vv).map fun v => [v], some (.ref h.length), [.str "or", .str "and"], true, false⟩) [[Vv.str "or"], [Vv.str "and"]] [some (.ref i), some (.ref d), none, none, none, none, none, none] (h ++ [.lst [.str "or", .str "and"]]) = some (.rt r h') → run G n "_law_holds" [.ref i, .ref d] h = some (.ok r h') := fun {n h i ws r h'} hn g e => by
    refine run_ev hf hn rfl rfl (s := [some (.ref i), some (.ref d), none, none, none, none, none, none]) (r := some (.rt r h')) ?_ rfl
    show evS G (oc G n) xLH _ h = _
    rw [lh_eq]
    exact seq_rt (out_walk (f := f) g e)
  have t1 : ∀ i, setT [2] [some (.ref i), some (.ref d), none, none, none, none, none, none] [Vv.str "or"] = some [some (.ref i), some (.ref d), some (.str "or"), none, none, none, none, none] := fun i => rfl
  have kp : ∀ h : VH, keeps G ⟨([Vv.str "or", Vv.str "and"] : List Vv).map fun v => [v], some (.ref h.length), [.str "or", .str "and"], true, false⟩ (h ++ [oa]) = true := fun h => keeps_lst get_new
  induction gr with
  | @nm x hx =>
    intro n hn hl h i g V
    have gr : Gr .si [x] (.nm x) := .nm hx
    refine ⟨h ++ [oa], lh_rest hf (by omega) g gr.wd hl (pO gr) (pA gr) fun u p => ?_, lA h⟩
    refine leaf_rest (b2 := true) (V.keep (lA h)) hx (lA h _ _ g) rfl (fun _ => rfl) (fun z => (z rfl).elim) ?_
    show (f x).isSome = _
    cases f x <;> rfl
  | @eq x z v hx hz =>
    intro n hn hl h i g V
    have gr : Gr .si [x, "=", z] (.eq x v) := .eq hx hz
    refine ⟨h ++ [oa], lh_rest hf (by omega) g gr.wd hl (pO gr) (pA gr) fun u p => ?_, lA h⟩
    cases hq : f x with
    | none => exact leaf_rest (b2 := true) (V.keep (lA h)) hx (lA h _ _ g) rfl (fun _ => rfl) (fun _ t ht => by rw [hq] at ht; cases ht) (by simp [sem, hq])
    | some t =>
      refine leaf_rest (b2 := decide (t = v)) (V.keep (lA h)) hx (lA h _ _ g) rfl (fun q => absurd q (by simp)) (fun _ t' ht => ?_) ?_
      · rw [hq] at ht; cases ht
        exact hV_ok (isE := true) hz (lA h _ _ g)
      · simp only [sem, hq]
        by_cases y : t = v
        · subst y; simp
        · simp [y]
  | @lt x z v hx hz =>
    intro n hn hl h i g V
    have gr : Gr .si [x, "<", z] (.lt x v) := .lt hx hz
    refine ⟨h ++ [oa], lh_rest hf (by omega) g gr.wd hl (pO gr) (pA gr) fun u p => ?_, lA h⟩
    cases hq : f x with
    | none => exact leaf_rest (b2 := true) (V.keep (lA h)) hx (lA h _ _ g) rfl (fun _ => rfl) (fun _ t ht => by rw [hq] at ht; cases ht) (by simp [sem, hq])
    | some t =>
      refine leaf_rest (b2 := decide (t < v)) (V.keep (lA h)) hx (lA h _ _ g) rfl (fun q => absurd q (by simp)) (fun _ t' ht => ?_) ?_
      · rw [hq] at ht; cases ht
        exact hV_ok (isE := false) hz (lA h _ _ g)
      · simp only [sem, hq]
  | @no ws c gr ih =>
    intro n hn hl h i g V
    rw [List.length_cons] at hn hl
    have gr' : Gr .si (("not" : Str) :: ws) (.no c) := .no gr
    have g' := lA h _ _ g
    have L := ih (n - 1) (by omega) (by omega)
    have P : ∀ u p, ∃ h', evE G (oc G n) hR1 (LS i d "and" u p) (h ++ [oa]) = some (.ok (.bl (!sem f c)) h') ∧ HLe (h ++ [oa]) h' := fun u p => by
      obtain ⟨h', e, l⟩ := e_part (n := n) (s := LS i d "and" u p) (el := .cst (.int 1)) (eh := .noe) (lo := some ((1 : Nat) : Int)) (hi := none) hf g' (V.keep (lA h)) rfl rfl (vl := .int 1) (vh := .non) e_cst (by rw [evE]) rfl rfl (acc := ws) (by rw [cut_drop (by simp)]; simp) L
      exact ⟨h', e_not2 e, l⟩
    -- the heap behind it does not depend on the slots' rest
    obtain ⟨p1, u1, e1⟩ := sign_no (G := G) (o := oc G n) (d := d) (p := none) (x := 0) (x3 := none) g' gr'.wd (by simpa using hl) orand.1 (pO gr')
    obtain ⟨p2, u2, e2⟩ := sign_no (G := G) (o := oc G n) (d := d) (p := p1) (x := 0) (x3 := some (.int u1)) g' gr'.wd (by simpa using hl) orand.2.1 (pA gr')
    obtain ⟨h', e, l⟩ := P u2 p2
    refine ⟨h', ?_, (lA h).trans l⟩
    refine run_ev hf (by omega) rfl rfl (s := [some (.ref i), some (.ref d), none, none, none, none, none, none]) (r := some (.rt (.bl (!sem f c)) h')) ?_ rfl
    show evS G (oc G n) xLH _ h = _
    rw [lh_eq]
    refine seq_nx (out_walk (f := f) (r := some (.nx (LS i d "and" u2 p2) (h ++ [oa]))) g ?_) (seq_rt (ifs_t (t_first g' rfl rfl (by decide +kernel) (by decide +kernel) (decide_eq_true rfl)) (seq_rt (ret_of e))))
    have t2 : setT [2] (LS i d "or" u1 p1) [Vv.str "and"] = some [some (.ref i), some (.ref d), some (.str "and"), some (.int u1), p1, none, none, none] := rfl
    rw [forF, if_pos (kp h)]
    simp only [t1, e1]
    rw [forF, if_pos (kp h)]
    simp only [t2, e2]
    rw [forF, if_pos (kp h)]
  | @pa ws c gr ih =>
    intro n hn hl h i g V
    rw [List.length_cons, List.length_append, List.length_singleton] at hn hl
    have gr' : Gr .si (("(" : Str) :: (ws ++ [(")" : Str)])) c := .pa gr
    have hl' : ((("(" : Str) :: (ws ++ [(")" : Str)]))).length ≤ 1000 := by rw [List.length_cons, List.length_append, List.length_singleton]; exact hl
    have g' := lA h _ _ g
    have L := ih (n - 1) (by omega) (by omega)
    obtain ⟨p1, u1, e1⟩ := sign_no (G := G) (o := oc G n) (d := d) (p := none) (x := 0) (x3 := none) g' gr'.wd hl' orand.1 (pO gr')
    obtain ⟨p2, u2, e2⟩ := sign_no (G := G) (o := oc G n) (d := d) (p := p1) (x := 0) (x3 := some (.int u1)) g' gr'.wd hl' orand.2.1 (pA gr')
    obtain ⟨h', e, l⟩ := e_part (n := n) (s := LS i d "and" u2 p2) (el := .cst (.int 1)) (eh := .neg (.cst (.int 1))) (lo := some 1) (hi := some (-1)) hf g' (V.keep (lA h)) rfl rfl (vl := .int 1) (vh := .int (-1)) e_cst rfl rfl rfl (acc := ws) (by
      rw [List.map_cons, List.map_append]; exact cut_mid) L
    refine ⟨h', ?_, (lA h).trans l⟩
    refine run_ev hf (by omega) rfl rfl (s := [some (.ref i), some (.ref d), none, none, none, none, none, none]) (r := some (.rt (.bl (sem f c)) h')) ?_ rfl
    show evS G (oc G n) xLH _ h = _
    rw [lh_eq]
    refine seq_nx (out_walk (f := f) (r := some (.nx (LS i d "and" u2 p2) (h ++ [oa]))) g ?_) (seq_nx (ifs_f (t_first (x := "(") g' rfl rfl (by decide +kernel) (by decide +kernel) (decide_eq_false (by decide +kernel))) rfl) (seq_rt (ifs_t (t_first g' rfl rfl (by decide +kernel) (by decide +kernel) (decide_eq_true rfl)) (seq_rt (ret_of e)))))
    have t2 : setT [2] (LS i d "or" u1 p1) [Vv.str "and"] = some [some (.ref i), some (.ref d), some (.str "and"), some (.int u1), p1, none, none, none] := rfl
    rw [forF, if_pos (kp h)]
    simp only [t1, e1]
    rw [forF, if_pos (kp h)]
    simp only [t2, e2]
    rw [forF, if_pos (kp h)]
  | b1 _ ih => exact ih
  | @b2 ws vs c c' gr1 gr2 ih1 ih2 =>
    intro n hn hl h i g V
    have gr' : Gr .bo (ws ++ ("and" : Str) :: vs) (.an c c') := .b2 gr1 gr2
    have g' := lA h _ _ g
    have ln : (ws ++ ("and" : Str) :: vs).length = ws.length + vs.length + 1 := by simp; omega
    have L1 := ih1 (n - 1) (by omega) (by omega)
    have L2 := ih2 (n - 1) (by omega) (by omega)
    obtain ⟨p1, u1, e1⟩ := sign_no (G := G) (o := oc G n) (d := d) (p := none) (x := 0) (x3 := none) g' gr'.wd hl orand.1 (gr'.pass (.inl rfl) 0 (.inr ⟨rfl, rfl⟩))
    obtain ⟨h', e2, l⟩ := sign_yes (G := G) (n := n) (isOr := false) (p := p1) (x3 := some (.int u1)) hf g' gr'.wd hl (V.keep (lA h)) (pA gr2) L1 L2
    refine ⟨h', sgn (by omega) g ?_, (lA h).trans l⟩
    have t2 : setT [2] (LS i d "or" u1 p1) [Vv.str "and"] = some [some (.ref i), some (.ref d), some (.str "and"), some (.int u1), p1, none, none, none] := rfl
    rw [forF, if_pos (kp h)]
    simp only [t1, e1]
    rw [forF, if_pos (kp h)]
    simp only [t2]
    have e2 : evS G (oc G n) fBody [some (.ref i), some (.ref d), some (.str "and"), some (.int u1), p1, none, none, none] (h ++ [oa]) = some (.rt (.bl (sem f c && sem f c')) h') := e2
    rw [e2]
    rfl
  | e1 _ ih => exact ih
  | @e2 ws vs c c' gr1 gr2 ih1 ih2 =>
    intro n hn hl h i g V
    have gr' : Gr .ei (ws ++ ("or" : Str) :: vs) (.ro c c') := .e2 gr1 gr2
    have g' := lA h _ _ g
    have ln : (ws ++ ("or" : Str) :: vs).length = ws.length + vs.length + 1 := by simp; omega
    have L1 := ih1 (n - 1) (by omega) (by omega)
    have L2 := ih2 (n - 1) (by omega) (by omega)
    obtain ⟨h', e2, l⟩ := sign_yes (G := G) (n := n) (isOr := true) (p := none) (x3 := none) hf g' gr'.wd hl (V.keep (lA h)) (gr2.pass (.inl rfl) 0 (.inr ⟨rfl, rfl⟩)) L1 L2
    refine ⟨h', sgn (by omega) g ?_, (lA h).trans l⟩
    rw [forF, if_pos (kp h)]
    simp only [t1]
    have e2 : evS G (oc G n) fBody [some (.ref i), some (.ref d), some (.str "or"), none, none, none, none, none] (h ++ [oa]) = some (.rt (.bl (sem f c || sem f c')) h') := e2
    rw [e2]
    rfl
end
end Pl

set_option linter.all false
set_option autoImplicit false
set_option maxRecDepth 100000
set_option maxHeartbeats 1000000
namespace Pl
open PySem Dv
section
variable {G : Tx} {n : Nat} {h h1 h2 : VH} {i j b B k : Nat} {o : Orc} {s : Sl} {e a : Ex} {xs : List Vv} {v w : Vv} {ws vs : List Str} {c d : Cd} {x y z : Str} {m : Int}
theorem str_ext {a b : Str} (q : a.cps.toList = b.cps.toList) : a = b := by
  obtain ⟨⟨a⟩⟩ := a
  obtain ⟨⟨b⟩⟩ := b
  have q : a = b := q
  subst q; rfl
theorem j_cons {w : Str} (hv : vs ≠ []) : Txt.join sp (w :: vs) = w ++ sp ++ Txt.join sp vs := by
  rw [TL.join_eq, TL.join_eq]
  cases vs with
  | nil => exact (hv rfl).elim
  | cons v r => rfl
theorem j_one {w : Str} : Txt.join sp [w] = w := by rw [TL.join_eq]; rfl
theorem s_ass {a b c : Str} : a ++ b ++ c = a ++ (b ++ c) := str_ext (by simp only [TL.tl_append, List.append_assoc])
theorem j_app : ∀ {ws : List Str}, ws ≠ [] → vs ≠ [] → Txt.join sp (ws ++ vs) = Txt.join sp ws ++ sp ++ Txt.join sp vs
  | [], hw, _ => (hw rfl).elim
  | [w], _, hv => by rw [List.singleton_append, j_cons hv, j_one]
  | w :: u :: r, _, hv => by
    rw [List.cons_append, j_cons (by simp), j_app (ws := u :: r) (by simp) hv, j_cons (w := w) (vs := u :: r) (by simp)]
    simp only [s_ass]
theorem j_mid {g : Str} (hw : ws ≠ []) (hv : vs ≠ []) : Txt.join sp (ws ++ g :: vs) = Txt.join sp ws ++ (sp ++ g ++ sp) ++ Txt.join sp vs := by
  rw [j_app hw (by simp), j_cons hv]
  simp only [s_ass]
theorem j_br (hw : ws ≠ []) : Txt.join sp (("(" : Str) :: (ws ++ [(")" : Str)])) = "( " ++ Txt.join sp ws ++ " )" := by
  have e1 : ("( " : Str) = ("(" : Str) ++ sp := by decide +kernel
  have e2 : (" )" : Str) = sp ++ (")" : Str) := by decide +kernel
  rw [j_cons (by simp), j_app hw (by simp), j_one, e1, e2]
  simp only [s_ass]
theorem j_not (hw : ws ≠ []) : Txt.join sp (("not" : Str) :: ws) = "not " ++ Txt.join sp ws := by
  have e1 : ("not " : Str) = ("not" : Str) ++ sp := by decide +kernel
  rw [j_cons hw, e1]
theorem j_sgn {x g z : Str} : Txt.join sp [x, g, z] = x ++ (sp ++ g ++ sp) ++ z := by
  rw [j_cons (by simp), j_cons (by simp), j_one]
  simp only [s_ass]
/-- a short text -/
def Sm (z : Str) : Prop := z.length ≤ 3000000
theorem b_sm (hy : Sm y) (hz : Sm z) : binop .Add (.str y) (.str z) h = some (.ok (.str (y ++ z)) h) := by
  have q : y.length + z.length ≤ sz := by
    have h1 : y.length ≤ 3000000 := hy
    have h2 : z.length ≤ 3000000 := hz
    have : sz = 16777216 := rfl
    omega
  show (if _ then _ else _) = _
  rw [if_pos q]
  rfl
theorem e_sm {a c : Ex} (k1 : evE G o a s h = some (.ok (.str y) h1)) (k2 : evE G o c s h1 = some (.ok (.str z) h2)) (hy : Sm y) (hz : Sm z) : evE G o (.bin .Add a c) s h = some (.ok (.str (y ++ z)) h2) := e_bin' k1 k2 (b_sm hy hz)
/-- the text of a condition of at most L words -/
def GV (L : Nat) (v : Vv) : Prop := ∃ ws c, v = .str (Txt.join sp ws) ∧ Gr .ei ws c ∧ ws.length ≤ L
theorem GV.mono {L M : Nat} (t : GV L v) (l : L ≤ M) : GV M v := by obtain ⟨ws, c, e, g, q⟩ := t; exact ⟨ws, c, e, g, Nat.le_trans q l⟩
theorem sm_join {k : Kd} (g : Gr k ws c) (hl : ws.length ≤ 900) : Sm (Txt.join sp ws) := by
  have := (join_len g.wd (by omega)).2
  show _ ≤ 3000000
  omega
theorem sm_add (hy : y.length ≤ 2000010) (hz : z.length ≤ 10) : Sm (y ++ z) := by
  show (y ++ z).length ≤ _
  rw [Str.length_append]; omega
theorem len_join {k : Kd} (g : Gr k ws c) (hl : ws.length ≤ 900) : (Txt.join sp ws).length ≤ 2000000 := (join_len g.wd (by omega)).2
def wL : Nat → Nat
  | 0 => 3
  | k + 1 => 2 * wL k + 5
theorem dig_str {r : Int} (h0 : 0 ≤ r) (h1 : r < 4) : ∃ z, callb G .str [.int r] h = some (.ok (.str z) h) ∧ (z, r) ∈ DGS := by
  have : r = 0 ∨ r = 1 ∨ r = 2 ∨ r = 3 := by omega
  rcases this with q | q | q | q <;> subst q <;> exact ⟨_, rfl, by decide +kernel⟩
theorem nms_sm {x : Str} (h : x ∈ NMS) : x.length ≤ 10 := by rcases nms_cases h with q | q | q | q <;> subst q <;> decide +kernel
theorem dgs_sm {z : Str} {v : Int} (h : (z, v) ∈ DGS) : z.length ≤ 10 := by rcases dgs_cases h with ⟨q, r⟩ | ⟨q, r⟩ | ⟨q, r⟩ | ⟨q, r⟩ <;> subst q <;> decide +kernel
theorem sm_of {z : Str} (h : z.length ≤ 2000010) : Sm z := by show _ ≤ _; omega
theorem GV.nam {x : Str} (hx : x ∈ NMS) : GV 3 (.str x) := ⟨[x], _, by rw [j_one], .e1 (.b1 (.nm hx)), by simp⟩
/-- in brackets -/
theorem e_brk {L : Nat} {p : Nat} (q : s[p]? = some (some v)) (t : GV L v) (hL : L ≤ 800) : ∃ x, evE G o (.bin .Add (.bin .Add (.cst (.str "( ")) (.var p)) (.cst (.str " )"))) s h = some (.ok (.str x) h) ∧ ∃ ws c, x = Txt.join sp ws ∧ Gr .si ws c ∧ ws.length ≤ L + 2 := by
  obtain ⟨ws, c, rfl, g, l⟩ := t
  have lj := len_join g (by omega)
  have e1 := e_sm (G := G) (o := o) (s := s) (h := h) (e_cst (v := .str "( ")) (eVar q) (sm_of (by decide +kernel)) (sm_of (by omega))
  have e2 := e_sm e1 (e_cst (v := .str " )")) (by
    show ("( " ++ Txt.join sp ws : Str).length ≤ 3000000
    rw [Str.length_append]
    have : ("( " : Str).length = 2 := by decide +kernel
    omega) (sm_of (by decide +kernel))
  exact ⟨_, e2, ("(" : Str) :: (ws ++ [(")" : Str)]), c, (j_br g.ne).symm, .pa g, by simp; omega⟩
theorem GV.si {x : Str} {L : Nat} (q : ∃ ws c, x = Txt.join sp ws ∧ Gr .si ws c ∧ ws.length ≤ L) : GV L (.str x) := by
  obtain ⟨ws, c, e, g, l⟩ := q
  exact ⟨ws, c, by rw [e], .e1 (.b1 g), l⟩
theorem cnd_pre (D : Drw G) (hn : 20 ≤ n) {k : Nat} {NS : List Str} (hN : ∀ x ∈ NS, x ∈ NMS) (hN0 : 0 < NS.length) (hN1 : NS.length ≤ 100) (hj : h[j]? = some (.lst (NS.map .str))) (hb : j ≠ b) (bg : Bag h b (B + 3)) :
    ∃ r x z dv h3, (∀ rest q, evS G (oc G n) rest (CS b j k r (.str x) (.str z) none none none none) h3 = q → evS G (oc G n) (.seq c1 (.seq c2 rest)) [some (.ref b), some (.ref j), some (.int k), none, none, none, none, none, none, none] h = q) ∧ 0 ≤ r ∧ r < (if 0 < k then 6 else 3) ∧ x ∈ NMS ∧ (z, dv) ∈ DGS ∧ Bag h3 b B ∧ HLx b h h3 := by
  have he : evE G (oc G n) (.ite (.val (.cmp .Gt (.var 2) (.cst (.int 0)))) (.cst (.int 6)) (.cst (.int 3))) [some (.ref b), some (.ref j), some (.int k), none, none, none, none, none, none, none] h = some (.ok (.int (if 0 < k then 6 else 3)) h) := by
    have t : evT G (oc G n) (.val (.cmp .Gt (.var 2) (.cst (.int 0)))) [some (.ref b), some (.ref j), some (.int k), none, none, none, none, none, none, none] h = some (.ok (decide ((0 : Int) < k)) h) := val_of rfl
    by_cases q : 0 < k
    · rw [evE, shw (decide_eq_true (by omega)) t, Rb_ok, if_pos q]; rfl
    · rw [evE, shw (decide_eq_false (by omega)) t, Rb_ok, if_neg q]; rfl
  obtain ⟨r, h1, e1, r0, r1, b1, x1⟩ := eTake D (n := n) (by omega) (ib := 0) (b := b) rfl he (bg.mono (B' := B + 2 + 1) (by omega)) (by split <;> omega) (by split <;> omega)
  obtain ⟨v4, h2, e2, m4, b2, x2⟩ := eOf D (n := n) (s := [some (.ref b), some (.ref j), some (.int k), some (.int r), none, none, none, none, none, none]) (by omega) (ib := 0) (b := b) (B := B + 1) (e := .var 1) rfl rfl (HLe.refl h1) (x1 _ _ hb hj) b1 (by rw [List.length_map]; omega) (by rw [List.length_map]; omega) hb
  obtain ⟨r5, h3, e3, r50, r51, b3, x3⟩ := eTake D (n := n) (s := [some (.ref b), some (.ref j), some (.int k), some (.int r), none, none, none, none, none, none]) (by omega) (ib := 0) (b := b) (e := .cst (.int 4)) rfl rfl b2 (by omega) (by omega)
  obtain ⟨z, e5, t5⟩ := dig_str (G := G) (h := h3) r50 r51
  have e4 : evE G (oc G n) (.bf .str (.cons (.call "_law_take" (.cons (.var 0) (.cons (.cst (.int 4)) .nil))) .nil)) [some (.ref b), some (.ref j), some (.int k), some (.int r), none, none, none, none, none, none] h2 = some (.ok (.str z) h3) := by
    rw [evE, es_cons' e3 rfl, Rb_ok, e5]
  obtain ⟨x, hx, rfl⟩ := List.mem_map.mp m4
  exact ⟨r, x, z, r5, h3, fun rest q hq => seq_nx (asg_of e1) (seq_nx (par2 e2 e4) hq), r0, r1, hN x hx, t5, b3, (x1.trans x2).trans x3⟩
theorem cnd_low {r k dv : Int} (h0 : 0 ≤ r) (h1 : r < 3) (hx : x ∈ NMS) (hz : (z, dv) ∈ DGS) (rest : St) : ∃ v h', evS G o (.seq c3 rest) (CS b j k r (.str x) (.str z) none none none none) h = some (.rt v h') ∧ GV 3 v ∧ HLe h h' := by
  have t : evT G o (.val (.cmp .Lt (.var 3) (.cst (.int 3)))) (CS b j k r (.str x) (.str z) none none none none) h = some (.ok (decide (r < 3)) h) := val_of rfl
  have nx := nms_sm hx
  have nz := dgs_sm hz
  have ad : ∀ g : Str, g.length ≤ 10 → evE G o (.bin .Add (.bin .Add (.var 4) (.cst (.str g))) (.var 5)) (CS b j k r (.str x) (.str z) none none none none) h = some (.ok (.str (x ++ g ++ z)) h) := fun g hg => by
    have e1 := e_sm (G := G) (o := o) (s := CS b j k r (.str x) (.str z) none none none none) (h := h) (y := x) (z := g) (eVar (i := 4) rfl) e_cst (sm_of (by omega)) (sm_of (by omega))
    exact e_sm e1 (eVar (i := 5) rfl) (sm_add (by omega) hg) (sm_of (by omega))
  have e1 := ad " = " (by decide +kernel)
  have e2 := ad " < " (by decide +kernel)
  have es : evEs G o (.cons (.var 4) (.cons (.bin .Add (.bin .Add (.var 4) (.cst (.str " = "))) (.var 5)) (.cons (.bin .Add (.bin .Add (.var 4) (.cst (.str " < "))) (.var 5)) .nil))) (CS b j k r (.str x) (.str z) none none none none) h = some (.ok [.str x, .str (x ++ " = " ++ z), .str (x ++ " < " ++ z)] h) := es_cons' (eVar (i := 4) rfl) (es_cons' e1 (es_cons' e2 es_nil))
  obtain ⟨v, hv, ei⟩ := eIdx (k := 0) (e := .var 3) (r := r) es (by simp) (eVar (i := 3) rfl) h0 h1
  refine ⟨v, _, seq_rt (ifs_t (shw (decide_eq_true h1) t) (seq_rt (ret_of ei))), ?_, HLe.app _ _⟩
  have q1 : (" = " : Str) = sp ++ "=" ++ sp := by decide +kernel
  have q2 : (" < " : Str) = sp ++ "<" ++ sp := by decide +kernel
  simp only [List.mem_cons, List.not_mem_nil, or_false] at hv
  rcases hv with q | q | q <;> subst q
  · exact GV.nam hx
  · exact ⟨[x, "=", z], _, by rw [j_sgn, q1], .e1 (.b1 (.eq hx hz)), by simp⟩
  · exact ⟨[x, "<", z], _, by rw [j_sgn, q2], .e1 (.b1 (.lt hx hz)), by simp⟩
theorem GV.glue {L : Nat} {v w : Vv} {g : Str} (t : GV L v) (t2 : GV L w) (hL : L ≤ 400) (hg : g = " and " ∨ g = " or ") : ∃ y z, v = .str y ∧ w = .str z ∧ Sm y ∧ Sm (y ++ g) ∧ Sm z ∧ GV (2 * L + 1) (.str (y ++ g ++ z)) := by
  obtain ⟨ws, c, rfl, g1, l1⟩ := t
  obtain ⟨vs, d, rfl, g2, l2⟩ := t2
  have j1 := len_join g1 (by omega)
  have j2 := len_join g2 (by omega)
  have q1 : (" and " : Str) = sp ++ "and" ++ sp := by decide +kernel
  have q2 : (" or " : Str) = sp ++ "or" ++ sp := by decide +kernel
  refine ⟨_, _, rfl, rfl, sm_of (by omega), sm_add (by omega) ?_, sm_of (by omega), ?_⟩
  · rcases hg with q | q <;> subst q <;> decide +kernel
  · rcases hg with q | q <;> subst q
    · obtain ⟨e, ge⟩ := glue_an g1 g2
      exact ⟨_, e, by rw [j_mid g1.ne g2.ne, q1], ge, by simp; omega⟩
    · obtain ⟨e, ge⟩ := glue_or g1 g2
      exact ⟨_, e, by rw [j_mid g1.ne g2.ne, q2], ge, by simp; omega⟩
theorem cnd_ok (D : Drw G) (hc : G.fns "_law_condition" = some ⟨3, 10, xCond, []⟩) {NS : List Str} (hN : ∀ x ∈ NS, x ∈ NMS) (hN0 : 0 < NS.length) (hN1 : NS.length ≤ 100) : ∀ (k n B : Nat) (h : VH), k ≤ 3 → 20 + 2 * k ≤ n → h[j]? = some (.lst (NS.map .str)) → j ≠ b → Bag h b (B + cB k) →
    ∃ v h', run G n "_law_condition" [.ref b, .ref j, .int k] h = some (.ok v h') ∧ GV (wL k) v ∧ Bag h' b B ∧ HLx b h h' := by
  intro k
  induction k with
  | zero =>
    intro n B h _ hn hj hb bg
    have R : ∀ {q t}, evS G (oc G n) (.seq c1 (.seq c2 (.seq c3 (.seq c4 (.seq c5 (.seq c6 (.seq c7 .skip))))))) [some (.ref b), some (.ref j), some (.int (0 : Nat)), none, none, none, none, none, none, none] h = t → retR t = q → run G n "_law_condition" [.ref b, .ref j, .int (0 : Nat)] h = q := fun e1 e2 => run_ev hc (by omega) rfl rfl e1 e2
    obtain ⟨r, x, z, dv, h3, st, r0, r1, hx, hz, b3, x3⟩ := cnd_pre (k := 0) D (n := n) (by omega) hN hN0 hN1 hj hb bg
    obtain ⟨v, h', e, t, l⟩ := cnd_low (G := G) (o := oc G n) (h := h3) (b := b) (j := j) (k := (0 : Nat)) r0 r1 hx hz (.seq c4 (.seq c5 (.seq c6 (.seq c7 .skip))))
    exact ⟨v, h', R (st _ _ e) rfl, t, b3.keep l, x3.trans (l.x b)⟩
  | succ k ih =>
    intro n B h hk hn hj hb bg
    have R : ∀ {q t}, evS G (oc G n) (.seq c1 (.seq c2 (.seq c3 (.seq c4 (.seq c5 (.seq c6 (.seq c7 .skip))))))) [some (.ref b), some (.ref j), some (.int (k + 1 : Nat)), none, none, none, none, none, none, none] h = t → retR t = q → run G n "_law_condition" [.ref b, .ref j, .int (k + 1 : Nat)] h = q := fun e1 e2 => run_ev hc (by omega) rfl rfl e1 e2
    obtain ⟨r, x, z, dv, h3, st, r0, r1, hx, hz, b3, x3⟩ := cnd_pre (k := k + 1) (B := B + 2 + 2 * cB k) D (n := n) (by omega) hN hN0 hN1 hj hb (bg.mono (by simp only [cB]; omega))
    rw [if_pos (by omega)] at r1
    have L3 : 3 ≤ wL k ∧ wL k ≤ 27 := by
      have : k = 0 ∨ k = 1 ∨ k = 2 := by omega
      rcases this with q | q | q <;> subst q <;> decide
    by_cases q : r < 3
    · obtain ⟨v, h', e, t, l⟩ := cnd_low (G := G) (o := oc G n) (h := h3) (b := b) (j := j) (k := (k + 1 : Nat)) r0 q hx hz (.seq c4 (.seq c5 (.seq c6 (.seq c7 .skip))))
      exact ⟨v, h', R (st _ _ e) rfl, t.mono (by simp only [wL]; omega), (b3.keep l).mono (by omega), x3.trans (l.x b)⟩
    · have n3 : evS G (oc G n) c3 (CS b j (k + 1 : Nat) r (.str x) (.str z) none none none none) h3 = some (.nx (CS b j (k + 1 : Nat) r (.str x) (.str z) none none none none) h3) := by
        have t : evT G (oc G n) (.val (.cmp .Lt (.var 3) (.cst (.int 3)))) (CS b j (k + 1 : Nat) r (.str x) (.str z) none none none none) h3 = some (.ok (decide (r < 3)) h3) := val_of rfl
        exact ifs_f (shw (decide_eq_false q) t) rfl
      have co : ∀ (h : VH) (B : Nat), h[j]? = some (.lst (NS.map .str)) → Bag h b (B + cB k) → ∃ v h', evE G (oc G n) eCo (CS b j (k + 1 : Nat) r (.str x) (.str z) none none none none) h = some (.ok v h') ∧ GV (wL k) v ∧ Bag h' b B ∧ HLx b h h' := fun h B hj bg => by
        obtain ⟨v, h', e, zz⟩ := ih (n - 1) B h (by omega) (by omega) hj hb bg
        refine ⟨v, h', ?_, zz⟩
        have es : evEs G (oc G n) (.cons (.var 0) (.cons (.var 1) (.cons (.bin .Sub (.var 2) (.cst (.int 1))) .nil))) (CS b j (k + 1 : Nat) r (.str x) (.str z) none none none none) h = some (.ok [.ref b, .ref j, .int k] h) := by
          have : (((k + 1 : Nat) : Int) - 1) = (k : Int) := by omega
          refine es_cons' (eVar (i := 0) rfl) (es_cons' (eVar (i := 1) rfl) (es_cons' (v := .int k) ?_ rfl))
          rw [← this]; rfl
        rw [eCo, evE, es, Rb_ok, orc_call, call_of hc rfl, e]
      obtain ⟨v6, h4, e6, t6, b4, x4⟩ := co h3 (B + 2 + cB k) (x3 _ _ hb hj) (b3.mono (by omega))
      obtain ⟨v7, h5, e7, t7, b5, x5⟩ := co h4 (B + 2) (x4 _ _ hb (x3 _ _ hb hj)) b4
      have lb := lt_bag b5
      have t3 : evT G (oc G n) (.val (.cmp .Eq (.var 3) (.cst (.int 3)))) (CS b j (k + 1 : Nat) r (.str x) (.str z) (some v6) (some v7) none none) h5 = some (.ok (decide (r = 3)) h5) := by
        refine val_of ?_
        simp only [evE, CS, List.getElem?_cons_succ, List.getElem?_cons_zero, Rb_ok, cmp_ii]
      by_cases q3 : r = 3
      · obtain ⟨bx, ex, tx⟩ := e_brk (G := G) (o := oc G n) (s := CS b j (k + 1 : Nat) r (.str x) (.str z) (some v6) (some v7) none none) (h := h5) (p := 6) rfl t6 (by omega)
        have el := e_lst' (es_cons' (eVar (G := G) (o := oc G n) (s := CS b j (k + 1 : Nat) r (.str x) (.str z) (some v6) (some v7) none none) (h := h5) (i := 4) rfl) (es_cons' ex es_nil)) (by simp)
        obtain ⟨v, h6, e8, m8, b6, x6⟩ := eOf D (n := n) (ib := 0) (b := b) (B := B + 1) (by omega) rfl el (HLe.app _ _) get_new (b5.mono (by omega)) (by simp) (by simp) (by omega)
        have tv : ∃ u, v = .str u ∧ ∃ ws c, u = Txt.join sp ws ∧ Gr .si ws c ∧ ws.length ≤ wL k + 2 := by
          simp only [List.mem_cons, List.not_mem_nil, or_false] at m8
          rcases m8 with z | z <;> subst z
          · exact ⟨x, rfl, [x], _, j_one.symm, .nm hx, by simp⟩
          · exact ⟨bx, rfl, tx⟩
        obtain ⟨u, rfl, ws, c, rfl, gu, lu⟩ := tv
        have ju := len_join gu (by omega)
        have e9 := e_sm (G := G) (o := oc G n) (s := CS b j (k + 1 : Nat) r (.str x) (.str z) (some v6) (some v7) none none) (h := h5) (e_cst (v := .str "not ")) e8 (sm_of (by decide +kernel)) (sm_of (by omega))
        exact ⟨_, h6, R (st _ _ (seq_nx n3 (seq_nx (par2 e6 e7) (seq_rt (ifs_t (shw (decide_eq_true q3) t3) (seq_rt (ret_of e9))))))) rfl, ⟨("not" : Str) :: ws, _, by rw [j_not gu.ne], .e1 (.b1 (.no gu)), by simp only [wL, List.length_cons]; omega⟩, b6.mono (by omega), (((x3.trans x4).trans x5)).trans x6⟩
      · have dr : ∀ (kk : Nat) (h : VH) (B : Nat) (vv : Vv), (CS b j (k + 1 : Nat) r (.str x) (.str z) (some v6) (some v7) none none)[kk]? = some (some vv) → GV (wL k) vv → Bag h b (B + 1) → ∃ v h', evE G (oc G n) (.call "_law_of" (.cons (.var 0) (.cons (.lst (.cons (.bin .Add (.bin .Add (.cst (.str "( ")) (.var kk)) (.cst (.str " )"))) (.cons (.var kk) .nil))) .nil))) (CS b j (k + 1 : Nat) r (.str x) (.str z) (some v6) (some v7) none none) h = some (.ok v h') ∧ GV (wL k + 2) v ∧ Bag h' b B ∧ HLx b h h' := fun kk h B vv hv tv bg => by
          have lb := lt_bag bg
          obtain ⟨bx, ex, tx⟩ := e_brk (G := G) (o := oc G n) (s := CS b j (k + 1 : Nat) r (.str x) (.str z) (some v6) (some v7) none none) (h := h) (p := kk) hv tv (by omega)
          have el := e_lst' (es_cons' ex (es_cons' (eVar (G := G) (o := oc G n) (s := CS b j (k + 1 : Nat) r (.str x) (.str z) (some v6) (some v7) none none) (h := h) (i := kk) hv) es_nil)) (by simp)
          obtain ⟨v, h6, e8, m8, b6, x6⟩ := eOf D (n := n) (ib := 0) (b := b) (B := B) (by omega) rfl el (HLe.app _ _) get_new bg (by simp) (by simp) (by omega)
          refine ⟨v, h6, e8, ?_, b6, x6⟩
          simp only [List.mem_cons, List.not_mem_nil, or_false] at m8
          rcases m8 with z | z <;> subst z
          · exact GV.si tx
          · exact tv.mono (by omega)
        obtain ⟨v8, h6, e8, t8, b6, x6⟩ := dr 6 h5 (B + 1) v6 rfl t6 (b5.mono (by omega))
        obtain ⟨v9, h7, e9, t9, b7, x7⟩ := dr 7 h6 B v7 rfl t7 b6
        obtain ⟨va, ma, ea⟩ := eIdx (G := G) (o := oc G n) (s := CS b j (k + 1 : Nat) r (.str x) (.str z) (some v6) (some v7) (some v8) (some v9)) (h := h7) (k := 0) (es := .cons (.cst (.str " and ")) (.cons (.cst (.str " or ")) .nil)) (xs := [.str " and ", .str " or "]) (e := .bin .Sub (.var 3) (.cst (.int 4))) (r := r - 4) rfl (by decide) rfl (by omega) (by show r - 4 < 2; omega)
        have ta : ∃ g : Str, va = .str g ∧ (g = " and " ∨ g = " or ") := by
          simp only [List.mem_cons, List.not_mem_nil, or_false] at ma
          rcases ma with z | z
          · exact ⟨_, z, .inl rfl⟩
          · exact ⟨_, z, .inr rfl⟩
        obtain ⟨g, rfl, hg⟩ := ta
        obtain ⟨y8, y9, rfl, rfl, m1, m2, m3, tg⟩ := t8.glue t9 (by omega) hg
        have mg : Sm g := by rcases hg with q | q <;> subst q <;> exact sm_of (by decide +kernel)
        have ey := e_sm (eVar (G := G) (o := oc G n) (s := CS b j (k + 1 : Nat) r (.str x) (.str z) (some v6) (some v7) (some (.str y8)) (some (.str y9))) (h := h7) (i := 8) rfl) ea m1 mg
        have ez := e_sm ey (eVar (G := G) (o := oc G n) (s := CS b j (k + 1 : Nat) r (.str x) (.str z) (some v6) (some v7) (some (.str y8)) (some (.str y9))) (i := 9) rfl) m2 m3
        exact ⟨_, _, R (st _ _ (seq_nx n3 (seq_nx (par2 e6 e7) (seq_nx (ifs_f (shw (decide_eq_false q3) t3) rfl) (seq_nx (par2 e8 e9) (seq_rt (ret_of ez))))))) rfl, tg.mono (by simp only [wL]; omega), b7.keep (HLe.app _ _), (((((x3.trans x4).trans x5)).trans x6).trans x7).trans ((HLe.app _ _).x b)⟩
end
end Pl

set_option linter.all false
set_option autoImplicit false
set_option maxRecDepth 100000
set_option maxHeartbeats 1000000
namespace Pl
open PySem Dv
def xCCall : St := (.seq (.ret (.bf .bool (.cons (.call "holds" (.cons (.attr (.var 0) "own_tree") (.cons (.var 1) .nil))) .nil))) .skip)
def xCNam : St := (.seq (.ret (.call "names_in" (.cons (.attr (.var 0) "own_tree") .nil))) .skip)
structure L03 (G : Tx) : Prop where
  rdr : Rdr G
  drw : Drw G
  cond : G.fns "_law_condition" = some ⟨3, 10, xCond, []⟩
  hol : G.fns "holds" = some ⟨2, 4, xHolds, []⟩
  lvs : G.fns "leaves_in" = some ⟨1, 3, xLeaves, []⟩
  nms : G.fns "names_in" = some ⟨1, 3, xNames, []⟩
  due : G.fns "_law_names_due" = some ⟨1, 3, xDue, []⟩
  lh : G.fns "_law_holds" = some ⟨2, 8, xLH, []⟩
  call : G.fns "Condition.__call__" = some ⟨2, 2, xCCall, []⟩
  cnam : G.fns "Condition.names" = some ⟨1, 1, xCNam, []⟩
  mCall : methOf G "Condition" "__call__" = some ("Condition.__call__" : Str)
  pNam : propOf G "Condition" "names" = some ("Condition.names" : Str)
  nNam : fldOf G "Condition" "names" = false
  inI : G.clsI.contains "Condition" = true
  inL : G.clsL.contains "Condition" = true
section
variable {G : Tx} {n : Nat} {h h1 h2 : VH} {i j b B d k : Nat} {o : Orc} {s : Sl} {e a : Ex} {xs : List Vv} {v w u : Vv} {ws vs acc : List Str} {c c' : Cd} {x y z : Str} {f : Str → Option Int}
theorem g_own (D : Rdr G) (g : h[i]? = some (.ins "Condition" [("own_text", .str z), ("own_tree", u)])) : getattr G o (.ref i) "own_text" h = some (.ok (.str z) h) ∧ getattr G o (.ref i) "own_tree" h = some (.ok u h) := by
  have ob : obj G h (.ref i) = some (.ins "Condition" [("own_text", .str z), ("own_tree", u)]) := g
  have l1 : ([("own_text", Vv.str z), ("own_tree", u)] : List (Str × Vv)).lookup ("own_text" : Str) = some (.str z) := rfl
  have l2 : ([("own_text", Vv.str z), ("own_tree", u)] : List (Str × Vv)).lookup ("own_tree" : Str) = some u := rfl
  exact ⟨by simp [getattr, ob, D.fT, l1, ok1], by simp [getattr, ob, D.fTr, l2, ok1]⟩
theorem call_ok3 (D : L03 G) (hn : 70 ≤ n) (q : CdAt h i ws c) (g : Gr .ei ws c) (hl : ws.length ≤ 60) (V : Vals h d f) : run G n "Condition.__call__" [.ref i, .ref d] h = some (.ok (.bl (sem f c)) h) := by
  obtain ⟨v, a, t⟩ := q
  have e1 := holds_ok (G := G) (d := d) (f := f) D.hol c (n - 1) h v (by have := g.dep; omega) g.okk t V
  have e2 : evE G (oc G n) (.call "holds" (.cons (.attr (.var 0) "own_tree") (.cons (.var 1) .nil))) [some (.ref i), some (.ref d)] h = some (.ok (.bl (sem f c)) h) := by
    have ea : evE G (oc G n) (.attr (.var 0) "own_tree") [some (.ref i), some (.ref d)] h = some (.ok v h) := by
      rw [evE, eVar (i := 0) rfl, Rb_ok, (g_own D.rdr a).2]
    rw [evE, es_cons' ea (es_cons' (eVar (i := 1) rfl) es_nil), Rb_ok, orc_call, call_of D.hol rfl, e1]
  refine run_ev D.call (by omega) rfl rfl (s := [some (.ref i), some (.ref d)]) (r := some (.rt (.bl (sem f c)) h)) (seq_rt (ret_of ?_)) rfl
  rw [evE, es_cons' e2 es_nil, Rb_ok]
  rfl
/-- asked by a call -/
theorem e_ask (D : L03 G) (hn : 72 ≤ n) (q : CdAt h i ws c) (g : Gr .ei ws c) (hl : ws.length ≤ 60) (V : Vals h d f) {p r : Nat} (s0 : s[p]? = some (some (.ref i))) (s1 : s[r]? = some (some (.ref d))) : evE G (oc G n) (.cv p (.cons (.var r) .nil)) s h = some (.ok (.bl (sem f c)) h) := by
  have e1 := call_ok3 (n := n - 1) D (by omega) q g hl V
  obtain ⟨v, a, t⟩ := q
  have hf : (G.fns "Condition.__call__").isSome = true := by rw [D.call]; rfl
  have es := es_cons' (G := G) (o := oc G n) (h := h) (eVar s1) es_nil
  simp only [evE, s0, a, es, Rb_ok, D.mCall, hf, if_true, orc_call, call_of D.call rfl, e1]
theorem nam_ok (D : L03 G) (hn : 80 ≤ n) (q : CdAt h i ws c) (g : Gr .ei ws c) (hl : ws.length ≤ 60) {p : Nat} (s0 : s[p]? = some (some (.ref i))) : ∃ k h', evE G (oc G n) (.attr (.var p) "names") s h = some (.ok (.ref k) h') ∧ HLe h h' ∧ h.length ≤ k ∧ h'[k]? = some (.lst ((ddp [] c.nms).map .str)) := by
  obtain ⟨v, a, t⟩ := q
  have ll : c.lvs.length ≤ 1000 := by
    have e : c.nms.length ≤ ws.length := by rw [← g.nms]; exact List.length_filter_le _ _
    have e2 : c.nms.length = c.lvs.length := by unfold Cd.nms; rw [List.length_map]
    omega
  obtain ⟨k, h', e1, l1, hk, g1⟩ := names_ok (G := G) (n := n - 3) D.nms D.lvs (by have := g.dep; omega) ll t
  refine ⟨k, h', ?_, l1, hk, g1⟩
  have r1 : run G (n - 2) "Condition.names" [.ref i] h = some (.ok (.ref k) h') := by
    refine run_ev D.cnam (by omega) rfl rfl (s := [some (.ref i)]) (r := some (.rt (.ref k) h')) (seq_rt (ret_of ?_)) rfl
    have ea : evE G (oc G (n - 2)) (.attr (.var 0) "own_tree") [some (.ref i)] h = some (.ok v h) := by
      rw [evE, eVar (i := 0) rfl, Rb_ok, (g_own D.rdr a).2]
    rw [evE, es_cons' ea es_nil, Rb_ok, orc_call, call_of D.nms rfl]
    exact e1
  have ob : obj G h (.ref i) = some (.ins "Condition" [("own_text", .str (Txt.join sp ws)), ("own_tree", v)]) := a
  rw [evE, eVar s0, Rb_ok]
  simp only [getattr, ob, D.nNam, Bool.false_eq_true, if_false, D.pNam, orc_call2, call_of D.cnam rfl, r1]
/-- a condition is of its class -/
theorem ty_cd (D : L03 G) (q : CdAt h i ws c) : tyv G h (.ref i) = some (.cls "Condition") := by
  obtain ⟨v, a, t⟩ := q
  have ob : obj G h (.ref i) = some (.ins "Condition" [("own_text", .str (Txt.join sp ws)), ("own_tree", v)]) := a
  show (match obj G h (.ref i) with
    | some (.lst _) => some (Vv.ty "list") | some (.rol _) => some (Vv.ty "list") | some (.tup _) => some (Vv.ty "tuple") | some (.dct _) => some (Vv.ty "dict")
    | some (.ins c _) => if G.clsI.contains c then some (Vv.cls c) else none | _ => none) = _
  rw [ob]
  show (if _ then _ else _) = _
  rw [if_pos D.inI]
theorem str_eq (hx : SeqAt.shaped (.str x) = true) (hy : SeqAt.shaped (.str y) = true) : cmpoF G o .Eq (.str x) (.str y) h = some (.ok (.bl (decide (x = y))) h) := by
  have ob : obj G h (.str x) = none := rfl
  unfold cmpoF
  rw [ob]
  exact eqd_ss hx hy
theorem bl_ne {a : Bool} : cmpoF G o .NotEq (.bl a) (.bl a) h = some (.ok (.bl false) h) := by
  have ob : obj G h (.bl a) = none := rfl
  unfold cmpoF
  rw [ob]
  have e1 : eqd G h (.bl a) (.bl a) = some true := by
    rw [eqd_str (v := .bl a) (u := .bl a) (d := .bool a) (e := .bool a) rfl rfl rfl rfl]
    cases a <;> rfl
  simp only [cmpop, e1]; rfl
/-- == of two conditions -/
theorem eq_cd (D : L03 G) (hn : 2 ≤ n) (q : CdAt h i ws c) (q2 : CdAt h j vs c') (g : ∀ w ∈ ws, WdOk w) (g2 : ∀ w ∈ vs, WdOk w) : run G n "Condition.__eq__" [.ref i, .ref j] h = some (.ok (.bl (decide (Txt.join sp ws = Txt.join sp vs))) h) := by
  have ty := ty_cd D q2
  obtain ⟨v, a, t⟩ := q
  obtain ⟨v2, a2, t2⟩ := q2
  refine run_ev D.rdr.cEq hn rfl rfl (s := [some (.ref i), some (.ref j)]) (r := some (.rt (.bl (decide (Txt.join sp ws = Txt.join sp vs))) h)) (seq_rt (ret_of ?_)) rfl
  have ii : isinst G (.ref j) (.cls "Condition") h = some true := by
    unfold isinst
    rw [ty]
    show (if _ then _ else _) = _
    rw [if_pos D.inL]
    simp
  have e1 : evE G (oc G n) (.bf .isinst (.cons (.var 1) (.cons (.cst (.cls "Condition")) .nil))) [some (.ref i), some (.ref j)] h = some (.ok (.bl true) h) := by
    have c : callb G .isinst [.ref j, .cls "Condition"] h = some (.ok (.bl true) h) := by simp [callb, ii, ok1]
    rw [evE, es_cons' (eVar (i := 1) rfl) (es_cons' e_cst es_nil), Rb_ok, c]
  refine e_andT e1 (e_eqs ?_ ?_ (join_sh g) (join_sh g2))
  · rw [evE, eVar (i := 0) rfl, Rb_ok, (g_own D.rdr a).1]
  · rw [evE, eVar (i := 1) rfl, Rb_ok, (g_own D.rdr a2).1]
/-- == of a condition and another kind of value -/
theorem eq_odd (D : L03 G) (hn : 2 ≤ n) {T : String} (t : tyv G h w = some (.ty T)) : run G n "Condition.__eq__" [.ref i, w] h = some (.ok (.bl false) h) := by
  refine run_ev D.rdr.cEq hn rfl rfl (s := [some (.ref i), some w]) (r := some (.rt (.bl false) h)) (seq_rt (ret_of (e_andF ?_))) rfl
  have ii : isinst G w (.cls "Condition") h = some false := by
    unfold isinst
    rw [t]
    show (if _ then _ else _) = _
    rw [if_pos D.inL]
  have c : callb G .isinst [w, .cls "Condition"] h = some (.ok (.bl false) h) := by simp [callb, ii, ok1]
  rw [evE, es_cons' (eVar (i := 1) rfl) (es_cons' e_cst es_nil), Rb_ok, c]
theorem cmp_cd (D : L03 G) (hn : 4 ≤ n) (q : CdAt h i ws c) (q2 : CdAt h j vs c') (g : ∀ w ∈ ws, WdOk w) (g2 : ∀ w ∈ vs, WdOk w) {op : CmpOp} (hop : op = .Eq ∨ op = .NotEq) : cmpoF G (oc G n) op (.ref i) (.ref j) h = some (.ok (.bl (if op = .NotEq then !decide (Txt.join sp ws = Txt.join sp vs) else decide (Txt.join sp ws = Txt.join sp vs))) h) := by
  have e1 := eq_cd (n := n - 1) D (by omega) q q2 g g2
  have e2 := eq_cd (n := n - 2) D (by omega) q q2 g g2
  have so : sideOk G h "Condition" (.ref j) = true := by
    unfold sideOk; rw [ty_cd D q2]; rfl
  obtain ⟨v, a, t⟩ := q
  have ob : obj G h (.ref i) = some (.ins "Condition" [("own_text", .str (Txt.join sp ws)), ("own_tree", v)]) := a
  have me : methOf G "Condition" "__eq__" = some ("Condition.__eq__" : Str) := D.rdr.mcEq
  rcases hop with z | z <;> subst z
  · simp only [cmpoF, ob, so, D.inI, Bool.and_self, if_true, me, orc_call, call_of D.rdr.cEq rfl, e1, blR]
    first | rfl | done
  · simp only [cmpoF, ob, so, D.inI, Bool.and_self, if_true, me, orc_call2, call_of D.rdr.cEq rfl, e2, blR]
theorem cmp_odd (D : L03 G) (hn : 4 ≤ n) (q : CdAt h i ws c) {T : String} (t : tyv G h w = some (.ty T)) : cmpoF G (oc G n) .Eq (.ref i) w h = some (.ok (.bl false) h) := by
  have e1 := eq_odd (i := i) (n := n - 1) D (by omega) t
  have so : sideOk G h "Condition" w = true := by
    unfold sideOk; rw [t]
  obtain ⟨v, a, tr⟩ := q
  have ob : obj G h (.ref i) = some (.ins "Condition" [("own_text", .str (Txt.join sp ws)), ("own_tree", v)]) := a
  have me : methOf G "Condition" "__eq__" = some ("Condition.__eq__" : Str) := D.rdr.mcEq
  simp only [cmpoF, ob, so, D.inI, Bool.and_self, if_true, me, orc_call, call_of D.rdr.cEq rfl, e1, blR]
  rfl
/-- != of two lists of the same names -/
theorem ne_lists (g1 : h[i]? = some (.lst (ws.map .str))) (g2 : h[j]? = some (.lst (ws.map .str))) (hw : ∀ w ∈ ws, SeqAt.shaped (.str w) = true) : cmpoF G o .NotEq (.ref i) (.ref j) h = some (.ok (.bl false) h) := by
  have d1 : dat G h 8 (.ref i) = some (.list (ws.map PyData.str)) := by
    simp only [dat, g1, mapM_str, Option.map_some]
  have d2 : dat G h 8 (.ref j) = some (.list (ws.map PyData.str)) := by
    simp only [dat, g2, mapM_str, Option.map_some]
  have sh : SeqAt.shaped (.list (ws.map PyData.str)) = true := (sh_all' (fun d hd => by
    obtain ⟨w, q, rfl⟩ := List.mem_map.mp hd
    exact ⟨hw w q, rfl⟩)).1
  have e1 := eqd_str (G := G) d1 d2 sh sh
  have ea : ∀ l : List Str, PyData.eqvAll (l.map PyData.str) (l.map PyData.str) = true := fun l => by
    induction l with
    | nil => rfl
    | cons x r ih =>
      show ((PyData.eqv (.str x) (.str x)) && PyData.eqvAll _ _) = true
      rw [ih]
      simp [PyData.eqv]
  have e2 : PyData.eqv (.list (ws.map PyData.str)) (.list (ws.map PyData.str)) = true := ea ws
  rw [e2] at e1
  have ob : obj G h (.ref i) = some (.lst (ws.map .str)) := g1
  unfold cmpoF
  rw [ob]
  simp only [cmpop, e1]
  rfl
theorem ddp_mem {S : List Str} : ∀ {ws acc : List Str}, (∀ w ∈ acc, w ∈ S) → (∀ w ∈ ws, w ∈ S) → ∀ w ∈ ddp acc ws, w ∈ S
  | [], _, h1, _ => h1
  | x :: r, acc, h1, h2 => by
    rw [ddp]
    refine ddp_mem (ws := r) ?_ fun w hw => h2 w (List.mem_cons_of_mem _ hw)
    split
    · exact h1
    · intro w hw
      rcases List.mem_append.mp hw with q | q
      · exact h1 w q
      · rw [List.mem_singleton.mp q]; exact h2 x List.mem_cons_self
theorem nms_sh {k : Kd} (g : Gr k ws c) : ∀ w ∈ ddp [] c.nms, SeqAt.shaped (.str w) = true := fun w hw => by
  have : w ∈ NMS := ddp_mem (S := NMS) (fun w q => absurd q (List.not_mem_nil)) (fun w hw => by
    obtain ⟨l, hl, rfl⟩ := List.mem_map.mp hw
    exact g.okk l hl) w hw
  exact (nms_wd this).1.1
def okv (v : Vv) : Prop := v = .non ∨ ∃ i, v = .int i
def fOf (kvs : List (L2.Key × Vv)) (x : Str) : Option Int := match valK kvs (.inr x) with
  | some (.int i) => some i
  | _ => none
theorem vals_of {kvs : List (L2.Key × Vv)} (g : h[i]? = some (.dct kvs)) (ok : ∀ p ∈ kvs, okv p.2) : Vals h i (fOf kvs) := by
  refine ⟨kvs, g, fun x _ => ?_⟩
  unfold fOf
  cases q : valK kvs (.inr x) with
  | none => rfl
  | some v =>
    obtain ⟨p, hp, rfl⟩ := Option.map_eq_some_iff.mp (show (kvs.find? fun kv => decide (kv.1 = .inr x)).map (·.2) = some v from q)
    rcases ok p (List.mem_of_find?_eq_some hp) with e | ⟨k, e⟩ <;> rw [e] <;> rfl
theorem valK_self : ∀ {kvs : List (L2.Key × Vv)}, (kvs.map (·.1)).Nodup → ∀ p ∈ kvs, valK kvs p.1 = some p.2
  | [], _, p, hp => nomatch hp
  | q :: r, hn, p, hp => by
    rw [List.map_cons, List.nodup_cons] at hn
    unfold valK
    rw [List.find?_cons]
    rcases List.mem_cons.mp hp with e | e
    · subst e; simp
    · have ne : ¬ q.1 = p.1 := fun z => hn.1 (z ▸ List.mem_map.mpr ⟨p, e, rfl⟩)
      simp only [ne, decide_false]
      exact valK_self hn.2 p e
theorem ne_dicts {kvs : List (L2.Key × Vv)} (g1 : h[i]? = some (.dct kvs)) (g2 : h[j]? = some (.dct kvs)) (hn : (kvs.map (·.1)).Nodup) (ok : ∀ p ∈ kvs, okv p.2) : cmpoF G o .NotEq (.ref i) (.ref j) h = some (.ok (.bl false) h) := by
  have ek : eqK kvs kvs = true := by
    unfold eqK
    rw [Bool.and_eq_true, List.all_eq_true]
    refine ⟨decide_eq_true rfl, fun p hp => ?_⟩
    rw [Bool.and_eq_true]
    refine ⟨?_, decide_eq_true (valK_self hn p hp)⟩
    rcases ok p hp with e | ⟨k, e⟩ <;> rw [e] <;> rfl
  have d1 : dat G h 8 (.ref i) = none := by simp only [dat, g1]
  have e1 : eqd G h (.ref i) (.ref j) = some true := by
    unfold eqd
    rw [d1]
    show eqdD h (.ref i) (.ref j) = _
    unfold eqdD
    simp only [g1, g2, ek, if_true]
  have ob : obj G h (.ref i) = some (.dct kvs) := g1
  unfold cmpoF
  rw [ob]
  simp only [cmpop, e1]
  rfl
theorem repr_bl {a : Bool} : callb G .repr [.bl a] h = some (.ok (.str (if a then "True" else "False")) h) := by
  cases a <;> rfl
theorem tf_sh {a : Bool} : SeqAt.shaped (.str (if a then "True" else "False" : Str)) = true := by cases a <;> decide +kernel
def PV (h : VH) : List Str → List Vv → Prop := PySem.Paired fun x v => ∃ i t, v = .ref i ∧ h[i]? = some (.tup [.str x, t]) ∧ okv t
theorem PV.keep (l : TK h h1) : ∀ {xs : List Str} {vs : List Vv}, PV h xs vs → PV h1 xs vs
  | _, _, .nil => .nil
  | _, _, .cons ⟨i, t, e, g, q⟩ p => .cons ⟨i, t, e, l _ _ g, q⟩ (PV.keep l p)
theorem pairs_of : ∀ {xs : List Str} {vs : List Vv}, PV h xs vs → ∃ ts : List Vv, ts.length = xs.length ∧ (∀ t ∈ ts, okv t) ∧ pairsOf h vs = some ((xs.map Sum.inr).zip ts)
  | _, _, .nil => ⟨[], rfl, (fun _ q => nomatch q), rfl⟩
  | x :: xs, _, .cons (l₂ := r) ⟨i, t, e, g, q⟩ p => by
    obtain ⟨ts, l, ok, e2⟩ := pairs_of p
    subst e
    refine ⟨t :: ts, by simp [l], fun u hu => ?_, ?_⟩
    · rcases List.mem_cons.mp hu with z | z
      · subst z; exact q
      · exact ok u z
    · simp only [pairsOf, g, keyOf, Option.bind_some, e2, Option.map_some, List.map_cons, List.zip_cons_cons]
def eTp : Ex := .tup (.cons (.var 12) (.cons (.call "_law_of" (.cons (.var 2) (.cons (.lst (.cons (.cst .non) (.cons (.cst (.int 0)) (.cons (.cst (.int 1)) (.cons (.cst (.int 2)) (.cons (.cst (.int 3)) (.cons (.cst (.int 7)) .nil))))))) .nil))) .nil))
theorem v_loop (D : Drw G) (hn : 20 ≤ n) {nl : Nat} {nls : List Vv} (hnb : nl ≠ b) (hnd : nl ≠ d) (hdb : d ≠ b) {sl : Sl} (s2 : sl[2]? = some (some (.ref b))) (hs : 12 < sl.length) : ∀ (xs : List Str) (acc : List Vv) (h : VH), h[d]? = some (.lst acc) → h[nl]? = some (.lst nls) → Bag h b (B + xs.length) → acc.length + xs.length < 1000 →
    ∃ vs h', lcF (evE G (oc G n) eTp) (evT G (oc G n) .yes) sl [12] (keeps G ⟨nls.map fun v => [v], some (.ref nl), nls, true, false⟩) d (xs.map fun x => [.str x]) h = some (.ok (.ref d) h') ∧ h'[d]? = some (.lst (acc ++ vs)) ∧ PV h' xs vs ∧ Bag h' b B ∧ (∀ j o, j ≠ b → j ≠ d → h[j]? = some o → h'[j]? = some o)
  | [], acc, h, g, gn, bg, _ => ⟨[], h, by rw [List.map_nil, lcF, if_pos (keeps_lst gn)], by rw [List.append_nil]; exact g, .nil, bg, fun _ _ _ _ e => e⟩
  | x :: xs, acc, h, g, gn, bg, hl => by
    rw [List.length_cons] at hl bg
    have st : setT [12] sl [Vv.str x] = some (sl.set 12 (some (.str x))) := rfl
    have s2' : (sl.set 12 (some (.str x)))[2]? = some (some (.ref b)) := by rw [List.getElem?_set_ne (by decide)]; exact s2
    have s12 : (sl.set 12 (some (.str x)))[12]? = some (some (.str x)) := List.getElem?_set_self hs
    have el : evE G (oc G n) (.lst (.cons (.cst .non) (.cons (.cst (.int 0)) (.cons (.cst (.int 1)) (.cons (.cst (.int 2)) (.cons (.cst (.int 3)) (.cons (.cst (.int 7)) .nil))))))) (sl.set 12 (some (.str x))) h = some (.ok (.ref h.length) (h ++ [.lst [.non, .int 0, .int 1, .int 2, .int 3, .int 7]])) := rfl
    have lb := lt_bag bg
    obtain ⟨t, h1, e1, m1, b1, x1⟩ := eOf D (n := n) (ib := 2) (b := b) (B := B + xs.length) (by omega) s2' el (HLe.app _ _) get_new (bg.mono (by omega)) (by decide) (by decide) (by omega)
    have okt : okv t := by
      simp only [List.mem_cons, List.not_mem_nil, or_false] at m1
      rcases m1 with q | q | q | q | q | q <;> subst q
      · exact .inl rfl
      all_goals exact .inr ⟨_, rfl⟩
    have e2 : evE G (oc G n) eTp (sl.set 12 (some (.str x))) h = some (.ok (.ref h1.length) (h1 ++ [.tup [.str x, t]])) := e_tup' (es_cons' (eVar s12) (es_cons' e1 es_nil)) (by simp)
    have gd1 : (h1 ++ [Ho.tup [.str x, t]])[d]? = some (.lst acc) := get_app (x1 _ _ hdb g)
    have gn1 : (h1 ++ [Ho.tup [.str x, t]])[nl]? = some (.lst nls) := get_app (x1 _ _ hnb gn)
    generalize hh : (h1 ++ [Ho.tup [.str x, t]]).set d (.lst (acc ++ [.ref h1.length])) = h3
    have ld := lt_of_get gd1
    have g3 : h3[d]? = some (.lst (acc ++ [.ref h1.length])) := by rw [← hh]; exact List.getElem?_set_self ld
    have k13 : ∀ j o, j ≠ d → (h1 ++ [Ho.tup [.str x, t]])[j]? = some o → h3[j]? = some o := fun j o nd q => by rw [← hh, List.getElem?_set_ne (Ne.symm nd)]; exact q
    have gn3 := k13 _ _ hnd gn1
    have bg3 : Bag h3 b (B + xs.length) := by
      obtain ⟨a1, a2, a3, q, r⟩ := b1
      exact ⟨a1, a2, a3, k13 _ _ (Ne.symm hdb) (get_app q), r⟩
    have k03 : ∀ j o, j ≠ b → j ≠ d → h[j]? = some o → h3[j]? = some o := fun j o nb nd q => k13 _ _ nd (get_app (x1 _ _ nb q))
    obtain ⟨vs, h', e3, g', p', b', k'⟩ := v_loop D hn hnb hnd hdb s2 hs xs (acc ++ [.ref h1.length]) h3 g3 gn3 bg3 (by rw [List.length_append, List.length_singleton]; omega)
    refine ⟨.ref h1.length :: vs, h', ?_, by rw [List.append_assoc] at g'; exact g', .cons ⟨h1.length, t, rfl, ?_, okt⟩ p', b', fun j o nb nd q => k' _ _ nb nd (k03 _ _ nb nd q)⟩
    · have y2 : evT G (oc G n) .yes (sl.set 12 (some (.str x))) h = some (.ok true h) := rfl
      rw [List.map_cons, lcF, if_pos (keeps_lst gn)]
      simp only [st, y2, e2, gd1]
      rw [if_pos (by show acc.length < 16777216; omega), hh]
      exact e3
    · have nd : h1.length ≠ d := by have := lt_of_get (x1 _ _ hdb g); omega
      have nb : h1.length ≠ b := by have := lt_bag b1; omega
      exact k' _ _ nb nd (k13 _ _ nd get_new)
def keys4 (t1 t2 t3 t4 : Vv) : List (L2.Key × Vv) := [(.inr "a", t1), (.inr "b", t2), (.inr "big", t3), (.inr "os", t4)]
theorem merge4 {t1 t2 t3 t4 : Vv} : mergeKv [] (keys4 t1 t2 t3 t4) = keys4 t1 t2 t3 t4 := rfl
theorem less4 {t1 t2 t3 t4 : Vv} : lessK (keys4 t1 t2 t3 t4) (.inr "b") = [(.inr "a", t1), (.inr "big", t3), (.inr "os", t4)] := rfl
theorem get4 {t1 t2 t3 t4 : Vv} : valK (keys4 t1 t2 t3 t4) (.inr "b") = some t2 := rfl
theorem nd4 {t1 t2 t3 t4 : Vv} : ((keys4 t1 t2 t3 t4).map (·.1)).Nodup ∧ ((lessK (keys4 t1 t2 t3 t4) (.inr "b")).map (·.1)).Nodup := by
  have k1 : ([.inr "a", .inr "b", .inr "big", .inr "os"] : List L2.Key).Nodup := by decide +kernel
  have k2 : ([.inr "a", .inr "big", .inr "os"] : List L2.Key).Nodup := by decide +kernel
  exact ⟨k1, by rw [less4]; exact k2⟩
end
end Pl

set_option linter.all false
set_option autoImplicit false
set_option maxRecDepth 100000
set_option maxHeartbeats 1000000
namespace Pl
open PySem Dv
def xLaw03 : St := (.seq (.for_ [1] (.rng (.cons (.bf .max (.cons (.cst (.int 1)) (.cons (.bf .min (.cons (.cst (.int 2)) (.cons (.bf .len (.cons (.var 0) .nil)) .nil))) .nil))) .nil)) (.seq (.asg (.one 2) (.call "_law_bag" (.cons (.var 0) (.cons (.var 1) .nil)))) (.seq (.for_ [3] (.rng (.cons (.cst (.int 12)) .nil)) (.seq (.asg (.one 4) (.call "_law_condition" (.cons (.var 2) (.cons (.lst (.cons (.cst (.str "a")) (.cons (.cst (.str "b")) (.cons (.cst (.str "big")) (.cons (.cst (.str "os")) .nil))))) (.cons (.cst (.int 3)) .nil))))) (.seq (.asg (.many [5, 6]) (.tup (.cons (.call "read_condition" (.cons (.var 4) .nil)) (.cons (.bm (.var 4) .split (.cons (.cst (.str " ")) .nil)) .nil)))) (.seq (.for_ [7] (.rng (.cons (.cst (.int 6)) .nil)) (.seq (.asg (.one 8) (.bf .dict (.cons (.lc (.tup (.cons (.var 12) (.cons (.call "_law_of" (.cons (.var 2) (.cons (.lst (.cons (.cst .non) (.cons (.cst (.int 0)) (.cons (.cst (.int 1)) (.cons (.cst (.int 2)) (.cons (.cst (.int 3)) (.cons (.cst (.int 7)) .nil))))))) .nil))) .nil))) [12] [12] (.val (.lst (.cons (.cst (.str "a")) (.cons (.cst (.str "b")) (.cons (.cst (.str "big")) (.cons (.cst (.str "os")) .nil)))))) .yes) .nil))) (.seq (.ifs (.val (.cmpo .Eq (.call "_law_take" (.cons (.var 2) (.cons (.cst (.int 3)) .nil))) (.cst (.int 0)))) (.seq (.expr (.bm (.var 8) .pop (.cons (.cst (.str "b")) .nil))) .skip) .skip) (.seq (.asg (.one 9) (.bf .dict (.cons (.var 8) .nil))) (.seq (.ifs (.or (.val (.cmpo .NotEq (.bf .repr (.cons (.cv 5 (.cons (.var 8) .nil)) .nil)) (.bf .repr (.cons (.call "_law_holds" (.cons (.var 6) (.cons (.var 8) .nil))) .nil)))) (.val (.cmpo .NotEq (.var 8) (.var 9)))) (.seq (.ret (.cst (.bl false))) .skip) .skip) .skip))))) (.seq (.asg (.one 10) (.attr (.var 5) "names")) (.seq (.ifs (.or (.val (.cmpo .NotEq (.var 10) (.call "_law_names_due" (.cons (.var 6) .nil)))) (.val (.cmpo .NotEq (.sto (.var 5)) (.var 4)))) (.seq (.ret (.cst (.bl false))) .skip) .skip) (.seq (.expr (.bm (.var 10) .append (.cons (.cst (.str "changed")) .nil))) (.seq (.asg (.one 11) (.call "_law_condition" (.cons (.var 2) (.cons (.lst (.cons (.cst (.str "a")) (.cons (.cst (.str "b")) .nil))) (.cons (.cst (.int 1)) .nil))))) (.seq (.ifs (.or (.val (.cmpo .NotEq (.attr (.var 5) "names") (.call "_law_names_due" (.cons (.var 6) .nil)))) (.val (.cmpo .NotEq (.cmpo .Eq (.var 5) (.call "read_condition" (.cons (.var 11) .nil))) (.cmpo .Eq (.var 4) (.var 11))))) (.seq (.ret (.cst (.bl false))) .skip) .skip) (.seq (.ifs (.or (.val (.cmpo .NotEq (.var 5) (.call "read_condition" (.cons (.var 4) .nil)))) (.val (.bf .any (.cons (.lc (.cmpo .Eq (.var 5) (.var 13)) [13] [13] (.val (.lst (.cons (.var 4) (.cons (.cst .non) (.cons (.var 6) .nil))))) .yes) .nil)))) (.seq (.ret (.cst (.bl false))) .skip) .skip) .skip)))))))))) .skip))) (.seq (.ret (.cst (.bl true))) .skip))
def l4 : Exs := .cons (.cst (.str "a")) (.cons (.cst (.str "b")) (.cons (.cst (.str "big")) (.cons (.cst (.str "os")) .nil)))
def u8 : St := .asg (.one 8) (.bf .dict (.cons (.lc eTp [12] [12] (.val (.lst l4)) .yes) .nil))
def uP : St := .ifs (.val (.cmpo .Eq (.call "_law_take" (.cons (.var 2) (.cons (.cst (.int 3)) .nil))) (.cst (.int 0)))) (.seq (.expr (.bm (.var 8) .pop (.cons (.cst (.str "b")) .nil))) .skip) .skip
def u9 : St := .asg (.one 9) (.bf .dict (.cons (.var 8) .nil))
def uI : St := .ifs (.or (.val (.cmpo .NotEq (.bf .repr (.cons (.cv 5 (.cons (.var 8) .nil)) .nil)) (.bf .repr (.cons (.call "_law_holds" (.cons (.var 6) (.cons (.var 8) .nil))) .nil)))) (.val (.cmpo .NotEq (.var 8) (.var 9)))) (.seq (.ret (.cst (.bl false))) .skip) .skip
def uB : St := .seq u8 (.seq uP (.seq u9 (.seq uI .skip)))
def t4 : St := .asg (.one 4) (.call "_law_condition" (.cons (.var 2) (.cons (.lst l4) (.cons (.cst (.int 3)) .nil))))
def t56 : St := .asg (.many [5, 6]) (.tup (.cons (.call "read_condition" (.cons (.var 4) .nil)) (.cons (.bm (.var 4) .split (.cons (.cst (.str " ")) .nil)) .nil)))
def t10 : St := .asg (.one 10) (.attr (.var 5) "names")
def eDue : Ex := .call "_law_names_due" (.cons (.var 6) .nil)
def tI1 : St := .ifs (.or (.val (.cmpo .NotEq (.var 10) eDue)) (.val (.cmpo .NotEq (.sto (.var 5)) (.var 4)))) (.seq (.ret (.cst (.bl false))) .skip) .skip
def tAp : St := .expr (.bm (.var 10) .append (.cons (.cst (.str "changed")) .nil))
def t11 : St := .asg (.one 11) (.call "_law_condition" (.cons (.var 2) (.cons (.lst (.cons (.cst (.str "a")) (.cons (.cst (.str "b")) .nil))) (.cons (.cst (.int 1)) .nil))))
def tI2 : St := .ifs (.or (.val (.cmpo .NotEq (.attr (.var 5) "names") eDue)) (.val (.cmpo .NotEq (.cmpo .Eq (.var 5) (.call "read_condition" (.cons (.var 11) .nil))) (.cmpo .Eq (.var 4) (.var 11))))) (.seq (.ret (.cst (.bl false))) .skip) .skip
def eAny : Ex := .bf .any (.cons (.lc (.cmpo .Eq (.var 5) (.var 13)) [13] [13] (.val (.lst (.cons (.var 4) (.cons (.cst .non) (.cons (.var 6) .nil))))) .yes) .nil)
def tI3 : St := .ifs (.or (.val (.cmpo .NotEq (.var 5) (.call "read_condition" (.cons (.var 4) .nil)))) (.val eAny)) (.seq (.ret (.cst (.bl false))) .skip) .skip
def tB : St := .seq t4 (.seq t56 (.seq (.for_ [7] (.rng (.cons (.cst (.int 6)) .nil)) uB) (.seq t10 (.seq tI1 (.seq tAp (.seq t11 (.seq tI2 (.seq tI3 .skip))))))))
def lB3 : St := .seq (.asg (.one 2) (.call "_law_bag" (.cons (.var 0) (.cons (.var 1) .nil)))) (.seq (.for_ [3] (.rng (.cons (.cst (.int 12)) .nil)) tB) .skip)
theorem law3_eq : xLaw03 = .seq (.for_ [1] (.rng (.cons (.bf .max (.cons (.cst (.int 1)) (.cons (.bf .min (.cons (.cst (.int 2)) (.cons (.bf .len (.cons (.var 0) .nil)) .nil))) .nil))) .nil)) lB3) (.seq (.ret (.cst (.bl true))) .skip) := rfl
section
variable {G : Tx} {n : Nat} {h h1 h2 : VH} {i j b B d k : Nat} {o : Orc} {s : Sl} {e a : Ex} {xs : List Vv} {v w u : Vv} {ws vs acc : List Str} {c c' : Cd} {x y z : Str} {f : Str → Option Int} {x0 x1 x3 x4 x5 u6 x7 x8 x9 x10 x11 : Option Vv}
theorem rng_of' {N : Int} (a : -(2 ^ 62) ≤ N) (c : N < 2 ^ 62) : rngOf [.int N] = some ⟨rngItems 0 N 1, none, [], false, false⟩ := if_pos ⟨a, c⟩
theorem or_ff {p q : Tt} {hA hB : VH} (k1 : evT G o p s h = some (.ok false hA)) (k2 : evT G o q s hA = some (.ok false hB)) : evT G o (.or p q) s h = some (.ok false hB) := by
  rw [evT, k1]; exact k2
theorem t_cmpo {op : CmpOp} {p q : Ex} {hA hB : VH} {r : Bool} (k1 : evE G o p s h = some (.ok v hA)) (k2 : evE G o q s hA = some (.ok w hB)) (k3 : cmpoF G o op v w hB = some (.ok (.bl r) hB)) : evT G o (.val (.cmpo op p q)) s h = some (.ok r hB) := by
  refine val_of ?_
  rw [evE, k1, Rb_ok, k2, Rb_ok, k3]
/-- the values' dict, drawn -/
theorem u8_ok (D : L03 G) (hn : 30 ≤ n) (s2 : s[2]? = some (some (.ref b))) (hs : 12 < s.length) (bg : Bag h b (B + 4)) : ∃ t1 t2 t3 t4 k h', evE G (oc G n) (.bf .dict (.cons (.lc eTp [12] [12] (.val (.lst l4)) .yes) .nil)) s h = some (.ok (.ref k) h') ∧ h'[k]? = some (.dct (keys4 t1 t2 t3 t4)) ∧ (∀ p ∈ keys4 t1 t2 t3 t4, okv p.2) ∧ HLx b h h' ∧ Bag h' b B ∧ h.length ≤ k := by
  have lb := lt_bag bg
  have el : evE G (oc G n) (.lst l4) s h = some (.ok (.ref h.length) (h ++ [.lst (NMS.map .str)])) := rfl
  have gl : (h ++ [Ho.lst (NMS.map .str)])[h.length]? = some (.lst (NMS.map .str)) := get_new
  generalize hh1 : h ++ [Ho.lst (NMS.map .str)] = h1 at el gl
  have l1 : HLe h h1 := by rw [← hh1]; exact HLe.app _ _
  have len1 : h1.length = h.length + 1 := by rw [← hh1]; simp
  have sw : (wipeV s [12])[2]? = some (some (.ref b)) := by
    show (s.set 12 none)[2]? = _
    rw [List.getElem?_set_ne (by decide)]; exact s2
  obtain ⟨vs, h2, e2, g2, p2, b2, k2⟩ := v_loop (d := h1.length) D.drw (n := n) (by omega) (nl := h.length) (nls := NMS.map .str) (by omega) (by omega) (by omega) (sl := wipeV s [12]) sw (by show 12 < (s.set 12 none).length; rw [List.length_set]; exact hs) NMS [] (h1 ++ [.lst []]) get_new (get_app gl) ((bg.keep (l1.trans (HLe.app _ _))).mono (by show B + 4 ≤ B + 4; omega)) (by decide)
  have i1 : evI G (oc G n) (.val (.lst l4)) [12].length s h = some (.ok ⟨(NMS.map Vv.str).map fun v => [v], some (.ref h.length), NMS.map .str, true, false⟩ h1) := by
    rw [evI, el, Rb_ok]
    show (srcOf G 1 (.ref h.length) h1).map _ = _
    rw [(src_lst' (G := G) gl).1]; rfl
  have elc : evE G (oc G n) (.lc eTp [12] [12] (.val (.lst l4)) .yes) s h = some (.ok (.ref h1.length) h2) := by
    rw [evE, i1, Rb_ok]
    exact e2
  rw [List.nil_append] at g2
  obtain ⟨ts, lt, ok, ep⟩ := pairs_of p2
  have l2 : HLx b h h2 := fun j o nb q => k2 _ _ nb (by have := lt_of_get q; omega) (get_app (l1 _ _ q))
  match ts, lt, ok, ep with
  | [t1, t2, t3, t4], _, ok, ep =>
    have ep : pairsOf h2 vs = some (keys4 t1 t2 t3 t4) := ep
    have len2 : h.length ≤ h2.length := by
      have := lt_of_get g2
      omega
    refine ⟨t1, t2, t3, t4, h2.length, h2 ++ [.dct (keys4 t1 t2 t3 t4)], ?_, get_new, fun p hp => ?_, l2.trans ((HLe.app _ _).x b), b2.keep (HLe.app _ _), len2⟩
    · rw [evE, es_cons' elc es_nil, Rb_ok]
      show (match h2[h1.length]? with
        | some (.dct kvs) => new (.dct kvs) h2
        | some (.lst ps) => (pairsOf h2 ps).bind fun kvs => new (.dct (mergeKv [] kvs)) h2
        | _ => none) = _
      rw [g2]
      show (pairsOf h2 vs).bind _ = _
      rw [ep]
      show new (.dct (mergeKv [] (keys4 t1 t2 t3 t4))) h2 = _
      rw [merge4]; rfl
    · simp only [keys4, List.mem_cons, List.not_mem_nil, or_false] at hp
      rcases hp with q | q | q | q <;> subst q <;> exact ok _ (by simp)
/-- a turn with values -/
theorem uB_ok (D : L03 G) (hn : 100 ≤ n) (q5 : CdAt h i ws c) (g : Gr .ei ws c) (hl : ws.length ≤ 60) (q6 : h[j]? = some (.lst (ws.map .str))) (hib : i ≠ b) (hjb : j ≠ b) (bg : Bag h b (B + 5)) :
    ∃ y8 y9 h', evS G (oc G n) uB [x0, x1, some (.ref b), x3, x4, some (.ref i), some (.ref j), x7, x8, x9, x10, x11, none, none] h = some (.nx [x0, x1, some (.ref b), x3, x4, some (.ref i), some (.ref j), x7, y8, y9, x10, x11, none, none] h') ∧ HLx b h h' ∧ Bag h' b B := by
  have lb := lt_bag bg
  have keepC : ∀ {h' : VH}, HLx b h h' → CdAt h' i ws c := fun {h'} l => by
    obtain ⟨v, a1, t⟩ := q5
    exact ⟨v, l _ _ hib a1, t.keep (l.tk fun xs z => by obtain ⟨_, _, _, e, _⟩ := bg; rw [e] at z; cases z)⟩
  obtain ⟨t1, t2, t3, t4, kd, h1, e1, g1, ok1', l1, b1, len1⟩ := u8_ok (s := [x0, x1, some (.ref b), x3, x4, some (.ref i), some (.ref j), x7, x8, x9, x10, x11, none, none]) (B := B + 1) D (n := n) (by omega) rfl (by simp) (bg.mono (by omega))
  have kb : kd ≠ b := by omega
  -- the pop
  obtain ⟨r, h2, e2, r0, r1, b2, l2⟩ := eTake D.drw (n := n) (s := [x0, x1, some (.ref b), x3, x4, some (.ref i), some (.ref j), x7, some (.ref kd), x9, x10, x11, none, none]) (by omega) (ib := 2) (b := b) (e := .cst (.int 3)) rfl e_cst b1 (by omega) (by omega)
  have g2 := l2 _ _ kb g1
  have tp : evT G (oc G n) (.val (.cmpo .Eq (.call "_law_take" (.cons (.var 2) (.cons (.cst (.int 3)) .nil))) (.cst (.int 0)))) [x0, x1, some (.ref b), x3, x4, some (.ref i), some (.ref j), x7, some (.ref kd), x9, x10, x11, none, none] h1 = some (.ok (decide (r = 0)) h2) := t_cmpo e2 e_cst (by
    have ob : obj G h2 (.int r) = none := rfl
    unfold cmpoF
    rw [ob]
    exact cmp_ii)
  have P : ∃ kvs h3, evS G (oc G n) uP [x0, x1, some (.ref b), x3, x4, some (.ref i), some (.ref j), x7, some (.ref kd), x9, x10, x11, none, none] h1 = some (.nx [x0, x1, some (.ref b), x3, x4, some (.ref i), some (.ref j), x7, some (.ref kd), x9, x10, x11, none, none] h3) ∧ h3[kd]? = some (.dct kvs) ∧ (∀ p ∈ kvs, okv p.2) ∧ (kvs.map (·.1)).Nodup ∧ HLx b h h3 ∧ Bag h3 b B := by
    by_cases q : r = 0
    · have ld := lt_of_get g2
      refine ⟨lessK (keys4 t1 t2 t3 t4) (.inr "b"), h2.set kd (.dct (lessK (keys4 t1 t2 t3 t4) (.inr "b"))), ifs_t (shw (decide_eq_true q) tp) (seq_skip (expr_of (v := t2) ?_)), List.getElem?_set_self ld, fun p hp => ok1' p (List.mem_filter.mp hp).1, nd4.2, ?_, ?_⟩
      · rw [evE, eVar (i := 8) rfl, Rb_ok]
        show (if (match h2[kd]? with | some (.dct _) => true | _ => false) = true then Rb (evEs G _ (.cons (.cst (.str "b")) .nil) _ h2) fun vs h2 => bmeth G (.ref kd) .pop vs h2 else none) = _
        rw [g2]
        show (if true = true then _ else _) = _
        rw [if_pos rfl, es_cons' e_cst es_nil, Rb_ok]
        show (match h2[kd]? with | some (.dct kvs) => (keyOf (.str "b")).bind fun k => (valK kvs k).bind fun v => some (Re.ok v (h2.set kd (.dct (lessK kvs k)))) | _ => none) = _
        rw [g2]
        simp only [keyOf, Option.bind_some, get4]
      · intro j' o' nb qq
        have := lt_of_get qq
        rw [List.getElem?_set_ne (by omega)]
        exact l2 _ _ nb (l1 _ _ nb qq)
      · obtain ⟨a1, a2, a3, qq, rr⟩ := b2
        exact ⟨a1, a2, a3, by rw [List.getElem?_set_ne kb]; exact qq, rr⟩
    · exact ⟨keys4 t1 t2 t3 t4, h2, ifs_f (shw (decide_eq_false q) tp) rfl, g2, ok1', nd4.1, l1.trans l2, b2⟩
  obtain ⟨kvs, h3, e3, g3, ok3, nd3, l3, b3⟩ := P
  -- the copy
  have e4 : evE G (oc G n) (.bf .dict (.cons (.var 8) .nil)) [x0, x1, some (.ref b), x3, x4, some (.ref i), some (.ref j), x7, some (.ref kd), x9, x10, x11, none, none] h3 = some (.ok (.ref h3.length) (h3 ++ [.dct kvs])) := by
    rw [evE, es_cons' (eVar (i := 8) rfl) es_nil, Rb_ok]
    show (match h3[kd]? with
      | some (.dct kvs) => new (.dct kvs) h3
      | some (.lst ps) => (pairsOf h3 ps).bind fun kvs => new (.dct (mergeKv [] kvs)) h3
      | _ => none) = _
    rw [g3]; rfl
  have l4 : HLx b h (h3 ++ [.dct kvs]) := l3.trans ((HLe.app _ _).x b)
  have g4 : (h3 ++ [Ho.dct kvs])[kd]? = some (.dct kvs) := get_app g3
  have g4' : (h3 ++ [Ho.dct kvs])[h3.length]? = some (.dct kvs) := get_new
  have b4 := b3.keep (HLe.app h3 [.dct kvs])
  generalize hh4 : h3 ++ [Ho.dct kvs] = h4 at *
  have V4 : Vals h4 kd (fOf kvs) := vals_of g4 ok3
  have q54 := keepC l4
  have q64 := l4 _ _ hjb q6
  have a1 := e_ask (s := [x0, x1, some (.ref b), x3, x4, some (.ref i), some (.ref j), x7, some (.ref kd), some (.ref h3.length), x10, x11, none, none]) D (n := n) (by omega) q54 g hl V4 (p := 5) (r := 8) rfl rfl
  obtain ⟨h5, a2, l5⟩ := lh_ok (G := G) (d := kd) (f := fOf kvs) D.lh g (n - 1) (by omega) (by omega) h4 j q64 V4
  have r1' : evE G (oc G n) (.bf .repr (.cons (.cv 5 (.cons (.var 8) .nil)) .nil)) [x0, x1, some (.ref b), x3, x4, some (.ref i), some (.ref j), x7, some (.ref kd), some (.ref h3.length), x10, x11, none, none] h4 = some (.ok (.str (if sem (fOf kvs) c then "True" else "False")) h4) := by
    rw [evE, es_cons' a1 es_nil, Rb_ok, repr_bl]
  have r2' : evE G (oc G n) (.bf .repr (.cons (.call "_law_holds" (.cons (.var 6) (.cons (.var 8) .nil))) .nil)) [x0, x1, some (.ref b), x3, x4, some (.ref i), some (.ref j), x7, some (.ref kd), some (.ref h3.length), x10, x11, none, none] h4 = some (.ok (.str (if sem (fOf kvs) c then "True" else "False")) h5) := by
    have ec : evE G (oc G n) (.call "_law_holds" (.cons (.var 6) (.cons (.var 8) .nil))) [x0, x1, some (.ref b), x3, x4, some (.ref i), some (.ref j), x7, some (.ref kd), some (.ref h3.length), x10, x11, none, none] h4 = some (.ok (.bl (sem (fOf kvs) c)) h5) := by
      rw [evE, es_cons' (eVar (i := 6) rfl) (es_cons' (eVar (i := 8) rfl) es_nil), Rb_ok, orc_call, call_of D.lh rfl, a2]
    rw [evE, es_cons' ec es_nil, Rb_ok, repr_bl]
  have T1 := t_cmpo (r := false) r1' r2' (ne_str (.inr rfl) tf_sh)
  have T2 : evT G (oc G n) (.val (.cmpo .NotEq (.var 8) (.var 9))) [x0, x1, some (.ref b), x3, x4, some (.ref i), some (.ref j), x7, some (.ref kd), some (.ref h3.length), x10, x11, none, none] h5 = some (.ok false h5) := t_cmpo (eVar (i := 8) rfl) (eVar (i := 9) rfl) (ne_dicts (l5 _ _ g4) (l5 _ _ g4') nd3 ok3)
  exact ⟨some (.ref kd), some (.ref h3.length), h5, seq_nx (asg_of e1) (seq_nx e3 (seq_nx (asg_of e4) (seq_skip (ifs_f (or_ff T1 T2) rfl)))), l4.trans (l5.x b), b4.keep l5⟩
theorem bag_nt (bg : Bag h b B) : ∀ xs, h[b]? ≠ some (.tup xs) := fun xs z => by
  obtain ⟨_, _, _, e, _⟩ := bg
  rw [e] at z; cases z
theorem CdAt.kx {k : Nat} (q : CdAt h i ws c) (l : HLx k h h1) (ne : i ≠ k) (nt : ∀ xs, h[k]? ≠ some (.tup xs)) : CdAt h1 i ws c := by
  obtain ⟨v, a1, t⟩ := q
  exact ⟨v, l _ _ ne a1, t.keep (l.tk nt)⟩
theorem CdAt.lt (q : CdAt h i ws c) : i < h.length := by obtain ⟨v, a1, _⟩ := q; exact lt_of_get a1
/-- a comprehension of values that are all False -/
theorem lc_false {ev : Sl → VH → Option (Re Vv)} {cd : Sl → VH → Option (Re Bool)} {tg : List Nat} {kp : VH → Bool} (hk : ∀ acc, kp (h ++ [.lst acc]) = true) :
    ∀ (xs acc : List Vv), (∀ x ∈ xs, ∀ acc, ∃ s1, setT tg s [x] = some s1 ∧ cd s1 (h ++ [.lst acc]) = some (.ok true (h ++ [.lst acc])) ∧ ev s1 (h ++ [.lst acc]) = some (.ok (.bl false) (h ++ [.lst acc]))) → acc.length + xs.length ≤ 1000 → lcF ev cd s tg kp h.length (xs.map fun v => [v]) (h ++ [.lst acc]) = some (.ok (.ref h.length) (h ++ [.lst (acc ++ xs.map fun _ => .bl false)]))
  | [], acc, _, _ => by simp [lcF, hk]
  | x :: r, acc, st, hl => by
    obtain ⟨s1, e1, e2, e3⟩ := st x List.mem_cons_self acc
    rw [List.length_cons] at hl
    have ih := lc_false hk r (acc ++ [.bl false]) (fun y hy => st y (List.mem_cons_of_mem _ hy)) (by rw [List.length_append, List.length_singleton]; omega)
    have ac : acc.length < sz := by have : sz = 16777216 := rfl; omega
    simp only [List.map_cons, lcF, hk, e1, e2, e3, get_new, ac, if_true]
    rw [show (h ++ [Ho.lst acc]).set h.length (.lst (acc ++ [.bl false])) = h ++ [.lst (acc ++ [.bl false])] by simp]
    rw [ih]
    simp
theorem any_ok (D : L03 G) (hn : 10 ≤ n) (q : CdAt h i ws c) (q6 : h[j]? = some (.lst (ws.map .str))) (s4 : s[4]? = some (some (.str x))) (s5 : s[5]? = some (some (.ref i))) (s6 : s[6]? = some (some (.ref j))) (s13 : 13 < s.length) : ∃ h', evE G (oc G n) eAny s h = some (.ok (.bl false) h') ∧ HLe h h' := by
  have el : evE G (oc G n) (.lst (.cons (.var 4) (.cons (.cst .non) (.cons (.var 6) .nil)))) s h = some (.ok (.ref h.length) (h ++ [.lst [.str x, .non, .ref j]])) := e_lst' (es_cons' (eVar s4) (es_cons' e_cst (es_cons' (eVar s6) es_nil))) (by simp)
  have gl : (h ++ [Ho.lst [.str x, .non, .ref j]])[h.length]? = some (.lst [.str x, .non, .ref j]) := get_new
  have q1 := q.keep (HLe.app h [.lst [.str x, .non, .ref j]])
  have q61 : (h ++ [Ho.lst [.str x, .non, .ref j]])[j]? = some (.lst (ws.map .str)) := get_app q6
  have l1 := HLe.app h [.lst [.str x, .non, .ref j]]
  generalize h ++ [Ho.lst [.str x, .non, .ref j]] = hA at *
  have lc := lc_false (h := hA) (s := wipeV s [13]) (tg := [13]) (ev := evE G (oc G n) (.cmpo .Eq (.var 5) (.var 13))) (cd := evT G (oc G n) .yes) (kp := keeps G ⟨([Vv.str x, .non, .ref j]).map fun v => [v], some (.ref h.length), [.str x, .non, .ref j], true, false⟩) (fun acc => keeps_lst (get_app gl)) [.str x, .non, .ref j] [] (fun v hv acc => by
    refine ⟨(wipeV s [13]).set 13 (some v), rfl, rfl, ?_⟩
    have v5 : ((wipeV s [13]).set 13 (some v))[5]? = some (some (.ref i)) := by
      show ((s.set 13 none).set 13 (some v))[5]? = _
      rw [List.getElem?_set_ne (by decide), List.getElem?_set_ne (by decide)]; exact s5
    have v13 : ((wipeV s [13]).set 13 (some v))[13]? = some (some v) := List.getElem?_set_self (by show 13 < (s.set 13 none).length; rw [List.length_set]; exact s13)
    have t : ∃ T, tyv G (hA ++ [.lst acc]) v = some (.ty T) := by
      simp only [List.mem_cons, List.not_mem_nil, or_false] at hv
      rcases hv with z | z | z <;> subst z
      · exact ⟨_, rfl⟩
      · exact ⟨_, rfl⟩
      · refine ⟨"list", ?_⟩
        have ob : obj G (hA ++ [.lst acc]) (.ref j) = some (.lst (ws.map .str)) := get_app q61
        show (match obj G (hA ++ [.lst acc]) (.ref j) with
          | some (.lst _) => some (Vv.ty "list") | some (.rol _) => some (Vv.ty "list") | some (.tup _) => some (Vv.ty "tuple") | some (.dct _) => some (Vv.ty "dict")
          | some (.ins c _) => if G.clsI.contains c then some (Vv.cls c) else none | _ => none) = _
        rw [ob]
    obtain ⟨T, t⟩ := t
    rw [evE, eVar v5, Rb_ok, eVar v13, Rb_ok]
    exact cmp_odd D (by omega) (q1.keep (HLe.app _ _)) t) (by simp)
  have i1 : evI G (oc G n) (.val (.lst (.cons (.var 4) (.cons (.cst .non) (.cons (.var 6) .nil))))) [13].length s h = some (.ok ⟨([Vv.str x, .non, .ref j]).map fun v => [v], some (.ref h.length), [.str x, .non, .ref j], true, false⟩ hA) := by
    rw [evI, el, Rb_ok]
    show (srcOf G 1 (.ref h.length) hA).map _ = _
    rw [(src_lst' (G := G) gl).1]; rfl
  have e1 : evE G (oc G n) (.lc (.cmpo .Eq (.var 5) (.var 13)) [13] [13] (.val (.lst (.cons (.var 4) (.cons (.cst .non) (.cons (.var 6) .nil))))) .yes) s h = some (.ok (.ref hA.length) (hA ++ [.lst [.bl false, .bl false, .bl false]])) := by
    rw [evE, i1, Rb_ok]
    exact lc
  refine ⟨hA ++ [.lst [.bl false, .bl false, .bl false]], ?_, l1.trans (HLe.app _ _)⟩
  rw [eAny, evE, es_cons' e1 es_nil, Rb_ok]
  show (match (hA ++ [Ho.lst [.bl false, .bl false, .bl false]])[hA.length]? with | some (.lst xs) => (bools xs).bind fun bs => ok1 (.bl (bs.any id)) (hA ++ [Ho.lst [.bl false, .bl false, .bl false]]) | _ => none) = _
  rw [get_new]
  rfl
theorem due_e (D : L03 G) (hn : 10 ≤ n) (g : Gr .ei ws c) (hl : ws.length ≤ 60) (q6 : h[j]? = some (.lst (ws.map .str))) (s6 : s[6]? = some (some (.ref j))) : ∃ k h', evE G (oc G n) eDue s h = some (.ok (.ref k) h') ∧ HLe h h' ∧ h'[k]? = some (.lst ((ddp [] c.nms).map .str)) := by
  obtain ⟨k, h', e1, l1, _, g1⟩ := due_ok (G := G) (n := n - 1) D.due (by omega) q6 (by omega)
  rw [g.nms] at g1
  refine ⟨k, h', ?_, l1, g1⟩
  rw [eDue, evE, es_cons' (eVar s6) es_nil, Rb_ok, orc_call, call_of D.due rfl, e1]
theorem read_e (D : L03 G) (hn : 304 ≤ n) (g : Gr .ei ws c) (hl : ws.length ≤ 60) {p : Nat} (s4 : s[p]? = some (some (.str (Txt.join sp ws)))) : ∃ i h', evE G (oc G n) (.call "read_condition" (.cons (.var p) .nil)) s h = some (.ok (.ref i) h') ∧ HLe h h' ∧ h.length ≤ i ∧ CdAt h' i ws c := by
  obtain ⟨i, h', e1, l1, li, q⟩ := readc_ok (G := G) (n := n - 1) (h := h) D.rdr (by omega) g hl
  refine ⟨i, h', ?_, l1, li, q⟩
  rw [evE, es_cons' (eVar s4) es_nil, Rb_ok, orc_call, call_of D.rdr.readC rfl, e1]
theorem cnd_e (D : L03 G) (hn : 40 ≤ n) {NS : List Str} {es : Exs} {kk : Nat} (hes : ∀ hh, evEs G (oc G n) es s hh = some (.ok (NS.map .str) hh)) (hN : ∀ x ∈ NS, x ∈ NMS) (hN0 : 0 < NS.length) (hN1 : NS.length ≤ 100) (hk : kk ≤ 3) (s2 : s[2]? = some (some (.ref b))) (bg : Bag h b (B + cB kk)) :
    ∃ ws c h', evE G (oc G n) (.call "_law_condition" (.cons (.var 2) (.cons (.lst es) (.cons (.cst (.int kk)) .nil)))) s h = some (.ok (.str (Txt.join sp ws)) h') ∧ Gr .ei ws c ∧ ws.length ≤ wL kk ∧ Bag h' b B ∧ HLx b h h' := by
  have lb := lt_bag bg
  have el : evE G (oc G n) (.lst es) s h = some (.ok (.ref h.length) (h ++ [.lst (NS.map .str)])) := e_lst' (hes h) (by rw [List.length_map]; omega)
  obtain ⟨v, h', e1, ⟨ws, c, rfl, g, l⟩, b1, x1⟩ := cnd_ok (G := G) (j := h.length) (b := b) D.drw D.cond hN hN0 hN1 kk (n - 1) B (h ++ [.lst (NS.map .str)]) hk (by omega) get_new (by omega) (bg.keep (HLe.app _ _))
  refine ⟨ws, c, h', ?_, g, l, b1, ((HLe.app _ _).x b).trans x1⟩
  rw [evE, es_cons' (eVar s2) (es_cons' el (es_cons' e_cst es_nil)), Rb_ok, orc_call, call_of D.cond rfl, e1]
/-- a turn of the law -/
theorem tB_ok (D : L03 G) (hn : 320 ≤ n) (bg : Bag h b (B + 100)) :
    ∃ y4 y5 y6 y7 y8 y9 y10 y11 h', evS G (oc G n) tB [x0, x1, some (.ref b), x3, x4, x5, u6, x7, x8, x9, x10, x11, none, none] h = some (.nx [x0, x1, some (.ref b), x3, y4, y5, y6, y7, y8, y9, y10, y11, none, none] h') ∧ HLx b h h' ∧ Bag h' b B := by
  have lb := lt_bag bg
  obtain ⟨ws, c, h1, e1, g, lw, b1, l1⟩ := cnd_e (NS := NMS) (es := l4) (kk := 3) (B := B + 41) (s := [x0, x1, some (.ref b), x3, x4, x5, u6, x7, x8, x9, x10, x11, none, none]) D (n := n) (by omega) (fun hh => rfl) (fun x hx => hx) (by decide) (by decide) (by omega) rfl (bg.mono (by show B + 41 + 59 ≤ _; omega))
  have lw : ws.length ≤ 59 := lw
  -- the condition and its words
  obtain ⟨i, h2, e2, l2, li, q2⟩ := read_e (s := [x0, x1, some (.ref b), x3, some (.str (Txt.join sp ws)), x5, u6, x7, x8, x9, x10, x11, none, none]) (h := h1) D (n := n) (by omega) g (by omega) (p := 4) rfl
  have jl := len_join g (by omega)
  have e3 : evE G (oc G n) (.bm (.var 4) .split (.cons (.cst (.str " ")) .nil)) [x0, x1, some (.ref b), x3, some (.str (Txt.join sp ws)), x5, u6, x7, x8, x9, x10, x11, none, none] h2 = some (.ok (.ref h2.length) (h2 ++ [.lst (ws.map .str)])) := by
    have bb : bmeth G (.str (Txt.join sp ws)) .split [.str sp] h2 = some (.ok (.ref h2.length) (h2 ++ [.lst (ws.map .str)])) := by
      show (if _ then _ else _) = _
      rw [if_pos ⟨rfl, by have : sz = 16777216 := rfl; omega⟩, split_join_sp g.ne g.wd]
      rfl
    rw [evE, eVar (i := 4) rfl, Rb_ok]
    show (if true = true then Rb (evEs G _ (.cons (.cst (.str " ")) .nil) _ h2) fun vs h2 => bmeth G (.str (Txt.join sp ws)) .split vs h2 else none) = _
    rw [if_pos rfl, es_cons' e_cst es_nil, Rb_ok]
    exact bb
  have e23 : evE G (oc G n) (.tup (.cons (.call "read_condition" (.cons (.var 4) .nil)) (.cons (.bm (.var 4) .split (.cons (.cst (.str " ")) .nil)) .nil))) [x0, x1, some (.ref b), x3, some (.str (Txt.join sp ws)), x5, u6, x7, x8, x9, x10, x11, none, none] h1 = some (.ok (.ref (h2 ++ [Ho.lst (ws.map .str)]).length) (h2 ++ [.lst (ws.map .str)] ++ [.tup [.ref i, .ref h2.length]])) := e_tup' (es_cons' e2 (es_cons' e3 es_nil)) (by simp)
  have s3 : evS G (oc G n) t56 [x0, x1, some (.ref b), x3, some (.str (Txt.join sp ws)), x5, u6, x7, x8, x9, x10, x11, none, none] h1 = some (.nx [x0, x1, some (.ref b), x3, some (.str (Txt.join sp ws)), some (.ref i), some (.ref h2.length), x7, x8, x9, x10, x11, none, none] (h2 ++ [.lst (ws.map .str)] ++ [.tup [.ref i, .ref h2.length]])) := by
    have ob : obj G (h2 ++ [.lst (ws.map .str)] ++ [.tup [.ref i, .ref h2.length]]) (.ref (h2 ++ [Ho.lst (ws.map .str)]).length) = some (.tup [.ref i, .ref h2.length]) := get_new
    show Sb (evE G (oc G n) (.tup _) _ h1) _ _ = _
    rw [e23, Sb_ok]
    show (if [5, 6].length = 1 then none else (match obj G _ _ with | some (.tup xs) => (setT [5, 6] _ xs).map fun s1 => Sr.nx s1 _ | _ => none)) = _
    rw [ob]; rfl
  have l3 : HLe h1 (h2 ++ [.lst (ws.map .str)] ++ [.tup [.ref i, .ref h2.length]]) := (l2.trans (HLe.app _ _)).trans (HLe.app _ _)
  have q3 : CdAt (h2 ++ [.lst (ws.map .str)] ++ [.tup [.ref i, .ref h2.length]]) i ws c := q2.keep ((HLe.app _ _).trans (HLe.app _ _))
  have w3 : (h2 ++ [Ho.lst (ws.map .str)] ++ [Ho.tup [.ref i, .ref h2.length]])[h2.length]? = some (.lst (ws.map .str)) := get_app get_new
  have lh2 := len_le l2
  have lh1 : h.length ≤ h1.length := by
    rcases Nat.lt_or_ge h1.length h.length with q | q
    · by_cases z : h1.length = b
      · have := lt_bag b1; omega
      · have := l1 h1.length _ z (List.getElem?_eq_getElem q)
        have := lt_of_get this
        omega
    · exact q
  have b3 := b1.keep l3
  generalize h2 ++ [Ho.lst (ws.map .str)] ++ [Ho.tup [.ref i, .ref h2.length]] = h3 at *
  have ib : i ≠ b := by omega
  have jb : h2.length ≠ b := by omega
  generalize h2.length = j at *
  -- the values
  let I : Nat → Sl → VH → Prop := fun k sl hh => (∃ y7 y8 y9, sl = [x0, x1, some (.ref b), x3, some (.str (Txt.join sp ws)), some (.ref i), some (.ref j), y7, y8, y9, x10, x11, none, none]) ∧ Bag hh b (B + 11 + 5 * k) ∧ HLx b h3 hh
  have rN : rngOf [.int 6] = some ⟨rngItems 0 6 1, none, [], false, false⟩ := rng_of' (by decide) (by decide)
  have ln : (rngItems 0 6 1).length = 6 := by decide
  obtain ⟨s', h4, e4, ⟨y7, y8, y9, rfl⟩, b4, l4'⟩ := for_inv' (I := I) (bd := evS G (oc G n) uB) (tg := [7]) (kp := fun _ => true) (fun _ => rfl) (rngItems 0 6 1) [x0, x1, some (.ref b), x3, some (.str (Txt.join sp ws)), some (.ref i), some (.ref j), x7, x8, x9, x10, x11, none, none] h3 (fun k it sl hh hm ⟨⟨y7, y8, y9, e⟩, bb, ll⟩ => by
    subst e
    obtain ⟨t, rfl, _⟩ := rng_mem' hm
    obtain ⟨z8, z9, h', e5, l5, b5⟩ := uB_ok (G := G) (n := n) (b := b) (B := B + 11 + 5 * k) (x0 := x0) (x1 := x1) (x3 := x3) (x4 := some (.str (Txt.join sp ws))) (x7 := some (.int t)) (x8 := y8) (x9 := y9) (x10 := x10) (x11 := x11) D (by omega) (q3.kx ll ib (bag_nt b3)) g (by omega) (ll _ _ jb w3) ib jb (bb.mono (by omega))
    exact ⟨_, rfl, _, h', .inl e5, ⟨_, _, _, rfl⟩, b5, ll.trans l5⟩) ⟨⟨_, _, _, rfl⟩, by rw [ln]; exact b3.mono (by omega), (HLe.refl _).x _⟩
  have s4 : evS G (oc G n) (.for_ [7] (.rng (.cons (.cst (.int 6)) .nil)) uB) [x0, x1, some (.ref b), x3, some (.str (Txt.join sp ws)), some (.ref i), some (.ref j), x7, x8, x9, x10, x11, none, none] h3 = _ := for_rng' (vs := [.int 6]) rfl rN e4
  have q4 := q3.kx l4' ib (bag_nt b3)
  have w4 := l4' _ _ jb w3
  -- the names
  obtain ⟨kt, h5, e5, l5, lk, g5⟩ := nam_ok (s := [x0, x1, some (.ref b), x3, some (.str (Txt.join sp ws)), some (.ref i), some (.ref j), y7, y8, y9, x10, x11, none, none]) D (n := n) (by omega) q4 g (by omega) (p := 5) rfl
  obtain ⟨k6, h6, e6, l6, g6⟩ := due_e (s := [x0, x1, some (.ref b), x3, some (.str (Txt.join sp ws)), some (.ref i), some (.ref j), y7, y8, y9, some (.ref kt), x11, none, none]) D (n := n) (by omega) g (by omega) (l5 _ _ w4) rfl
  have T1 := t_cmpo (G := G) (o := oc G n) (s := [x0, x1, some (.ref b), x3, some (.str (Txt.join sp ws)), some (.ref i), some (.ref j), y7, y8, y9, some (.ref kt), x11, none, none]) (p := .var 10) (r := false) (op := .NotEq) (eVar (i := 10) rfl) e6 (ne_lists (l6 _ _ g5) g6 (nms_sh g))
  have q6 := (q4.keep l5).keep l6
  have w6 := l6 _ _ (l5 _ _ w4)
  have g56 := l6 _ _ g5
  have T2 : evT G (oc G n) (.val (.cmpo .NotEq (.sto (.var 5)) (.var 4))) [x0, x1, some (.ref b), x3, some (.str (Txt.join sp ws)), some (.ref i), some (.ref j), y7, y8, y9, some (.ref kt), x11, none, none] h6 = some (.ok false h6) := by
    obtain ⟨v, a1, _⟩ := q6
    refine t_cmpo (v := .str (Txt.join sp ws)) (w := .str (Txt.join sp ws)) ?_ (eVar (i := 4) rfl) (ne_str (.inr rfl) (join_sh g.wd))
    rw [evE, eVar (i := 5) rfl, Rb_ok, sto_ok D.rdr (by omega) a1]
  -- what is told is changed
  have lkb : kt ≠ b := by have := lt_bag b4; omega
  have lki : i ≠ kt := by have := q4.lt; omega
  have lkj : j ≠ kt := by have := lt_of_get w4; omega
  have ntk : ∀ xs, h6[kt]? ≠ some (.tup xs) := fun xs z => by rw [g56] at z; cases z
  have s7 := app_str (G := G) (o := oc G n) (s := [x0, x1, some (.ref b), x3, some (.str (Txt.join sp ws)), some (.ref i), some (.ref j), y7, y8, y9, some (.ref kt), x11, none, none]) (x := "changed") (j := 10) (a := .cst (.str "changed")) g56 (by
    have : (ddp [] c.nms).length ≤ 60 := by
      have h1 : ∀ (l acc : List Str), (ddp acc l).length ≤ acc.length + l.length := fun l => by
        induction l with
        | nil => intro acc; exact Nat.le_refl _
        | cons x r ih =>
          intro acc
          rw [ddp]
          have := ih (if x ∈ acc then acc else acc ++ [x])
          split at this
          · rename_i q; rw [if_pos q]; rw [List.length_cons]; omega
          · rename_i q; rw [if_neg q]; rw [List.length_append, List.length_singleton] at this; rw [List.length_cons]; omega
      have h2 := h1 c.nms []
      have h3 : c.nms.length ≤ ws.length := by rw [← g.nms]; exact List.length_filter_le _ _
      rw [List.length_nil] at h2
      omega
    omega) rfl e_cst
  have x7' := HLx.set kt h6 (.lst ((ddp [] c.nms ++ [("changed" : Str)]).map .str))
  have q7 := q6.kx x7' lki ntk
  have w7 := x7' _ _ lkj w6
  have b7 : Bag (h6.set kt (.lst ((ddp [] c.nms ++ [("changed" : Str)]).map .str))) b (B + 11) := by
    obtain ⟨a1, a2, a3, qq, rr⟩ := (b4.keep l5).keep l6
    exact ⟨a1, a2, a3, x7' _ _ (Ne.symm lkb) qq, rr⟩
  have l7 : HLx b h (h6.set kt (.lst ((ddp [] c.nms ++ [("changed" : Str)]).map .str))) := fun jj oo nb qq => by
    have hlt := lt_of_get qq
    have a3 := l3 _ _ (l1 _ _ nb qq)
    have a4 := l4' _ _ nb a3
    have := lt_of_get a4
    exact x7' _ _ (by omega) (l6 _ _ (l5 _ _ a4))
  generalize h6.set kt (.lst ((ddp [] c.nms ++ [("changed" : Str)]).map .str)) = h7 at *
  -- another one
  obtain ⟨ws2, c2, h8, e8, g8, lw8, b8, l8⟩ := cnd_e (NS := ["a", "b"]) (es := .cons (.cst (.str "a")) (.cons (.cst (.str "b")) .nil)) (kk := 1) (B := B) (s := [x0, x1, some (.ref b), x3, some (.str (Txt.join sp ws)), some (.ref i), some (.ref j), y7, y8, y9, some (.ref kt), x11, none, none]) D (n := n) (by omega) (fun hh => rfl) (by decide +kernel) (by decide) (by decide) (by omega) rfl (b7.mono (by show B + 11 ≤ _; omega))
  have lw8 : ws2.length ≤ 11 := lw8
  have q8 := q7.kx l8 ib (bag_nt b7)
  have w8 := l8 _ _ jb w7
  obtain ⟨k9, h9, e9, l9, lk9, g9⟩ := nam_ok (s := [x0, x1, some (.ref b), x3, some (.str (Txt.join sp ws)), some (.ref i), some (.ref j), y7, y8, y9, some (.ref kt), some (.str (Txt.join sp ws2)), none, none]) D (n := n) (by omega) q8 g (by omega) (p := 5) rfl
  obtain ⟨k10, h10, e10, l10, g10⟩ := due_e (s := [x0, x1, some (.ref b), x3, some (.str (Txt.join sp ws)), some (.ref i), some (.ref j), y7, y8, y9, some (.ref kt), some (.str (Txt.join sp ws2)), none, none]) D (n := n) (by omega) g (by omega) (l9 _ _ w8) rfl
  have T3 := t_cmpo (r := false) (op := .NotEq) e9 e10 (ne_lists (l10 _ _ g9) g10 (nms_sh g))
  obtain ⟨i11, h11, e11, l11, _, q11⟩ := read_e (s := [x0, x1, some (.ref b), x3, some (.str (Txt.join sp ws)), some (.ref i), some (.ref j), y7, y8, y9, some (.ref kt), some (.str (Txt.join sp ws2)), none, none]) (h := h10) D (n := n) (by omega) g8 (by omega) (p := 11) rfl
  have q11' := ((q8.keep l9).keep l10).keep l11
  have cA : evE G (oc G n) (.cmpo .Eq (.var 5) (.call "read_condition" (.cons (.var 11) .nil))) [x0, x1, some (.ref b), x3, some (.str (Txt.join sp ws)), some (.ref i), some (.ref j), y7, y8, y9, some (.ref kt), some (.str (Txt.join sp ws2)), none, none] h10 = some (.ok (.bl (decide (Txt.join sp ws = Txt.join sp ws2))) h11) := by
    rw [evE, eVar (i := 5) rfl, Rb_ok, e11, Rb_ok, cmp_cd D (by omega) q11' q11 g.wd g8.wd (.inl rfl)]
    rfl
  have cB' : evE G (oc G n) (.cmpo .Eq (.var 4) (.var 11)) [x0, x1, some (.ref b), x3, some (.str (Txt.join sp ws)), some (.ref i), some (.ref j), y7, y8, y9, some (.ref kt), some (.str (Txt.join sp ws2)), none, none] h11 = some (.ok (.bl (decide (Txt.join sp ws = Txt.join sp ws2))) h11) := by
    rw [evE, eVar (i := 4) rfl, Rb_ok, eVar (i := 11) rfl, Rb_ok, str_eq (join_sh g.wd) (join_sh g8.wd)]
  have T4 := t_cmpo (r := false) (op := .NotEq) cA cB' bl_ne
  obtain ⟨i12, h12, e12, l12, _, q12⟩ := read_e (s := [x0, x1, some (.ref b), x3, some (.str (Txt.join sp ws)), some (.ref i), some (.ref j), y7, y8, y9, some (.ref kt), some (.str (Txt.join sp ws2)), none, none]) (h := h11) D (n := n) (by omega) g (by omega) (p := 4) rfl
  have q12' := q11'.keep l12
  have T5 : evT G (oc G n) (.val (.cmpo .NotEq (.var 5) (.call "read_condition" (.cons (.var 4) .nil)))) [x0, x1, some (.ref b), x3, some (.str (Txt.join sp ws)), some (.ref i), some (.ref j), y7, y8, y9, some (.ref kt), some (.str (Txt.join sp ws2)), none, none] h11 = some (.ok false h12) := t_cmpo (eVar (i := 5) rfl) e12 (by
    rw [cmp_cd D (by omega) q12' q12 g.wd g.wd (.inr rfl)]
    simp)
  have w12 := l12 _ _ (l11 _ _ (l10 _ _ (l9 _ _ w8)))
  obtain ⟨h13, e13, l13⟩ := any_ok (x := Txt.join sp ws) (s := [x0, x1, some (.ref b), x3, some (.str (Txt.join sp ws)), some (.ref i), some (.ref j), y7, y8, y9, some (.ref kt), some (.str (Txt.join sp ws2)), none, none]) D (n := n) (by omega) q12' w12 rfl rfl rfl (by simp)
  have lz := ((((l9.trans l10).trans l11).trans l12).trans l13)
  exact ⟨_, _, _, _, _, _, _, _, h13, seq_nx (asg_of e1) (seq_nx s3 (seq_nx s4 (seq_nx (asg_of e5) (seq_nx (ifs_f (or_ff T1 T2) rfl) (seq_nx s7 (seq_nx (asg_of e8) (seq_nx (ifs_f (or_ff T3 T4) rfl) (seq_skip (ifs_f (or_ff T5 (val_of e13)) rfl))))))))), (l7.trans l8).trans (lz.x b), b8.keep lz⟩
theorem lB3_ok (D : L03 G) (hn : 330 ≤ n) {at_ : Nat} {ns : List Int} {x2 : Option Vv} (h0 : h[0]? = some (.rol (ns.map .int))) : ∃ y2 y3 y4 y5 y6 y7 y8 y9 y10 y11 h', evS G (oc G n) lB3 [some (.ref 0), some (.int at_), x2, x3, x4, x5, u6, x7, x8, x9, x10, x11, none, none] h = some (.nx [some (.ref 0), some (.int at_), y2, y3, y4, y5, y6, y7, y8, y9, y10, y11, none, none] h') ∧ HLe h h' := by
  obtain ⟨h1, e1, b1, l1⟩ := bag_ok D.drw (n := n - 1) (by omega) (at_ := at_) h0
  have e1' : evE G (oc G n) (.call "_law_bag" (.cons (.var 0) (.cons (.var 1) .nil))) [some (.ref 0), some (.int at_), x2, x3, x4, x5, u6, x7, x8, x9, x10, x11, none, none] h = some (.ok (.ref h.length) h1) := by
    rw [evE, es_cons' (eVar (i := 0) rfl) (es_cons' (eVar (i := 1) rfl) es_nil), Rb_ok, orc_call, call_of D.drw.bag rfl, e1]
  let I : Nat → Sl → VH → Prop := fun k sl hh => (∃ y3 y4 y5 y6 y7 y8 y9 y10 y11, sl = [some (.ref 0), some (.int at_), some (.ref h.length), y3, y4, y5, y6, y7, y8, y9, y10, y11, none, none]) ∧ Bag hh h.length (100 * k) ∧ HLx h.length h1 hh
  have rN : rngOf [.int 12] = some ⟨rngItems 0 12 1, none, [], false, false⟩ := rng_of' (by decide) (by decide)
  have ln : (rngItems 0 12 1).length = 12 := by decide
  obtain ⟨s', h2, e2, ⟨y3, y4, y5, y6, y7, y8, y9, y10, y11, rfl⟩, b2, x2'⟩ := for_inv' (I := I) (bd := evS G (oc G n) tB) (tg := [3]) (kp := fun _ => true) (fun _ => rfl) (rngItems 0 12 1) [some (.ref 0), some (.int at_), some (.ref h.length), x3, x4, x5, u6, x7, x8, x9, x10, x11, none, none] h1 (fun k it sl hh hm ⟨⟨y3, y4, y5, y6, y7, y8, y9, y10, y11, e⟩, bb, xx⟩ => by
    subst e
    obtain ⟨i, rfl, _⟩ := rng_mem' hm
    obtain ⟨z4, z5, z6, z7, z8, z9, z10, z11, h3, e3, x3, b3⟩ := tB_ok (G := G) (n := n) (b := h.length) (B := 100 * k) (x0 := some (.ref 0)) (x1 := some (.int at_)) (x3 := some (.int i)) (x4 := y4) (x5 := y5) (u6 := y6) (x7 := y7) (x8 := y8) (x9 := y9) (x10 := y10) (x11 := y11) D (by omega) (bb.mono (by omega))
    exact ⟨_, rfl, _, h3, .inl e3, ⟨_, _, _, _, _, _, _, _, _, rfl⟩, b3, xx.trans x3⟩) ⟨⟨_, _, _, _, _, _, _, _, _, rfl⟩, by rw [ln]; exact b1.mono (by omega), (HLe.refl _).x _⟩
  exact ⟨_, _, _, _, _, _, _, _, _, _, h2, seq_nx (asg_of e1') (seq_skip (for_rng' (vs := [.int 12]) rfl rN e2)), fun j o e => x2' _ _ (by have := lt_of_get e; omega) (l1 _ _ e)⟩
theorem law03 (D : L03 G) (hl : G.fns "law" = some ⟨1, 14, xLaw03, []⟩) (ns : List Int) : ∃ n h', n ≤ 500 ∧ run G n "law" [.ref 0] [.rol (ns.map .int)] = some (.ok (.bl true) h') := by
  let o := oc G 400
  let I : Nat → Sl → VH → Prop := fun _ sl hh => (∃ y1 y2 y3 y4 y5 y6 y7 y8 y9 y10 y11, sl = [some (.ref 0), y1, y2, y3, y4, y5, y6, y7, y8, y9, y10, y11, none, none]) ∧ hh[0]? = some (.rol (ns.map .int))
  have e : ∃ N : Int, evEs G o (.cons (.bf .max (.cons (.cst (.int 1)) (.cons (.bf .min (.cons (.cst (.int 2)) (.cons (.bf .len (.cons (.var 0) .nil)) .nil))) .nil))) .nil) [some (.ref 0), none, none, none, none, none, none, none, none, none, none, none, none, none] [.rol (ns.map .int)] = some (.ok [.int N] [.rol (ns.map .int)]) ∧ N ≤ 2 ∧ 0 ≤ N := by
    refine ⟨if (if ((ns.map Vv.int).length : Int) < 2 then ((ns.map Vv.int).length : Int) else 2) > 1 then (if ((ns.map Vv.int).length : Int) < 2 then ((ns.map Vv.int).length : Int) else 2) else 1, rfl, ?_, ?_⟩
    · split <;> split at * <;> omega
    · split <;> split at * <;> omega
  obtain ⟨N, eN, N2, N0⟩ := e
  have rN : rngOf [.int N] = some ⟨rngItems 0 N 1, none, [], false, false⟩ := if_pos ⟨by omega, by omega⟩
  obtain ⟨s', h', e2, ⟨y1, y2, y3, y4, y5, y6, y7, y8, y9, y10, y11, rfl⟩, c2⟩ := for_inv' (I := I) (bd := evS G o lB3) (tg := [1]) (kp := fun _ => true) (fun _ => rfl) (rngItems 0 N 1) [some (.ref 0), none, none, none, none, none, none, none, none, none, none, none, none, none] [.rol (ns.map .int)] (fun k it sl hh hm ⟨⟨y1, y2, y3, y4, y5, y6, y7, y8, y9, y10, y11, e⟩, cc⟩ => by
    subst e
    obtain ⟨i, rfl, _⟩ := rng_mem' hm
    obtain ⟨z2, z3, z4, z5, z6, z7, z8, z9, z10, z11, h2, r, c3⟩ := lB3_ok (G := G) (n := 400) (at_ := i) (x2 := y2) (x3 := y3) (x4 := y4) (x5 := y5) (u6 := y6) (x7 := y7) (x8 := y8) (x9 := y9) (x10 := y10) (x11 := y11) D (by omega) cc
    exact ⟨_, rfl, _, h2, .inl r, ⟨_, _, _, _, _, _, _, _, _, _, _, rfl⟩, c3 _ _ cc⟩) ⟨⟨_, _, _, _, _, _, _, _, _, _, _, rfl⟩, rfl⟩
  exact ⟨400, h', by omega, run_ev hl (by omega) rfl (s := [some (.ref 0), none, none, none, none, none, none, none, none, none, none, none, none, none]) rfl (r := some (.rt (.bl true) h')) (seq_nx (for_rng' eN rN e2) (seq_rt (ret_of rfl))) rfl⟩
end
end Pl

set_option linter.all false
set_option autoImplicit false
set_option maxRecDepth 100000
set_option maxHeartbeats 0
namespace Lw
open PySem Dv
abbrev Pg : Program := PySem.Challenge.pw_headerworlds_k03_conditions_that_hold
def top (i : Nat) : Stmt := Pg.main.body.getD i (.Pass ⟨0, 0, 0, 0⟩)
def mem (i j : Nat) : Stmt := match top i with
  | .ClassDef _ _ _ b _ _ _ _ _ _ _ => b.getD j (.Pass ⟨0, 0, 0, 0⟩)
  | _ => .Pass ⟨0, 0, 0, 0⟩
def x_is_word : St := (.seq (.ifs (.or (.not (.val (.bf .isinst (.cons (.var 0) (.cons (.cst (.ty "str")) .nil))))) (.or (.not (.val (.chain .LtE .LtE (.cst (.int 1)) (.bf .len (.cons (.var 0) .nil)) (.cst (.int 8))))) (.val (.cmp .In (.var 0) (.cst (.con "RESERVED")))))) (.seq (.ret (.cst (.bl false))) .skip) .skip) (.seq (.ret (.bf .all (.cons (.lc (.cmp .In (.var 1) (.cst (.str "abcdefghijklmnopqrstuvwxyz"))) [1] [1] (.val (.var 0)) .yes) .nil))) .skip))
def dx_is_word : Df := ⟨(.glo "is_word"), "is_word", "is_word", L2.defArgs (top 7), L2.defBody (top 7), L2.defScope (top 7), ["value", "letter"], ["value"], ⟨1, 2, x_is_word, []⟩, []⟩
def x_is_digit : St := (.seq (.ret (.and (.bf .isinst (.cons (.var 0) (.cons (.cst (.ty "str")) .nil))) (.and (.cmp .Eq (.bf .len (.cons (.var 0) .nil)) (.cst (.int 1))) (.cmp .In (.var 0) (.cst (.str "0123456789")))))) .skip)
def dx_is_digit : Df := ⟨(.glo "is_digit"), "is_digit", "is_digit", L2.defArgs (top 8), L2.defBody (top 8), L2.defScope (top 8), ["value"], ["value"], ⟨1, 1, x_is_digit, []⟩, []⟩
def x_parse : St := (.seq (.ifs (.not (.val (.bf .isinst (.cons (.var 0) (.cons (.cst (.ty "str")) .nil))))) (.seq (.rais "BadCondition" (.cons (.cst (.int 0)) .nil)) .skip) .skip) (.seq (.asg (.one 2) (.mk "Reader" (.cons (.bm (.var 0) .split (.cons (.cst (.str " ")) .nil)) (.cons (.var 1) .nil)))) (.seq (.asg (.one 3) (.meth (.var 2) "either" .nil)) (.seq (.ifs (.val (.cmp .IsNot (.meth (.var 2) "here" .nil) (.cst .non))) (.seq (.rais "BadCondition" (.cons (.attr (.var 2) "place") .nil)) .skip) .skip) (.seq (.ret (.var 3)) .skip)))))
def dx_parse : Df := ⟨(.glo "parse"), "parse", "parse", L2.defArgs (top 12), L2.defBody (top 12), L2.defScope (top 12), ["text", "is_wide", "reader", "tree"], ["text", "is_wide"], ⟨2, 4, x_parse, []⟩, []⟩
def x_leaves_in : St := (.seq (.ifs (.val (.cmp .In (.idx (.var 0) (.cst (.int 0))) (.tup (.cons (.cst (.str "not")) (.cons (.cst (.str "and")) (.cons (.cst (.str "or")) .nil)))))) (.seq (.ret (.lc2 (.var 2) [1, 2] [1] (.val (.slc (.var 0) (.cst (.int 1)) .noe)) .yes [2] (.val (.call "leaves_in" (.cons (.var 1) .nil))) .yes)) .skip) .skip) (.seq (.ret (.lst (.cons (.var 0) .nil))) .skip))
def dx_leaves_in : Df := ⟨(.glo "leaves_in"), "leaves_in", "leaves_in", L2.defArgs (top 13), L2.defBody (top 13), L2.defScope (top 13), ["tree", "part", "leaf"], ["tree"], ⟨1, 3, x_leaves_in, []⟩, []⟩
def x_names_in : St := (.seq (.asg (.one 1) (.lst .nil)) (.seq (.for_ [2] (.val (.call "leaves_in" (.cons (.var 0) .nil))) (.seq (.ifs (.val (.cmp .NotIn (.idx (.var 2) (.cst (.int 1))) (.var 1))) (.seq (.expr (.bm (.var 1) .append (.cons (.idx (.var 2) (.cst (.int 1))) .nil))) .skip) .skip) .skip)) (.seq (.ret (.var 1)) .skip)))
def dx_names_in : Df := ⟨(.glo "names_in"), "names_in", "names_in", L2.defArgs (top 14), L2.defBody (top 14), L2.defScope (top 14), ["tree", "found", "leaf"], ["tree"], ⟨1, 3, x_names_in, []⟩, []⟩
def x_holds : St := (.seq (.asg (.one 2) (.idx (.var 0) (.cst (.int 0)))) (.seq (.ifs (.val (.cmp .Eq (.var 2) (.cst (.str "not")))) (.seq (.ret (.not (.call "holds" (.cons (.idx (.var 0) (.cst (.int 1))) (.cons (.var 1) .nil))))) .skip) .skip) (.seq (.ifs (.val (.cmp .Eq (.var 2) (.cst (.str "and")))) (.seq (.ret (.and (.call "holds" (.cons (.idx (.var 0) (.cst (.int 1))) (.cons (.var 1) .nil))) (.call "holds" (.cons (.idx (.var 0) (.cst (.int 2))) (.cons (.var 1) .nil))))) .skip) .skip) (.seq (.ifs (.val (.cmp .Eq (.var 2) (.cst (.str "or")))) (.seq (.ret (.or (.call "holds" (.cons (.idx (.var 0) (.cst (.int 1))) (.cons (.var 1) .nil))) (.call "holds" (.cons (.idx (.var 0) (.cst (.int 2))) (.cons (.var 1) .nil))))) .skip) .skip) (.seq (.asg (.one 3) (.bm (.var 1) .get (.cons (.idx (.var 0) (.cst (.int 1))) .nil))) (.seq (.ifs (.val (.cmp .Is (.var 3) (.cst .non))) (.seq (.ret (.cst (.bl false))) .skip) .skip) (.seq (.ret (.or (.cmp .Eq (.var 2) (.cst (.str "name"))) (.or (.and (.cmp .Eq (.var 2) (.cst (.str "equal"))) (.cmp .Eq (.var 3) (.idx (.var 0) (.cst (.int 2))))) (.and (.cmp .Eq (.var 2) (.cst (.str "less"))) (.cmp .Lt (.var 3) (.idx (.var 0) (.cst (.int 2)))))))) .skip)))))))
def dx_holds : Df := ⟨(.glo "holds"), "holds", "holds", L2.defArgs (top 15), L2.defBody (top 15), L2.defScope (top 15), ["tree", "values", "kind", "value"], ["tree", "values"], ⟨2, 4, x_holds, []⟩, []⟩
def x_read_condition : St := (.seq (.ret (.mk "Condition" (.cons (.var 0) (.cons (.call "parse" (.cons (.var 0) (.cons (.cst (.bl false)) .nil))) .nil)))) .skip)
def dx_read_condition : Df := ⟨(.glo "read_condition"), "read_condition", "read_condition", L2.defArgs (top 17), L2.defBody (top 17), L2.defScope (top 17), ["text"], ["text"], ⟨1, 1, x_read_condition, []⟩, []⟩
def x__law_bag : St := (.seq (.asg (.one 2) (.ite (.val (.cmp .Lt (.var 1) (.bf .len (.cons (.var 0) .nil)))) (.idx (.var 0) (.var 1)) (.cst (.int 0)))) (.seq (.asg (.one 3) (.ite (.val (.cmp .GtE (.bf .abs (.cons (.var 2) .nil)) (.bin .Pow (.cst (.int 10)) (.cst (.int 18))))) (.bf .abs (.cons (.var 2) .nil)) (.cst (.int 0)))) (.seq (.ret (.lst (.cons (.var 3) (.cons (.bin .Mod (.bin .Mult (.bf .int (.cons (.bin .Add (.bin .Add (.bin .Mod (.bf .int (.cons (.var 2) .nil)) (.cst (.int 2305843009213693951))) (.bin .Mult (.cst (.int 7817)) (.var 1))) (.cst (.int 77))) .nil)) (.cst (.int 6700417))) (.cst (.int 2305843009213693951))) (.cons (.cst (.int 0)) .nil))))) .skip)))
def dx__law_bag : Df := ⟨(.glo "_law_bag"), "_law_bag", "_law_bag", L2.defArgs (top 19), L2.defBody (top 19), L2.defScope (top 19), ["_law_script", "_law_at", "_law_cell", "_law_digits"], ["_law_script", "_law_at"], ⟨2, 4, x__law_bag, []⟩, []⟩
def x__law_take : St := (.seq (.ifs (.val (.cmp .Gt (.idx (.var 0) (.cst (.int 0))) (.cst (.int 0)))) (.seq (.asg (.one 2) (.bin .Mod (.bf .int (.cons (.idx (.var 0) (.cst (.int 0))) .nil)) (.var 1))) (.seq (.seti (.var 0) (.cst (.int 0)) (.bin .FloorDiv (.idx (.var 0) (.cst (.int 0))) (.var 1))) (.seq (.ret (.var 2)) .skip))) .skip) (.seq (.seti (.var 0) (.cst (.int 2)) (.bin .Add (.idx (.var 0) (.cst (.int 2))) (.cst (.int 1)))) (.seq (.asg (.one 3) (.bin .Mod (.bf .int (.cons (.bin .Pow (.bin .Add (.idx (.var 0) (.cst (.int 1))) (.bin .Mult (.cst (.int 1000151)) (.idx (.var 0) (.cst (.int 2))))) (.cst (.int 3))) .nil)) (.cst (.int 2305843009213693921)))) (.seq (.asg (.one 3) (.bin .Mod (.bf .int (.cons (.bin .Pow (.bin .Add (.var 3) (.bin .Mult (.cst (.int 27644437)) (.idx (.var 0) (.cst (.int 2))))) (.cst (.int 2))) .nil)) (.cst (.int 2305843009213693951)))) (.seq (.ret (.bin .Mod (.bf .int (.cons (.bin .FloorDiv (.var 3) (.cst (.int 1024))) .nil)) (.var 1))) .skip)))))
def dx__law_take : Df := ⟨(.glo "_law_take"), "_law_take", "_law_take", L2.defArgs (top 20), L2.defBody (top 20), L2.defScope (top 20), ["_law_bag_here", "_law_many", "_law_digit", "_law_mixed"], ["_law_bag_here", "_law_many"], ⟨2, 4, x__law_take, []⟩, []⟩
def x__law_of : St := (.seq (.ret (.idx (.var 1) (.call "_law_take" (.cons (.var 0) (.cons (.bf .len (.cons (.var 1) .nil)) .nil))))) .skip)
def dx__law_of : Df := ⟨(.glo "_law_of"), "_law_of", "_law_of", L2.defArgs (top 21), L2.defBody (top 21), L2.defScope (top 21), ["_law_bag_here", "_law_some"], ["_law_bag_here", "_law_some"], ⟨2, 2, x__law_of, []⟩, []⟩
def x__law_condition : St := (.seq (.asg (.one 3) (.call "_law_take" (.cons (.var 0) (.cons (.ite (.val (.cmp .Gt (.var 2) (.cst (.int 0)))) (.cst (.int 6)) (.cst (.int 3))) .nil)))) (.seq (.par [4, 5] (.cons (.call "_law_of" (.cons (.var 0) (.cons (.var 1) .nil))) (.cons (.bf .str (.cons (.call "_law_take" (.cons (.var 0) (.cons (.cst (.int 4)) .nil))) .nil)) .nil))) (.seq (.ifs (.val (.cmp .Lt (.var 3) (.cst (.int 3)))) (.seq (.ret (.idx (.lst (.cons (.var 4) (.cons (.bin .Add (.bin .Add (.var 4) (.cst (.str " = "))) (.var 5)) (.cons (.bin .Add (.bin .Add (.var 4) (.cst (.str " < "))) (.var 5)) .nil)))) (.var 3))) .skip) .skip) (.seq (.par [6, 7] (.cons (.call "_law_condition" (.cons (.var 0) (.cons (.var 1) (.cons (.bin .Sub (.var 2) (.cst (.int 1))) .nil)))) (.cons (.call "_law_condition" (.cons (.var 0) (.cons (.var 1) (.cons (.bin .Sub (.var 2) (.cst (.int 1))) .nil)))) .nil))) (.seq (.ifs (.val (.cmp .Eq (.var 3) (.cst (.int 3)))) (.seq (.ret (.bin .Add (.cst (.str "not ")) (.call "_law_of" (.cons (.var 0) (.cons (.lst (.cons (.var 4) (.cons (.bin .Add (.bin .Add (.cst (.str "( ")) (.var 6)) (.cst (.str " )"))) .nil))) .nil))))) .skip) .skip) (.seq (.par [8, 9] (.cons (.call "_law_of" (.cons (.var 0) (.cons (.lst (.cons (.bin .Add (.bin .Add (.cst (.str "( ")) (.var 6)) (.cst (.str " )"))) (.cons (.var 6) .nil))) .nil))) (.cons (.call "_law_of" (.cons (.var 0) (.cons (.lst (.cons (.bin .Add (.bin .Add (.cst (.str "( ")) (.var 7)) (.cst (.str " )"))) (.cons (.var 7) .nil))) .nil))) .nil))) (.seq (.ret (.bin .Add (.bin .Add (.var 8) (.idx (.lst (.cons (.cst (.str " and ")) (.cons (.cst (.str " or ")) .nil))) (.bin .Sub (.var 3) (.cst (.int 4))))) (.var 9))) .skip)))))))
def dx__law_condition : Df := ⟨(.glo "_law_condition"), "_law_condition", "_law_condition", L2.defArgs (top 22), L2.defBody (top 22), L2.defScope (top 22), ["_law_bag_here", "_law_words", "_law_deep", "_law_way", "_law_name", "_law_value", "_law_one", "_law_other", "_law_first", "_law_second"], ["_law_bag_here", "_law_words", "_law_deep"], ⟨3, 10, x__law_condition, []⟩, []⟩
def x__law_holds : St := (.seq (.for_ [2] (.val (.lst (.cons (.cst (.str "or")) (.cons (.cst (.str "and")) .nil)))) (.seq (.asg (.one 3) (.cst (.int 0))) (.seq (.for_ [4] (.rng (.cons (.bin .Sub (.bf .len (.cons (.var 0) .nil)) (.cst (.int 1))) (.cons (.neg (.cst (.int 1))) (.cons (.neg (.cst (.int 1))) .nil)))) (.seq (.asg (.one 3) (.bin .Sub (.bin .Add (.var 3) (.bf .int (.cons (.cmp .Eq (.idx (.var 0) (.var 4)) (.cst (.str ")"))) .nil))) (.bf .int (.cons (.cmp .Eq (.idx (.var 0) (.var 4)) (.cst (.str "("))) .nil)))) (.seq (.ifs (.and (.val (.cmp .Eq (.var 3) (.cst (.int 0)))) (.val (.cmp .Eq (.idx (.var 0) (.var 4)) (.var 2)))) (.seq (.par [5, 6] (.cons (.call "_law_holds" (.cons (.slc (.var 0) .noe (.var 4)) (.cons (.var 1) .nil))) (.cons (.call "_law_holds" (.cons (.slc (.var 0) (.bin .Add (.var 4) (.cst (.int 1))) .noe) (.cons (.var 1) .nil))) .nil))) (.seq (.ret (.ite (.val (.cmp .Eq (.var 2) (.cst (.str "or")))) (.or (.var 5) (.var 6)) (.and (.var 5) (.var 6)))) .skip)) .skip) .skip))) .skip))) (.seq (.ifs (.val (.cmp .Eq (.idx (.var 0) (.cst (.int 0))) (.cst (.str "not")))) (.seq (.ret (.not (.call "_law_holds" (.cons (.slc (.var 0) (.cst (.int 1)) .noe) (.cons (.var 1) .nil))))) .skip) .skip) (.seq (.ifs (.val (.cmp .Eq (.idx (.var 0) (.cst (.int 0))) (.cst (.str "(")))) (.seq (.ret (.call "_law_holds" (.cons (.slc (.var 0) (.cst (.int 1)) (.neg (.cst (.int 1)))) (.cons (.var 1) .nil)))) .skip) .skip) (.seq (.asg (.one 7) (.bm (.var 1) .get (.cons (.idx (.var 0) (.cst (.int 0))) .nil))) (.seq (.ifs (.or (.val (.cmp .Is (.var 7) (.cst .non))) (.val (.cmp .Eq (.bf .len (.cons (.var 0) .nil)) (.cst (.int 1))))) (.seq (.ret (.cmp .IsNot (.var 7) (.cst .non))) .skip) .skip) (.seq (.ret (.ite (.val (.cmp .Eq (.idx (.var 0) (.cst (.int 1))) (.cst (.str "=")))) (.cmp .Eq (.var 7) (.bf .int (.cons (.idx (.var 0) (.cst (.int 2))) .nil))) (.cmp .Lt (.var 7) (.bf .int (.cons (.idx (.var 0) (.cst (.int 2))) .nil))))) .skip))))))
def dx__law_holds : Df := ⟨(.glo "_law_holds"), "_law_holds", "_law_holds", L2.defArgs (top 23), L2.defBody (top 23), L2.defScope (top 23), ["_law_words", "_law_values", "_law_sign", "_law_depth", "_law_at", "_law_one", "_law_other", "_law_value"], ["_law_words", "_law_values"], ⟨2, 8, x__law_holds, []⟩, []⟩
def x__law_names_due : St := (.seq (.asg (.one 1) (.lst .nil)) (.seq (.for_ [2] (.val (.var 0)) (.seq (.ifs (.and (.val (.cmp .In (.var 2) (.tup (.cons (.cst (.str "a")) (.cons (.cst (.str "b")) (.cons (.cst (.str "big")) (.cons (.cst (.str "os")) .nil))))))) (.val (.cmp .NotIn (.var 2) (.var 1)))) (.seq (.expr (.bm (.var 1) .append (.cons (.var 2) .nil))) .skip) .skip) .skip)) (.seq (.ret (.var 1)) .skip)))
def dx__law_names_due : Df := ⟨(.glo "_law_names_due"), "_law_names_due", "_law_names_due", L2.defArgs (top 24), L2.defBody (top 24), L2.defScope (top 24), ["_law_words", "_law_found", "_law_word"], ["_law_words"], ⟨1, 3, x__law_names_due, []⟩, []⟩
def x_law : St := (.seq (.for_ [1] (.rng (.cons (.bf .max (.cons (.cst (.int 1)) (.cons (.bf .min (.cons (.cst (.int 2)) (.cons (.bf .len (.cons (.var 0) .nil)) .nil))) .nil))) .nil)) (.seq (.asg (.one 2) (.call "_law_bag" (.cons (.var 0) (.cons (.var 1) .nil)))) (.seq (.for_ [3] (.rng (.cons (.cst (.int 12)) .nil)) (.seq (.asg (.one 4) (.call "_law_condition" (.cons (.var 2) (.cons (.lst (.cons (.cst (.str "a")) (.cons (.cst (.str "b")) (.cons (.cst (.str "big")) (.cons (.cst (.str "os")) .nil))))) (.cons (.cst (.int 3)) .nil))))) (.seq (.asg (.many [5, 6]) (.tup (.cons (.call "read_condition" (.cons (.var 4) .nil)) (.cons (.bm (.var 4) .split (.cons (.cst (.str " ")) .nil)) .nil)))) (.seq (.for_ [7] (.rng (.cons (.cst (.int 6)) .nil)) (.seq (.asg (.one 8) (.bf .dict (.cons (.lc (.tup (.cons (.var 12) (.cons (.call "_law_of" (.cons (.var 2) (.cons (.lst (.cons (.cst .non) (.cons (.cst (.int 0)) (.cons (.cst (.int 1)) (.cons (.cst (.int 2)) (.cons (.cst (.int 3)) (.cons (.cst (.int 7)) .nil))))))) .nil))) .nil))) [12] [12] (.val (.lst (.cons (.cst (.str "a")) (.cons (.cst (.str "b")) (.cons (.cst (.str "big")) (.cons (.cst (.str "os")) .nil)))))) .yes) .nil))) (.seq (.ifs (.val (.cmpo .Eq (.call "_law_take" (.cons (.var 2) (.cons (.cst (.int 3)) .nil))) (.cst (.int 0)))) (.seq (.expr (.bm (.var 8) .pop (.cons (.cst (.str "b")) .nil))) .skip) .skip) (.seq (.asg (.one 9) (.bf .dict (.cons (.var 8) .nil))) (.seq (.ifs (.or (.val (.cmpo .NotEq (.bf .repr (.cons (.cv 5 (.cons (.var 8) .nil)) .nil)) (.bf .repr (.cons (.call "_law_holds" (.cons (.var 6) (.cons (.var 8) .nil))) .nil)))) (.val (.cmpo .NotEq (.var 8) (.var 9)))) (.seq (.ret (.cst (.bl false))) .skip) .skip) .skip))))) (.seq (.asg (.one 10) (.attr (.var 5) "names")) (.seq (.ifs (.or (.val (.cmpo .NotEq (.var 10) (.call "_law_names_due" (.cons (.var 6) .nil)))) (.val (.cmpo .NotEq (.sto (.var 5)) (.var 4)))) (.seq (.ret (.cst (.bl false))) .skip) .skip) (.seq (.expr (.bm (.var 10) .append (.cons (.cst (.str "changed")) .nil))) (.seq (.asg (.one 11) (.call "_law_condition" (.cons (.var 2) (.cons (.lst (.cons (.cst (.str "a")) (.cons (.cst (.str "b")) .nil))) (.cons (.cst (.int 1)) .nil))))) (.seq (.ifs (.or (.val (.cmpo .NotEq (.attr (.var 5) "names") (.call "_law_names_due" (.cons (.var 6) .nil)))) (.val (.cmpo .NotEq (.cmpo .Eq (.var 5) (.call "read_condition" (.cons (.var 11) .nil))) (.cmpo .Eq (.var 4) (.var 11))))) (.seq (.ret (.cst (.bl false))) .skip) .skip) (.seq (.ifs (.or (.val (.cmpo .NotEq (.var 5) (.call "read_condition" (.cons (.var 4) .nil)))) (.val (.bf .any (.cons (.lc (.cmpo .Eq (.var 5) (.var 13)) [13] [13] (.val (.lst (.cons (.var 4) (.cons (.cst .non) (.cons (.var 6) .nil))))) .yes) .nil)))) (.seq (.ret (.cst (.bl false))) .skip) .skip) .skip)))))))))) .skip))) (.seq (.ret (.cst (.bl true))) .skip))
def dx_law : Df := ⟨(.glo "law"), "law", "law", L2.defArgs (top 25), L2.defBody (top 25), L2.defScope (top 25), ["_law_script", "_law_at", "_law_bag_here", "_law_turn", "_law_text", "_law_real", "_law_words", "_law_again", "_law_values", "_law_kept", "_law_told", "_law_other", "_law_name", "_law_odd"], ["_law_script"], ⟨1, 14, x_law, []⟩, []⟩
def x_Reader___init__ : St := (.seq (.fld (.var 0) "words" (.var 1)) (.seq (.fld (.var 0) "is_wide" (.var 2)) (.seq (.fld (.var 0) "place" (.cst (.int 0))) .skip)))
def dx_Reader___init__ : Df := ⟨(.met "Reader" "__init__"), "__init__", "Reader.__init__", L2.defArgs (mem 11 0), L2.defBody (mem 11 0), L2.defScope (mem 11 0), ["self", "words", "is_wide"], ["self", "words", "is_wide"], ⟨3, 3, x_Reader___init__, []⟩, []⟩
def x_Reader_here : St := (.seq (.ret (.ite (.val (.cmp .Lt (.attr (.var 0) "place") (.bf .len (.cons (.attr (.var 0) "words") .nil)))) (.idx (.attr (.var 0) "words") (.attr (.var 0) "place")) (.cst .non))) .skip)
def dx_Reader_here : Df := ⟨(.met "Reader" "here"), "here", "Reader.here", L2.defArgs (mem 11 1), L2.defBody (mem 11 1), L2.defScope (mem 11 1), ["self"], ["self"], ⟨1, 1, x_Reader_here, []⟩, []⟩
def x_Reader_take : St := (.seq (.asg (.one 2) (.meth (.var 0) "here" .nil)) (.seq (.ifs (.or (.val (.cmp .Is (.var 2) (.cst .non))) (.or (.val (.cmp .GtE (.attr (.var 0) "place") (.cst (.int 60)))) (.not (.val (.cv 1 (.cons (.var 2) .nil)))))) (.seq (.rais "BadCondition" (.cons (.attr (.var 0) "place") .nil)) .skip) .skip) (.seq (.augf (.var 0) "place" .Add (.cst (.int 1))) (.seq (.ret (.var 2)) .skip))))
def dx_Reader_take : Df := ⟨(.met "Reader" "take"), "take", "Reader.take", L2.defArgs (mem 11 2), L2.defBody (mem 11 2), L2.defScope (mem 11 2), ["self", "is_right", "word"], ["self", "is_right"], ⟨2, 3, x_Reader_take, []⟩, []⟩
def x_Reader_skip : St := (.seq (.ifs (.val (.cmp .NotEq (.meth (.var 0) "here" .nil) (.var 1))) (.seq (.ret (.cst (.bl false))) .skip) .skip) (.seq (.expr (.meth (.var 0) "take" (.cons (.lam ["one"] (.cst (.bl true))) .nil))) (.seq (.ret (.cst (.bl true))) .skip)))
def dx_Reader_skip : Df := ⟨(.met "Reader" "skip"), "skip", "Reader.skip", L2.defArgs (mem 11 3), L2.defBody (mem 11 3), L2.defScope (mem 11 3), ["self", "word", "#"], ["self", "word"], ⟨2, 3, x_Reader_skip, []⟩, []⟩
def x_Reader_either : St := (.seq (.asg (.one 1) (.meth (.var 0) "both" .nil)) (.seq (.whl (.val (.meth (.var 0) "skip" (.cons (.cst (.str "or")) .nil))) (.seq (.asg (.one 1) (.tup (.cons (.cst (.str "or")) (.cons (.var 1) (.cons (.meth (.var 0) "both" .nil) .nil))))) .skip)) (.seq (.ret (.var 1)) .skip)))
def dx_Reader_either : Df := ⟨(.met "Reader" "either"), "either", "Reader.either", L2.defArgs (mem 11 4), L2.defBody (mem 11 4), L2.defScope (mem 11 4), ["self", "tree"], ["self"], ⟨1, 2, x_Reader_either, []⟩, []⟩
def x_Reader_both : St := (.seq (.asg (.one 1) (.meth (.var 0) "single" .nil)) (.seq (.whl (.val (.meth (.var 0) "skip" (.cons (.cst (.str "and")) .nil))) (.seq (.asg (.one 1) (.tup (.cons (.cst (.str "and")) (.cons (.var 1) (.cons (.meth (.var 0) "single" .nil) .nil))))) .skip)) (.seq (.ret (.var 1)) .skip)))
def dx_Reader_both : Df := ⟨(.met "Reader" "both"), "both", "Reader.both", L2.defArgs (mem 11 5), L2.defBody (mem 11 5), L2.defScope (mem 11 5), ["self", "tree"], ["self"], ⟨1, 2, x_Reader_both, []⟩, []⟩
def x_Reader_single : St := (.seq (.ifs (.val (.meth (.var 0) "skip" (.cons (.cst (.str "not")) .nil))) (.seq (.ret (.tup (.cons (.cst (.str "not")) (.cons (.meth (.var 0) "single" .nil) .nil)))) .skip) .skip) (.seq (.ifs (.val (.meth (.var 0) "skip" (.cons (.cst (.str "(")) .nil))) (.seq (.asg (.one 1) (.meth (.var 0) "either" .nil)) (.seq (.expr (.meth (.var 0) "take" (.cons (.lam ["word"] (.cmp .Eq (.var 0) (.cst (.str ")")))) .nil))) (.seq (.ret (.var 1)) .skip))) .skip) (.seq (.ifs (.and (.val (.attr (.var 0) "is_wide")) (.val (.meth (.var 0) "skip" (.cons (.cst (.str "was")) .nil)))) (.seq (.ret (.meth (.var 0) "compared" (.cons (.meth (.var 0) "take" (.cons (.cst (.fn "is_word")) .nil)) (.cons (.cst (.str "was")) (.cons (.cst (.str "was equal")) (.cons (.cst (.str "was less")) .nil)))))) .skip) .skip) (.seq (.ifs (.and (.val (.attr (.var 0) "is_wide")) (.val (.meth (.var 0) "skip" (.cons (.cst (.str "has")) .nil)))) (.seq (.ret (.meth (.var 0) "had" (.cons (.meth (.var 0) "take" (.cons (.cst (.fn "is_word")) .nil)) .nil))) .skip) .skip) (.seq (.ret (.meth (.var 0) "compared" (.cons (.meth (.var 0) "take" (.cons (.cst (.fn "is_word")) .nil)) (.cons (.cst (.str "name")) (.cons (.cst (.str "equal")) (.cons (.cst (.str "less")) .nil)))))) .skip)))))
def dx_Reader_single : Df := ⟨(.met "Reader" "single"), "single", "Reader.single", L2.defArgs (mem 11 6), L2.defBody (mem 11 6), L2.defScope (mem 11 6), ["self", "tree", "#"], ["self"], ⟨1, 3, x_Reader_single, []⟩, []⟩
def x_Reader_compared : St := (.seq (.ifs (.val (.meth (.var 0) "skip" (.cons (.cst (.str "=")) .nil))) (.seq (.ret (.tup (.cons (.var 3) (.cons (.var 1) (.cons (.bf .int (.cons (.meth (.var 0) "take" (.cons (.cst (.fn "is_digit")) .nil)) .nil)) .nil))))) .skip) .skip) (.seq (.ifs (.val (.meth (.var 0) "skip" (.cons (.cst (.str "<")) .nil))) (.seq (.ret (.tup (.cons (.var 4) (.cons (.var 1) (.cons (.bf .int (.cons (.meth (.var 0) "take" (.cons (.cst (.fn "is_digit")) .nil)) .nil)) .nil))))) .skip) .skip) (.seq (.ret (.tup (.cons (.var 2) (.cons (.var 1) .nil)))) .skip)))
def dx_Reader_compared : Df := ⟨(.met "Reader" "compared"), "compared", "Reader.compared", L2.defArgs (mem 11 7), L2.defBody (mem 11 7), L2.defScope (mem 11 7), ["self", "name", "alone", "equal", "less"], ["self", "name", "alone", "equal", "less"], ⟨5, 5, x_Reader_compared, []⟩, []⟩
def x_Reader_had : St := (.seq (.ret (.ite (.val (.call "is_word" (.cons (.meth (.var 0) "here" .nil) .nil))) (.tup (.cons (.cst (.str "has body")) (.cons (.var 1) (.cons (.meth (.var 0) "take" (.cons (.cst (.fn "is_word")) .nil)) .nil)))) (.tup (.cons (.cst (.str "has")) (.cons (.var 1) .nil))))) .skip)
def dx_Reader_had : Df := ⟨(.met "Reader" "had"), "had", "Reader.had", L2.defArgs (mem 11 8), L2.defBody (mem 11 8), L2.defScope (mem 11 8), ["self", "thing"], ["self", "thing"], ⟨2, 2, x_Reader_had, []⟩, []⟩
def x_Condition___init__ : St := (.seq (.fld (.var 0) "own_text" (.var 1)) (.seq (.fld (.var 0) "own_tree" (.var 2)) .skip))
def dx_Condition___init__ : Df := ⟨(.met "Condition" "__init__"), "__init__", "Condition.__init__", L2.defArgs (mem 16 0), L2.defBody (mem 16 0), L2.defScope (mem 16 0), ["self", "text", "tree"], ["self", "text", "tree"], ⟨3, 3, x_Condition___init__, []⟩, []⟩
def x_Condition_names : St := (.seq (.ret (.call "names_in" (.cons (.attr (.var 0) "own_tree") .nil))) .skip)
def dx_Condition_names : Df := ⟨(.prp "Condition" "names"), "names", "Condition.names", L2.defArgs (mem 16 1), L2.defBody (mem 16 1), L2.defScope (mem 16 1), ["self"], ["self"], ⟨1, 1, x_Condition_names, []⟩, []⟩
def x_Condition___call__ : St := (.seq (.ret (.bf .bool (.cons (.call "holds" (.cons (.attr (.var 0) "own_tree") (.cons (.var 1) .nil))) .nil))) .skip)
def dx_Condition___call__ : Df := ⟨(.met "Condition" "__call__"), "__call__", "Condition.__call__", L2.defArgs (mem 16 2), L2.defBody (mem 16 2), L2.defScope (mem 16 2), ["self", "values"], ["self", "values"], ⟨2, 2, x_Condition___call__, []⟩, []⟩
def x_Condition___str__ : St := (.seq (.ret (.bf .str (.cons (.attr (.var 0) "own_text") .nil))) .skip)
def dx_Condition___str__ : Df := ⟨(.met "Condition" "__str__"), "__str__", "Condition.__str__", L2.defArgs (mem 16 3), L2.defBody (mem 16 3), L2.defScope (mem 16 3), ["self"], ["self"], ⟨1, 1, x_Condition___str__, []⟩, []⟩
def x_Condition___eq__ : St := (.seq (.ret (.and (.bf .isinst (.cons (.var 1) (.cons (.cst (.cls "Condition")) .nil))) (.cmp .Eq (.attr (.var 0) "own_text") (.attr (.var 1) "own_text")))) .skip)
def dx_Condition___eq__ : Df := ⟨(.met "Condition" "__eq__"), "__eq__", "Condition.__eq__", L2.defArgs (mem 16 4), L2.defBody (mem 16 4), L2.defScope (mem 16 4), ["self", "other"], ["self", "other"], ⟨2, 2, x_Condition___eq__, []⟩, []⟩
def ds : List (Str × Df) := [("is_word", dx_is_word), ("is_digit", dx_is_digit), ("parse", dx_parse), ("leaves_in", dx_leaves_in), ("names_in", dx_names_in), ("holds", dx_holds), ("read_condition", dx_read_condition), ("_law_bag", dx__law_bag), ("_law_take", dx__law_take), ("_law_of", dx__law_of), ("_law_condition", dx__law_condition), ("_law_holds", dx__law_holds), ("_law_names_due", dx__law_names_due), ("law", dx_law), ("Reader.__init__", dx_Reader___init__), ("Reader.here", dx_Reader_here), ("Reader.take", dx_Reader_take), ("Reader.skip", dx_Reader_skip), ("Reader.either", dx_Reader_either), ("Reader.both", dx_Reader_both), ("Reader.single", dx_Reader_single), ("Reader.compared", dx_Reader_compared), ("Reader.had", dx_Reader_had), ("Condition.__init__", dx_Condition___init__), ("Condition.names", dx_Condition_names), ("Condition.__call__", dx_Condition___call__), ("Condition.__str__", dx_Condition___str__), ("Condition.__eq__", dx_Condition___eq__)]
def cls : List (Str × Cl) := [("BadCondition", { exc := some ["place"], flds := ["place"] }), ("Reader", { flds := ["words", "is_wide", "place"], props := [], meths := [("__init__", "Reader.__init__"), ("here", "Reader.here"), ("take", "Reader.take"), ("skip", "Reader.skip"), ("either", "Reader.either"), ("both", "Reader.both"), ("single", "Reader.single"), ("compared", "Reader.compared"), ("had", "Reader.had")] }), ("Condition", { flds := ["own_text", "own_tree"], props := [("names", "Condition.names")], meths := [("__init__", "Condition.__init__"), ("__call__", "Condition.__call__"), ("__str__", "Condition.__str__"), ("__eq__", "Condition.__eq__")] })]
def cons : List (Str × Ho) := [("RESERVED", .tup [(.str "define"), (.str "undef"), (.str "include"), (.str "body"), (.str "need"), (.str "stop"), (.str "if"), (.str "elif"), (.str "else"), (.str "endif"), (.str "not"), (.str "and"), (.str "or"), (.str "was"), (.str "has"), (.str "name"), (.str "header")])]
def t : Nm := ⟨["is_word", "is_digit", "parse", "leaves_in", "names_in", "holds", "read_condition", "_law_bag", "_law_take", "_law_of", "_law_condition", "_law_holds", "_law_names_due", "law"], ["BadCondition", "Reader", "Condition"], [("LETTERS", (.str "abcdefghijklmnopqrstuvwxyz")), ("DIGITS", (.str "0123456789")), ("MOST_LETTERS", (.int 8)), ("RESERVED", .con "RESERVED"), ("MOST_WORDS", (.int 60))], ["len", "isinstance", "int", "str", "bool", "abs", "min", "max", "all", "any", "repr", "dict", "dict", "range"], ["is_wide", "own_text", "own_tree", "place", "words"]⟩
def b : Bd := ⟨ds, cls, cons, t⟩
def es : List Er := [⟨"BadCondition", "place", "BadCondition.__init__", "a text that is no condition", 0, fun i => ([⟨5, 8, 5, 13⟩, ⟨5, 8, 5, 15⟩, ⟨5, 8, 5, 24⟩, ⟨5, 25, 5, 54⟩, ⟨5, 8, 5, 55⟩, ⟨5, 8, 5, 55⟩, ⟨6, 8, 6, 12⟩, ⟨6, 8, 6, 18⟩, ⟨6, 21, 6, 26⟩, ⟨6, 8, 6, 26⟩, ⟨4, 17, 4, 21⟩, ⟨4, 23, 4, 28⟩] : List Pos).getD i ⟨0, 0, 0, 0⟩⟩]
theorem pf : ∀ p ∈ ds, p.2.Pf t b.G := by
  unfold ds
  simp only [List.forall_mem_cons]
  refine ⟨?_, ?_, ?_, ?_, ?_, ?_, ?_, ?_, ?_, ?_, ?_, ?_, ?_, ?_, ?_, ?_, ?_, ?_, ?_, ?_, ?_, ?_, ?_, ?_, ?_, ?_, ?_, ?_, ?_⟩
  · exact ⟨⟨rfl, rfl, rfl, by decide +kernel, rfl, by decide +kernel, by decide +kernel⟩, rfl, rfl, fun _ _ _ _ _ _ _ us hl => match us, hl with | [_], _ => rfl, fun _ h => (nomatch h), by decide +kernel⟩
  · exact ⟨⟨rfl, rfl, rfl, by decide +kernel, rfl, by decide +kernel, by decide +kernel⟩, rfl, rfl, fun _ _ _ _ _ _ _ us hl => match us, hl with | [_], _ => rfl, fun _ h => (nomatch h), by decide +kernel⟩
  · exact ⟨⟨rfl, rfl, rfl, by decide +kernel, rfl, by decide +kernel, by decide +kernel⟩, rfl, rfl, fun _ _ _ _ _ _ _ us hl => match us, hl with | [_, _], _ => rfl, fun _ h => (nomatch h), by decide +kernel⟩
  · exact ⟨⟨rfl, rfl, rfl, by decide +kernel, rfl, by decide +kernel, by decide +kernel⟩, rfl, rfl, fun _ _ _ _ _ _ _ us hl => match us, hl with | [_], _ => rfl, fun _ h => (nomatch h), by decide +kernel⟩
  · exact ⟨⟨rfl, rfl, rfl, by decide +kernel, rfl, by decide +kernel, by decide +kernel⟩, rfl, rfl, fun _ _ _ _ _ _ _ us hl => match us, hl with | [_], _ => rfl, fun _ h => (nomatch h), by decide +kernel⟩
  · exact ⟨⟨rfl, rfl, rfl, by decide +kernel, rfl, by decide +kernel, by decide +kernel⟩, rfl, rfl, fun _ _ _ _ _ _ _ us hl => match us, hl with | [_, _], _ => rfl, fun _ h => (nomatch h), by decide +kernel⟩
  · exact ⟨⟨rfl, rfl, rfl, by decide +kernel, rfl, by decide +kernel, by decide +kernel⟩, rfl, rfl, fun _ _ _ _ _ _ _ us hl => match us, hl with | [_], _ => rfl, fun _ h => (nomatch h), by decide +kernel⟩
  · exact ⟨⟨rfl, rfl, rfl, by decide +kernel, rfl, by decide +kernel, by decide +kernel⟩, rfl, rfl, fun _ _ _ _ _ _ _ us hl => match us, hl with | [_, _], _ => rfl, fun _ h => (nomatch h), by decide +kernel⟩
  · exact ⟨⟨rfl, rfl, rfl, by decide +kernel, rfl, by decide +kernel, by decide +kernel⟩, rfl, rfl, fun _ _ _ _ _ _ _ us hl => match us, hl with | [_, _], _ => rfl, fun _ h => (nomatch h), by decide +kernel⟩
  · exact ⟨⟨rfl, rfl, rfl, by decide +kernel, rfl, by decide +kernel, by decide +kernel⟩, rfl, rfl, fun _ _ _ _ _ _ _ us hl => match us, hl with | [_, _], _ => rfl, fun _ h => (nomatch h), by decide +kernel⟩
  · exact ⟨⟨rfl, rfl, rfl, by decide +kernel, rfl, by decide +kernel, by decide +kernel⟩, rfl, rfl, fun _ _ _ _ _ _ _ us hl => match us, hl with | [_, _, _], _ => rfl, fun _ h => (nomatch h), by decide +kernel⟩
  · exact ⟨⟨rfl, rfl, rfl, by decide +kernel, rfl, by decide +kernel, by decide +kernel⟩, rfl, rfl, fun _ _ _ _ _ _ _ us hl => match us, hl with | [_, _], _ => rfl, fun _ h => (nomatch h), by decide +kernel⟩
  · exact ⟨⟨rfl, rfl, rfl, by decide +kernel, rfl, by decide +kernel, by decide +kernel⟩, rfl, rfl, fun _ _ _ _ _ _ _ us hl => match us, hl with | [_], _ => rfl, fun _ h => (nomatch h), by decide +kernel⟩
  · exact ⟨⟨rfl, rfl, rfl, by decide +kernel, rfl, by decide +kernel, by decide +kernel⟩, rfl, rfl, fun _ _ _ _ _ _ _ us hl => match us, hl with | [_], _ => rfl, fun _ h => (nomatch h), by decide +kernel⟩
  · exact ⟨⟨rfl, rfl, rfl, by decide +kernel, rfl, by decide +kernel, by decide +kernel⟩, rfl, rfl, fun _ _ _ _ _ _ _ us hl => match us, hl with | [_, _, _], _ => rfl, fun _ h => (nomatch h), by decide +kernel⟩
  · exact ⟨⟨rfl, rfl, rfl, by decide +kernel, rfl, by decide +kernel, by decide +kernel⟩, rfl, rfl, fun _ _ _ _ _ _ _ us hl => match us, hl with | [_], _ => rfl, fun _ h => (nomatch h), by decide +kernel⟩
  · exact ⟨⟨rfl, rfl, rfl, by decide +kernel, rfl, by decide +kernel, by decide +kernel⟩, rfl, rfl, fun _ _ _ _ _ _ _ us hl => match us, hl with | [_, _], _ => rfl, fun _ h => (nomatch h), by decide +kernel⟩
  · exact ⟨⟨rfl, rfl, rfl, by decide +kernel, rfl, by decide +kernel, by decide +kernel⟩, rfl, rfl, fun _ _ _ _ _ _ _ us hl => match us, hl with | [_, _], _ => rfl, fun _ h => (nomatch h), by decide +kernel⟩
  · exact ⟨⟨rfl, rfl, rfl, by decide +kernel, rfl, by decide +kernel, by decide +kernel⟩, rfl, rfl, fun _ _ _ _ _ _ _ us hl => match us, hl with | [_], _ => rfl, fun _ h => (nomatch h), by decide +kernel⟩
  · exact ⟨⟨rfl, rfl, rfl, by decide +kernel, rfl, by decide +kernel, by decide +kernel⟩, rfl, rfl, fun _ _ _ _ _ _ _ us hl => match us, hl with | [_], _ => rfl, fun _ h => (nomatch h), by decide +kernel⟩
  · exact ⟨⟨rfl, rfl, rfl, by decide +kernel, rfl, by decide +kernel, by decide +kernel⟩, rfl, rfl, fun _ _ _ _ _ _ _ us hl => match us, hl with | [_], _ => rfl, fun _ h => (nomatch h), by decide +kernel⟩
  · exact ⟨⟨rfl, rfl, rfl, by decide +kernel, rfl, by decide +kernel, by decide +kernel⟩, rfl, rfl, fun _ _ _ _ _ _ _ us hl => match us, hl with | [_, _, _, _, _], _ => rfl, fun _ h => (nomatch h), by decide +kernel⟩
  · exact ⟨⟨rfl, rfl, rfl, by decide +kernel, rfl, by decide +kernel, by decide +kernel⟩, rfl, rfl, fun _ _ _ _ _ _ _ us hl => match us, hl with | [_, _], _ => rfl, fun _ h => (nomatch h), by decide +kernel⟩
  · exact ⟨⟨rfl, rfl, rfl, by decide +kernel, rfl, by decide +kernel, by decide +kernel⟩, rfl, rfl, fun _ _ _ _ _ _ _ us hl => match us, hl with | [_, _, _], _ => rfl, fun _ h => (nomatch h), by decide +kernel⟩
  · exact ⟨⟨rfl, rfl, rfl, by decide +kernel, rfl, by decide +kernel, by decide +kernel⟩, rfl, rfl, fun _ _ _ _ _ _ _ us hl => match us, hl with | [_], _ => rfl, fun _ h => (nomatch h), by decide +kernel⟩
  · exact ⟨⟨rfl, rfl, rfl, by decide +kernel, rfl, by decide +kernel, by decide +kernel⟩, rfl, rfl, fun _ _ _ _ _ _ _ us hl => match us, hl with | [_, _], _ => rfl, fun _ h => (nomatch h), by decide +kernel⟩
  · exact ⟨⟨rfl, rfl, rfl, by decide +kernel, rfl, by decide +kernel, by decide +kernel⟩, rfl, rfl, fun _ _ _ _ _ _ _ us hl => match us, hl with | [_], _ => rfl, fun _ h => (nomatch h), by decide +kernel⟩
  · exact ⟨⟨rfl, rfl, rfl, by decide +kernel, rfl, by decide +kernel, by decide +kernel⟩, rfl, rfl, fun _ _ _ _ _ _ _ us hl => match us, hl with | [_, _], _ => rfl, fun _ h => (nomatch h), by decide +kernel⟩
  · intro p hp; cases hp
theorem pe : ∀ e ∈ es, e.Pf Pg := by
  unfold es
  simp only [List.forall_mem_cons]
  refine ⟨?_, ?_⟩
  · exact ⟨rfl, ⟨by decide +kernel, by decide +kernel, by decide⟩, ⟨by decide +kernel, by decide +kernel, by decide +kernel, by decide +kernel⟩, by decide +kernel, fun doc pm an cd ct cc u v => rfl⟩
  · intro e he; cases he
end Lw

set_option linter.all false
set_option autoImplicit false
set_option maxRecDepth 100000
set_option maxHeartbeats 0
namespace Lw
open PySem Dv
abbrev R : PySem.W.OpenRow := PySem.W.OpenLaw.row PySem.Challenge.rw_headerworlds_k03_conditions_that_hold
abbrev hk : PySem.W.Hook := hookZ 6 (b.ds.map (·.2)) es (txB b b.t Pg es)
def ob (s : PySem.W.SharedT) : AlZ := obZ 6 (b.ds.map (·.2)) es (txB b b.t Pg es) s
def names : List Str := ["BadCondition", "LETTERS", "DIGITS", "MOST_LETTERS", "RESERVED", "is_word", "is_digit", "MOST_WORDS", "Reader", "parse", "leaves_in", "names_in", "holds", "Condition", "read_condition", "_law_bag", "_law_take", "_law_of", "_law_condition", "_law_holds", "_law_names_due"]
theorem run (w : World) : HandSHeadRun.RunEq R (PySem.W.view R.prog [25]) hk ob 4000 names w := by
  intro os
  kernel_rfl
end Lw
open PySem PySem.W PySem.Calls PyProof.Rows Dv
theorem holds_of (run_ok : ∀ ns : List Int, ns.length ≤ 63 → ∃ n h', n ≤ 500 ∧ Dv.run Lw.b.G n "law" [.ref 0] [.rol (ns.map .int)] = some (.ok (.bl true) h')) : PySem.Challenge.rw_headerworlds_k03_conditions_that_hold.Holds := by
  w_on; o_law
  refine HandSHeadRun.head_any (r := OpenLaw.row PySem.Challenge.rw_headerworlds_k03_conditions_that_hold) (q := view (OpenLaw.row PySem.Challenge.rw_headerworlds_k03_conditions_that_hold).prog [25]) (H := Lw.hk) (ob := Lw.ob) (M := 4000) (loose := Lw.names) (d := HandSHeadRun.topDef (OpenLaw.row PySem.Challenge.rw_headerworlds_k03_conditions_that_hold).prog 25) (kwd := []) (fun s => Dv.obZ_eq s)
    (by kernel_rfl) (fun s => by kernel_rfl) Lw.run (by kernel_rfl) (by kernel_rfl) (by kernel_rfl) (by rfl) (by first | assumption | decide +kernel) (by decide +kernel) ⟨rfl, rfl, rfl, rfl, rfl, by decide +kernel⟩ ?hw ?hc
  case hw => w_witness2
  case hc =>
    exact Dv.walk_Z (l := PySem.Challenge.rw_headerworlds_k03_conditions_that_hold) (most := 63) (b := Lw.b) (es := Lw.es) rfl (by decide) (by kernel_rfl) (by kernel_rfl) ⟨_, rfl, rfl⟩ (by decide +kernel) (by decide +kernel) Lw.pe Lw.pf run_ok

set_option linter.all false
set_option autoImplicit false
set_option maxRecDepth 100000
set_option maxHeartbeats 1000000
namespace Lw
open PySem Dv Pl
theorem l03 : L03 b.G where
  rdr := { wrd := { word := by rfl, res := by rfl }, digit := by rfl, parse := by rfl, readC := by rfl, ini := by rfl, here := by rfl, take := by rfl, skip := by rfl, either := by rfl, both := by rfl, single := by rfl, cmpd := by rfl, mIni := by rfl, mHere := by rfl, mTake := by rfl, mSkip := by rfl, mEither := by rfl, mBoth := by rfl, mSingle := by rfl, mCmpd := by rfl, fW := by rfl, fI := by rfl, fP := by rfl, err := by rfl, cIni := by rfl, cStr := by rfl, cEq := by rfl, mcIni := by rfl, mcStr := by rfl, mcEq := by rfl, fT := by rfl, fTr := by rfl }
  drw := { bag := by rfl, take := by rfl, of_ := by rfl }
  cond := by rfl
  hol := by rfl
  lvs := by rfl
  nms := by rfl
  due := by rfl
  lh := by rfl
  call := by rfl
  cnam := by rfl
  mCall := by rfl
  pNam := by rfl
  nNam := by rfl
  inI := by rfl
  inL := by rfl
end Lw
open PySem
theorem PySem.Challenge.cw_headerworlds_k03_conditions_that_hold_holds : PySem.Challenge.rw_headerworlds_k03_conditions_that_hold.Holds :=
  holds_of fun ns _ => Pl.law03 Lw.l03 (by rfl) ns

