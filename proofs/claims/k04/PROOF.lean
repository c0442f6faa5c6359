import PyProof.Rows.All
import Wide.All
import OpenK.AllK
import Wide.FinOn
import HandS.ForMost
import HandS.ForExc
import HandS.IsInst
import HandS.RaiseMore
import HandS.Flow
import HandS.Property
import HandS.ExcField
import HandS.HeadWalk
import HandS.Defaults
import HandS.More
import HandS.SlotsOwn
import HandS.Style
import KE.KExcSuper
import HandS.HeadEnd
import HandS.HeadHook4
import HandS.Head2
import PySem.Challenge.RW_headerworlds_k04_names_made
set_option Elab.async false
set_option linter.all false
set_option autoImplicit false
set_option maxRecDepth 100000
namespace Dv
open PySem

/-- a value; ref: an object of the run's own; fn, cls: a def, a class of the text by its name; con: a constant object of the text by its path -/
inductive Vv where
  | non | bl (b : Bool) | int (i : Int) | str (x : Str) | ref (i : Nat) | fn (x : Str) | cls (x : Str) | ty (n : String) | con (x : Str)
  deriving DecidableEq, Inhabited
/-- an object: lists, lists that are read alone, tuples, dicts, instances, lambdas, caught errors, and what is gone -/
inductive Ho where
  | lst (xs : List Vv) | rol (xs : List Vv) | tup (xs : List Vv) | dct (kvs : List (L2.Key × Vv)) | ins (c : Str) (fs : List (Str × Vv)) | lam (k : Nat) (fv : List Vv) | exn (c : Str) (fs : List (Str × Vv)) | dead
  deriving Inhabited
abbrev VH := List Ho
abbrev Sl := List (Option Vv)
structure Xv where
  c : Str
  fs : List (Str × Vv)
inductive Re (α : Type) where
  | ok (a : α) (h : VH)
  | ex (x : Xv) (h : VH)
inductive Sr where
  | nx (s : Sl) (h : VH)
  | rt (v : Vv) (h : VH)
  | bk (s : Sl) (h : VH)
  | ct (s : Sl) (h : VH)
  | ex (x : Xv) (s : Sl) (h : VH)
def Rb {α β : Type} (m : Option (Re α)) (k : α → VH → Option (Re β)) : Option (Re β) := match m with
  | none => none
  | some (.ok a h) => k a h
  | some (.ex x h) => some (.ex x h)
def Sb {α : Type} (m : Option (Re α)) (s : Sl) (k : α → VH → Option Sr) : Option Sr := match m with
  | none => none
  | some (.ok a h) => k a h
  | some (.ex x h) => some (.ex x s h)
section
variable {α β : Type}
@[simp] theorem Rb_none (k : α → VH → Option (Re β)) : Rb none k = none := rfl
@[simp] theorem Rb_ok (a : α) (h : VH) (k : α → VH → Option (Re β)) : Rb (some (.ok a h)) k = k a h := rfl
@[simp] theorem Rb_ex (x : Xv) (h : VH) (k : α → VH → Option (Re β)) : Rb (some (.ex x h)) k = some (.ex x h) := rfl
@[simp] theorem Sb_none (s : Sl) (k : α → VH → Option Sr) : Sb none s k = none := rfl
@[simp] theorem Sb_ok (a : α) (h : VH) (s : Sl) (k : α → VH → Option Sr) : Sb (some (.ok a h)) s k = k a h := rfl
@[simp] theorem Sb_ex (x : Xv) (h : VH) (s : Sl) (k : α → VH → Option Sr) : Sb (some (.ex x h)) s k = some (.ex x s h) := rfl
end

/-- built-in functions and types that are called -/
inductive Bf where
  | len | isinst | int | str | bool | abs | min | max | all | any | repr | list | tuple | sum | sorted | dict
  deriving DecidableEq
/-- methods of built-in types -/
inductive Mf where
  | append | split | join | pop | extend | get | items | keys | values | setdefault | index | find | startswith | endswith
  deriving DecidableEq

/-- a call with keywords: how many values stand ahead, the names behind, the parameters that lack with their defaults; what each parameter gets: a given value, or a default -/
structure Kp where
  n : Nat
  ks : List Str
  ms : List (Str × Vv)
  arr : List (Nat ⊕ Nat)
  deriving DecidableEq
def arrG {α : Type} (z : α) (arr : List (Nat ⊕ Nat)) (vs ds : List α) : List α := arr.map fun
  | .inl i => vs.getD i z
  | .inr j => ds.getD j z
mutual
/-- expressions by slots -/
inductive Ex where
  | var (i : Nat)
  | cst (v : Vv)
  | bin (op : Operator) (a b : Ex)
  | neg (a : Ex)
  | cmp (op : CmpOp) (a b : Ex)
  | chain (op op' : CmpOp) (a b c : Ex)
  | and (a b : Ex)
  | or (a b : Ex)
  | not (a : Ex)
  | ite (c : Tt) (a b : Ex)
  | attr (a : Ex) (f : Str)
  | idx (a b : Ex)
  | slc (a lo hi : Ex)
  | noe
  | dnew
  | tup (es : Exs)
  | lst (es : Exs)
  | call (f : Str) (es : Exs)
  | mk (c : Str) (es : Exs)
  | meth (a : Ex) (m : Str) (es : Exs)
  | bf (f : Bf) (es : Exs)
  | bm (a : Ex) (m : Mf) (es : Exs)
  | cv (i : Nat) (es : Exs)
  | lc (e : Ex) (own : List Nat) (tg : List Nat) (it : It) (cd : Tt)
  | lam (k : Nat) (fv : List Nat)
  | callk (f : Str) (p : Kp) (es ks : Exs)
  | mkk (c : Str) (p : Kp) (es ks : Exs)
  | cmpo (op : CmpOp) (a b : Ex)
inductive Exs where
  | nil
  | cons (e : Ex) (es : Exs)
/-- tests -/
inductive Tt where
  | val (e : Ex)
  | yes
  | and (a b : Tt)
  | or (a b : Tt)
  | not (a : Tt)
/-- what is walked -/
inductive It where
  | val (e : Ex)
  | rng (es : Exs)
  | enm (e : Ex)
  | zp (a b : Ex)
end
/-- a target: one slot, or several -/
inductive Tg where
  | one (i : Nat)
  | many (is : List Nat)
/-- statements by slots; hnd, hnil: the clauses of a try -/
inductive St where
  | skip
  | expr (e : Ex)
  | ret (e : Ex)
  | seq (a b : St)
  | ifs (c : Tt) (a b : St)
  | asg (t : Tg) (e : Ex)
  | par (is : List Nat) (es : Exs)
  | fld (a : Ex) (f : Str) (e : Ex)
  | seti (a i e : Ex)
  | aug (i : Nat) (op : Operator) (e : Ex)
  | augf (a : Ex) (f : Str) (op : Operator) (e : Ex)
  | for_ (tg : List Nat) (it : It) (b : St)
  | whl (c : Tt) (b : St)
  | brk
  | cnt
  | rais (c : Str) (es : Exs)
  | try_ (b hs : St)
  | hnd (c : Str) (slot : Option Nat) (suite rest : St)
  | hnil

structure Fn where
  np : Nat
  ns : Nat
  body : St
  kw : List Kp
structure Cl where
  exc : Option (List Str) := none
  flds : List Str := []
  props : List (Str × Str) := []
  meths : List (Str × Str) := []
  deriving Inhabited
/-- what the text gives: its defs by qualified names, its classes, its constant objects, its lambdas (a key of fns each) -/
structure Tx where
  fns : Str → Option Fn
  cls : Str → Option Cl
  cons : Str → Option Ho
  lams : Nat → Option Str
  clsL : List Str
  clsI : List Str

/-- how own defs are called: at one less level, at two less -/
structure Orc where
  call : Str → List Vv → VH → Option (Re Vv)
  call2 : Str → List Vv → VH → Option (Re Vv)
  callk : Str → Kp → List Vv → VH → Option (Re Vv)
  callk2 : Str → Kp → List Vv → VH → Option (Re Vv)

section
variable (G : Tx)
/-- the object at a value -/
def obj (h : VH) : Vv → Option Ho
  | .ref i => h[i]?
  | .con x => G.cons x
  | _ => none
def seqOf (h : VH) (v : Vv) : Option (List Vv) := match obj G h v with
  | some (.lst xs) => some xs
  | some (.rol xs) => some xs
  | some (.tup xs) => some xs
  | _ => none
/-- the data at a value -/
def dat (h : VH) : Nat → Vv → Option PyData
  | _, .non => some .none
  | _, .bl b => some (.bool b)
  | _, .int i => some (.int i)
  | _, .str x => some (.str x)
  | n + 1, .ref i => match h[i]? with
    | some (.lst xs) => (xs.mapM (dat h n)).map .list
    | some (.tup xs) => (xs.mapM (dat h n)).map .tuple
    | _ => none
  | n + 1, .con x => match G.cons x with
    | some (.lst xs) => (xs.mapM (dat h n)).map .list
    | some (.tup xs) => (xs.mapM (dat h n)).map .tuple
    | _ => none
  | _, _ => none
def ok1 (v : Vv) (h : VH) : Option (Re Vv) := some (.ok v h)
/-- a new object -/
def new (o : Ho) (h : VH) : Option (Re Vv) := some (.ok (.ref h.length) (h ++ [o]))
def sz : Nat := 16777216
def binop (op : Operator) (x y : Vv) (h : VH) : Option (Re Vv) := match op, x, y with
  | .Add, .int i, .int j => ok1 (.int (i + j)) h
  | .Sub, .int i, .int j => ok1 (.int (i - j)) h
  | .Mult, .int i, .int j => if (-(2 ^ 64) < i ∧ i < 2 ^ 64) ∨ (-(2 ^ 64) < j ∧ j < 2 ^ 64) then ok1 (.int (i * j)) h else none
  | .FloorDiv, .int i, .int j => if 0 < j ∧ j < 1073741824 then ok1 (.int (i / j)) h else none
  | .Mod, .int i, .int j => if 0 < j then ok1 (.int (i % j)) h else none
  | .Pow, .int i, .int j => if 0 ≤ j ∧ j ≤ 1000000 ∧ i.natAbs < 2 ^ 64 then ok1 (.int (i ^ j.toNat)) h else none
  | .Add, .str a, .str b => if a.length + b.length ≤ sz then ok1 (.str (a ++ b)) h else none
  | .Add, .ref i, .ref j => (match h[i]?, h[j]? with
    | some (.lst a), some (.lst b) => if a.length + b.length ≤ sz then new (.lst (a ++ b)) h else none
    | _, _ => none)
  | .Mult, .ref i, .int k => (match h[i]? with
    | some (.lst a) => if -(2 ^ 63) ≤ k ∧ k < 2 ^ 63 ∧ a.length * k.toNat ≤ sz then new (.lst (List.replicate k.toNat a).flatten) h else none
    | _ => none)
  | _, _, _ => none
/-- flat: None, a bool, an int, a text -/
def flat : Vv → Bool
  | .non => true
  | .bl _ => true
  | .int _ => true
  | .str _ => true
  | _ => false
def feq : Vv → Vv → Bool
  | .non, .non => true
  | .bl a, .bl b => a == b
  | .bl a, .int b => (if a then 1 else 0) == b
  | .int a, .bl b => a == (if b then 1 else 0)
  | .int a, .int b => a == b
  | .str a, .str b => a == b
  | _, _ => false
def eqd (h : VH) (x y : Vv) : Option Bool := match dat G h 8 x, dat G h 8 y with
  | some d, some e => if SeqAt.shaped d && SeqAt.shaped e then some (PyData.eqv d e) else none
  | _, _ => none
def propOf (c f : Str) : Option Str := (G.cls c).bind fun k => if k.exc.isNone then k.props.lookup f else none
def methOf (c m : Str) : Option Str := (G.cls c).bind fun k => k.meths.lookup m
def cmpop (o : Orc) (op : CmpOp) (x y : Vv) (h : VH) : Option (Re Vv) := match op with
  | .Lt => (match x, y with | .int i, .int j => ok1 (.bl (decide (i < j))) h | _, _ => none)
  | .LtE => (match x, y with | .int i, .int j => ok1 (.bl (decide (i ≤ j))) h | _, _ => none)
  | .Gt => (match x, y with | .int i, .int j => ok1 (.bl (decide (j < i))) h | _, _ => none)
  | .GtE => (match x, y with | .int i, .int j => ok1 (.bl (decide (j ≤ i))) h | _, _ => none)
  | .Is => (match y with | .non => ok1 (.bl (decide (x = .non))) h | _ => none)
  | .IsNot => (match y with | .non => ok1 (.bl (!decide (x = .non))) h | _ => none)
  | .Eq => (eqd G h x y).bind fun b => ok1 (.bl b) h
  | .NotEq => (eqd G h x y).bind fun b => ok1 (.bl (!b)) h
  | .In => (match x, y with
    | .str a, .str b => ok1 (.bl (!(Builtin.Str.occurrences b a 0 b.length 1).isEmpty)) h
    | _, _ => (seqOf G h y).bind fun xs => if flat x && xs.all flat then ok1 (.bl (xs.any fun z => feq z x)) h else none)
  | .NotIn => (match x, y with
    | .str a, .str b => ok1 (.bl (!!(Builtin.Str.occurrences b a 0 b.length 1).isEmpty)) h
    | _, _ => (seqOf G h y).bind fun xs => if flat x && xs.all flat then ok1 (.bl (!(xs.any fun z => feq z x))) h else none)
def truth (x : Vv) (h : VH) : Option Bool := match x with
  | .non => some false
  | .bl b => some b
  | .int i => some (i != 0)
  | .str z => if z.length ≤ sz then some ((z.length : Int) != 0) else none
  | _ => (seqOf G h x).map fun xs => !xs.isEmpty
/-- a value's type: a built-in one, an own class -/
def tyv (h : VH) (x : Vv) : Option Vv := match x with
  | .non => some (.ty "NoneType")
  | .bl _ => some (.ty "bool")
  | .int _ => some (.ty "int")
  | .str _ => some (.ty "str")
  | _ => match obj G h x with
    | some (.lst _) => some (.ty "list")
    | some (.rol _) => some (.ty "list")
    | some (.tup _) => some (.ty "tuple")
    | some (.dct _) => some (.ty "dict")
    | some (.ins c _) => if G.clsI.contains c then some (.cls c) else none
    | _ => none
/-- may a value stand on the right of an own ==: no instance of a class below -/
def sideOk (h : VH) (c : Str) (y : Vv) : Bool := match tyv G h y with
  | some (.ty _) => true
  | some (.cls d) => decide (d = c)
  | _ => false
def blR (neg : Bool) : Option (Re Vv) → Option (Re Vv)
  | some (.ok (.bl b) h) => some (.ok (.bl (if neg then !b else b)) h)
  | _ => none
/-- ==, != where an instance may stand on the left: by its own __eq__ -/
def cmpoF (o : Orc) (op : CmpOp) (x y : Vv) (h : VH) : Option (Re Vv) := match obj G h x with
  | some (.ins c _) => if sideOk G h c y && G.clsI.contains c then (match methOf G c "__eq__", op with
    | some k, .Eq => blR false (o.call k [x, y] h)
    | some k, .NotEq => blR true (o.call2 k [x, y] h)
    | _, _ => none) else none
  | _ => cmpop G o op x y h
/-- the place that an index of any sign means -/
def place (n : Nat) (i : Int) : Option Nat := if 0 ≤ i then (if i < n then some i.toNat else none) else if -(n : Int) ≤ i then some (i + n).toNat else none
def index (x y : Vv) (h : VH) : Option (Re Vv) := match x, y with
  | .str z, .int i => if z.length ≤ sz then ((place z.cps.toList.length i).bind fun j => z.cps.toList[j]?).bind fun c => ok1 (.str ⟨#[c]⟩) h else none
  | _, .int i => (seqOf G h x).bind fun xs => ((place xs.length i).bind fun j => xs[j]?).bind fun v => ok1 v h
  | _, _ => none
/-- a bound of a slice: none if left out -/
def bnd (e : Ex) (x : Vv) : Option (Option Int) := match e, x with
  | .noe, _ => some none
  | _, .int i => some (some i)
  | _, _ => none
def cut {α : Type} (xs : List α) (lo hi : Option Int) : List α := (xs.drop (HT.sIx xs.length 0 lo)).take (HT.sIx xs.length xs.length hi - HT.sIx xs.length 0 lo)
def slice (x : Vv) (a b : Option Int) (h : VH) : Option (Re Vv) := match x with
  | .str z => if z.length ≤ sz then ok1 (.str ⟨(cut z.cps.toList a b).toArray⟩) h else none
  | .ref i => (match h[i]? with
    | some (.lst xs) => new (.lst (cut xs a b)) h
    | _ => none)
  | _ => none
/-- a field that the class itself does not have: of instances, of own errors -/
def fldOf (c f : Str) : Bool := match G.cls c with
  | some k => k.exc.isNone && k.flds.contains f
  | none => false
def fldX (c f : Str) : Bool := match G.cls c with
  | some k => k.exc.isSome && k.flds.contains f
  | none => false
def getattr (o : Orc) (x : Vv) (f : Str) (h : VH) : Option (Re Vv) := match obj G h x with
  | some (.ins c fs) => if fldOf G c f then (fs.lookup f).bind fun v => ok1 v h
    else (match propOf G c f with
      | some k => (match o.call2 k [x] h with
        | some (.ok v h1) => some (.ok v h1)
        | _ => none)
      | none => none)
  | some (.exn c fs) => if fldX G c f then (fs.lookup f).bind fun v => ok1 v h else none
  | _ => none
/-- is a value of the first type one of the second (types that are asked here) -/
def isiT (t c : Vv) : Option Bool := match t, c with
  | .ty n, .ty m => if ["int", "bool", "str", "list", "tuple", "dict"].contains m then some (n == m || (n == "bool" && m == "int")) else none
  | .ty _, .cls d => if G.clsL.contains d then some false else none
  | .cls _, .ty m => if ["int", "bool", "str", "list", "tuple", "dict"].contains m then some false else none
  | .cls a, .cls d => if G.clsL.contains d then some (decide (a = d)) else none
  | _, _ => none
def isinst (x c : Vv) (h : VH) : Option Bool := (tyv G h x).bind fun t => isiT G t c
def bools : List Vv → Option (List Bool)
  | [] => some []
  | .bl b :: r => (bools r).map (b :: ·)
  | _ :: _ => none
def txts : List Vv → Option (List Str)
  | [] => some []
  | .str b :: r => (txts r).map (b :: ·)
  | _ :: _ => none
def callb (f : Bf) (vs : List Vv) (h : VH) : Option (Re Vv) := match f, vs with
  | .len, [.str z] => if z.length ≤ sz then ok1 (.int z.length) h else none
  | .len, [x] => (seqOf G h x).bind fun xs => ok1 (.int xs.length) h
  | .isinst, [x, c] => (isinst G x c h).bind fun b => ok1 (.bl b) h
  | .int, [.int i] => ok1 (.int i) h
  | .int, [.bl b] => ok1 (.int (if b then 1 else 0)) h
  | .int, [.str z] => (PySem.intText? z).bind fun n => if z.length ≤ 640 then ok1 (.int n) h else none
  | .str, [.int i] => if i.natAbs.log2 < 1920 then ok1 (.str (toString i)) h else none
  | .str, [.str z] => ok1 (.str z) h
  | .bool, [.int i] => ok1 (.bl (i != 0)) h
  | .bool, [.bl b] => ok1 (.bl b) h
  | .abs, [.int i] => ok1 (.int (if i < 0 then -i else i)) h
  | .min, [.int i, .int j] => ok1 (.int (if j < i then j else i)) h
  | .max, [.int i, .int j] => ok1 (.int (if j > i then j else i)) h
  | .all, [.ref i] => (match h[i]? with | some (.lst xs) => (bools xs).bind fun bs => ok1 (.bl (bs.all id)) h | _ => none)
  | .any, [.ref i] => (match h[i]? with | some (.lst xs) => (bools xs).bind fun bs => ok1 (.bl (bs.any id)) h | _ => none)
  | .repr, [x] => (dat G h 8 x).bind fun d => if d.showable && !d.hasDict && decide (d.depth ≤ 60) && decide (d.shown.length ≤ sz) then ok1 (.str d.shown) h else none
  | _, _ => none
def bmeth (x : Vv) (m : Mf) (vs : List Vv) (h : VH) : Option (Re Vv) := match m, x, vs with
  | .append, .ref i, [v] => (match h[i]? with
    | some (.lst xs) => if xs.length < sz then some (.ok .non (h.set i (.lst (xs ++ [v])))) else none
    | _ => none)
  | .split, .str a, [.str b] => if (b.length == 0) = false ∧ a.length + 2 ≤ sz then new (.lst ((Txt.split a b).map .str)) h else none
  | .join, .str a, [y] => (seqOf G h y).bind fun xs => (txts xs).bind fun ys => if (ys.map (·.length)).sum + ys.length * a.length ≤ sz then ok1 (.str (Txt.join a ys)) h else none
  | _, _, _ => none
/-- is the receiver, when the method is looked up, of the type that the method is of -/
def brecv (x : Vv) (m : Mf) (h : VH) : Bool := match m, x with
  | .append, .ref i => (match h[i]? with | some (.lst _) => true | _ => false)
  | .split, .str _ => true
  | .join, .str _ => true
  | _, _ => false
/-- the slots of a target set from an item -/
def setT (t : List Nat) (s : Sl) (vs : List Vv) : Option Sl := match t, vs with
  | [], [] => some s
  | i :: r, v :: rv => setT r (s.set i (some v)) rv
  | _, _ => none
def wipeV (s : Sl) : List Nat → Sl
  | [] => s
  | v :: vs => (wipeV s vs).set v none
/-- a walk's items, each the values of the target's slots, and what must stand meanwhile -/
structure Src where
  items : List (List Vv)
  at_ : Option Vv
  seq : List Vv
  lst : Bool
  prs : Bool
/-- an item that is a tuple, for several slots -/
def untup (h : VH) : List Vv → Option (List (List Vv))
  | [] => some []
  | v :: r => match obj G h v with
    | some (.tup xs) => (untup h r).map (xs :: ·)
    | _ => none
def isL (h : VH) (v : Vv) : Bool := match obj G h v with
  | some (.lst _) => true
  | some (.rol _) => true
  | _ => false
def keeps (S : Src) (h : VH) : Bool := match S.at_ with
  | none => true
  | some v => decide (seqOf G h v = some S.seq) && (isL G h v == S.lst) && (!S.prs || decide (untup G h S.seq = some S.items))
/-- what a for walks, of a value and a number of slots -/
def srcOf (n : Nat) (x : Vv) (h : VH) : Option Src := if n = 1 then (match x with
  | .str z => some ⟨z.cps.toList.map fun c => [.str ⟨#[c]⟩], none, [], false, false⟩
  | _ => (seqOf G h x).map fun xs => ⟨xs.map fun v => [v], some x, xs, isL G h x, false⟩)
  else (seqOf G h x).bind fun xs => (untup G h xs).map fun its => ⟨its, some x, xs, isL G h x, true⟩
def rngItems (a b c : Int) : List (List Vv) := (List.range (if 0 < c then ((b - a + c - 1) / c).toNat else ((a - b - c - 1) / (-c)).toNat)).map fun (i : Nat) => [.int (a + (i : Int) * c)]
def rngOf (vs : List Vv) : Option Src := match vs with
  | [.int b] => if -(2 ^ 62) ≤ b ∧ b < 2 ^ 62 then some ⟨rngItems 0 b 1, none, [], false, false⟩ else none
  | [.int a, .int b] => if -(2 ^ 62) ≤ a ∧ a < 2 ^ 62 ∧ -(2 ^ 62) ≤ b ∧ b < 2 ^ 62 then some ⟨rngItems a b 1, none, [], false, false⟩ else none
  | [.int a, .int b, .int c] => if -(2 ^ 62) ≤ a ∧ a < 2 ^ 62 ∧ -(2 ^ 62) ≤ b ∧ b < 2 ^ 62 ∧ c = -1 then some ⟨rngItems a b c, none, [], false, false⟩ else none
  | _ => none
def enumOf (x : Vv) (h : VH) : Option Src := match x with
  | .ref i => (match h[i]? with
    | some (.lst xs) => some ⟨xs.mapIdx fun j v => [.int j, v], some x, xs, true, false⟩
    | some (.rol xs) => some ⟨xs.mapIdx fun j v => [.int j, v], some x, xs, true, false⟩
    | _ => none)
  | _ => none

/-- a comprehension's walk: the new list lies at d; nothing may be raised in it -/
def lcF (e : Sl → VH → Option (Re Vv)) (cd : Sl → VH → Option (Re Bool)) (s : Sl) (tg : List Nat) (kp : VH → Bool) (d : Nat) : List (List Vv) → VH → Option (Re Vv)
  | [], h => if kp h then some (.ok (.ref d) h) else none
  | it :: r, h => if kp h then (match setT tg s it with
    | some s1 => (match cd s1 h with
      | some (.ok true h1) => (match e s1 h1 with
        | some (.ok v h2) => (match h2[d]? with
          | some (.lst acc) => if acc.length < sz then lcF e cd s tg kp d r (h2.set d (.lst (acc ++ [v]))) else none
          | _ => none)
        | _ => none)
      | some (.ok false h1) => lcF e cd s tg kp d r h1
      | _ => none)
    | none => none) else none
mutual
/-- an expression: its value and the objects behind it, or the error -/
def evE (o : Orc) : Ex → Sl → VH → Option (Re Vv)
  | .var i, s, h => match s[i]? with
    | some (some v) => some (.ok v h)
    | _ => none
  | .cst v, _, h => some (.ok v h)
  | .bin op a b, s, h => Rb (evE o a s h) fun x h1 => Rb (evE o b s h1) fun y h2 => binop op x y h2
  | .neg a, s, h => Rb (evE o a s h) fun x h1 => match x with
    | .int i => some (.ok (.int (-i)) h1)
    | _ => none
  | .cmp op a b, s, h => Rb (evE o a s h) fun x h1 => Rb (evE o b s h1) fun y h2 => cmpop G o op x y h2
  | .chain op op' a b c, s, h => Rb (evE o a s h) fun x h1 => Rb (evE o b s h1) fun y h2 => Rb (cmpop G o op x y h2) fun z h3 => match z with
    | .bl true => Rb (evE o c s h3) fun w h4 => cmpop G o op' y w h4
    | .bl false => some (.ok (.bl false) h3)
    | _ => none
  | .and a b, s, h => Rb (evE o a s h) fun x h1 => match truth G x h1 with
    | some true => evE o b s h1
    | some false => some (.ok x h1)
    | none => none
  | .or a b, s, h => Rb (evE o a s h) fun x h1 => match truth G x h1 with
    | some true => some (.ok x h1)
    | some false => evE o b s h1
    | none => none
  | .not a, s, h => Rb (evE o a s h) fun x h1 => match truth G x h1 with
    | some b => some (.ok (.bl (!b)) h1)
    | none => none
  | .ite c a b, s, h => Rb (evT o c s h) fun k h1 => match k with
    | true => evE o a s h1
    | false => evE o b s h1
  | .attr a f, s, h => Rb (evE o a s h) fun x h1 => getattr G o x f h1
  | .idx a b, s, h => Rb (evE o a s h) fun x h1 => Rb (evE o b s h1) fun y h2 => index G x y h2
  | .slc a lo hi, s, h => Rb (evE o a s h) fun x h1 => Rb (evE o lo s h1) fun y h2 => match bnd lo y with
    | none => none
    | some i => Rb (evE o hi s h2) fun z h3 => match bnd hi z with
      | none => none
      | some j => slice x i j h3
  | .noe, _, h => some (.ok .non h)
  | .dnew, _, h => new (.dct []) h
  | .tup es, s, h => Rb (evEs o es s h) fun vs h1 => if vs.length ≤ sz then new (.tup vs) h1 else none
  | .lst es, s, h => Rb (evEs o es s h) fun vs h1 => if vs.length ≤ sz then new (.lst vs) h1 else none
  | .call f es, s, h => Rb (evEs o es s h) fun vs h1 => o.call f vs h1
  | .mk c es, s, h => Rb (evEs o es s h) fun vs h1 => match methOf G c "__init__" with
    | some k => Rb (o.call2 k (.ref h1.length :: vs) (h1 ++ [.ins c []])) fun r h2 => match r with
      | .non => some (.ok (.ref h1.length) h2)
      | _ => none
    | none => none
  | .meth a m es, s, h => Rb (evE o a s h) fun x h1 => match obj G h1 x with
    | some (.ins c fs) => (match methOf G c m, fs.lookup m with
      | some k, none => Rb (evEs o es s h1) fun vs h2 => o.call k (x :: vs) h2
      | _, _ => none)
    | _ => none
  | .bf f es, s, h => Rb (evEs o es s h) fun vs h1 => callb G f vs h1
  | .bm a m es, s, h => Rb (evE o a s h) fun x h1 => if brecv x m h1 then Rb (evEs o es s h1) fun vs h2 => bmeth G x m vs h2 else none
  | .cv i es, s, h => match s[i]? with
    | some (some (.fn f)) => if (G.fns f).isSome then Rb (evEs o es s h) fun vs h1 => o.call f vs h1 else none
    | some (some (.ref j)) => (match h[j]? with
      | some (.lam k fv) => (match G.lams k with
        | some f => Rb (evEs o es s h) fun vs h1 => o.call f (vs ++ fv) h1
        | none => none)
      | _ => none)
    | _ => none
  | .lc e own tg it cd, s, h => Rb (evI o it tg.length s h) fun S h1 => lcF (evE o e) (evT o cd) (wipeV s own) tg (keeps G S) h1.length S.items (h1 ++ [.lst []])
  | .callk f p es ks, s, h => Rb (evEs o es s h) fun vs h1 => Rb (evEs o ks s h1) fun ws h2 => if vs.length = p.n ∧ ws.length = p.ks.length then o.callk f p (vs ++ ws) h2 else none
  | .mkk c p es ks, s, h => Rb (evEs o es s h) fun vs h1 => Rb (evEs o ks s h1) fun ws h2 => match methOf G c "__init__" with
    | some k => if vs.length + 1 = p.n ∧ ws.length = p.ks.length then Rb (o.callk2 k p (.ref h2.length :: (vs ++ ws)) (h2 ++ [.ins c []])) fun r h3 => match r with
      | .non => some (.ok (.ref h2.length) h3)
      | _ => none else none
    | none => none
  | .cmpo op a b, s, h => Rb (evE o a s h) fun x h1 => Rb (evE o b s h1) fun y h2 => cmpoF G o op x y h2
  | .lam k fv, s, h => (fv.mapM fun i => (s[i]?).join).bind fun vs => new (.lam k vs) h
/-- a test: and, or, not jump; of any other value its truth -/
def evT (o : Orc) : Tt → Sl → VH → Option (Re Bool)
  | .val e, s, h => Rb (evE o e s h) fun x h1 => match truth G x h1 with
    | some b => some (.ok b h1)
    | none => none
  | .yes, _, h => some (.ok true h)
  | .and a b, s, h => Rb (evT o a s h) fun k h1 => match k with
    | true => evT o b s h1
    | false => some (.ok false h1)
  | .or a b, s, h => Rb (evT o a s h) fun k h1 => match k with
    | true => some (.ok true h1)
    | false => evT o b s h1
  | .not a, s, h => Rb (evT o a s h) fun k h1 => some (.ok (!k) h1)
/-- what a for walks -/
def evI (o : Orc) : It → Nat → Sl → VH → Option (Re Src)
  | .rng es, n, s, h => if n = 1 then Rb (evEs o es s h) fun vs h1 => (rngOf vs).map fun S => .ok S h1 else none
  | .enm e, n, s, h => if n = 2 then Rb (evE o e s h) fun x h1 => (enumOf x h1).map fun S => .ok S h1 else none
  | .zp _ _, _, _, _ => none
  | .val e, n, s, h => Rb (evE o e s h) fun x h1 => (srcOf G n x h1).map fun S => .ok S h1
def evEs (o : Orc) : Exs → Sl → VH → Option (Re (List Vv))
  | .nil, _, h => some (.ok [] h)
  | .cons e es, s, h => Rb (evE o e s h) fun v h1 => Rb (evEs o es s h1) fun vs h2 => some (.ok (v :: vs) h2)
end

/-- a for's walk -/
def forF (b : Sl → VH → Option Sr) (tg : List Nat) (kp : VH → Bool) : List (List Vv) → Sl → VH → Option Sr
  | [], s, h => if kp h then some (.nx s h) else none
  | it :: r, s, h => if kp h then (match setT tg s it with
    | some s1 => (match b s1 h with
      | some (.nx s2 h2) => forF b tg kp r s2 h2
      | some (.ct s2 h2) => forF b tg kp r s2 h2
      | some (.bk s2 h2) => some (.nx s2 h2)
      | x => x)
    | none => none) else none
/-- a while's turns, at most n -/
def whlF (c : Sl → VH → Option (Re Bool)) (b : Sl → VH → Option Sr) : Nat → Sl → VH → Option Sr
  | 0, _, _ => none
  | n + 1, s, h => Sb (c s h) s fun k h1 => match k with
    | true => (match b s h1 with
      | some (.nx s2 h2) => whlF c b n s2 h2
      | some (.ct s2 h2) => whlF c b n s2 h2
      | some (.bk s2 h2) => some (.nx s2 h2)
      | x => x)
    | false => some (.nx s h1)
def putF (f : Str) (v : Vv) : List (Str × Vv) → List (Str × Vv)
  | [] => [(f, v)]
  | (g, x) :: r => if g = f then (g, v) :: r else (g, x) :: putF f v r
def sthen (m : Option Sr) (k : Sl → VH → Option Sr) : Option Sr := match m with
  | some (.nx s h) => k s h
  | x => x
/-- the slot of a clause's name, set and cleared -/
def inS (slot : Option Nat) (k : Nat) (s : Sl) : Sl := match slot with
  | some i => s.set i (some (.ref k))
  | none => s
def outS (slot : Option Nat) (s : Sl) : Sl := match slot with
  | some i => s.set i none
  | none => s
/-- most turns of a while -/
def turns : Nat := 1000000
/-- a statement -/
def evS (o : Orc) : St → Sl → VH → Option Sr
  | .skip, s, h => some (.nx s h)
  | .expr e, s, h => Sb (evE G o e s h) s fun _ h1 => some (.nx s h1)
  | .ret e, s, h => Sb (evE G o e s h) s fun v h1 => some (.rt v h1)
  | .seq a b, s, h => sthen (evS o a s h) fun s1 h1 => evS o b s1 h1
  | .ifs c a b, s, h => Sb (evT G o c s h) s fun k h1 => match k with
    | true => evS o a s h1
    | false => evS o b s h1
  | .asg t e, s, h => Sb (evE G o e s h) s fun v h1 => match t with
    | .one i => some (.nx (s.set i (some v)) h1)
    | .many is => if is.length = 1 then none else (match obj G h1 v with
      | some (.tup xs) => (setT is s xs).map fun s1 => .nx s1 h1
      | _ => none)
  | .par is es, s, h => Sb (evEs G o es s h) s fun vs h1 => (setT is s vs).map fun s1 => .nx s1 h1
  | .fld a f e, s, h => Sb (evE G o e s h) s fun v h1 => Sb (evE G o a s h1) s fun x h2 => match x with
    | .ref i => (match h2[i]? with
      | some (.ins c fs) => if fs.length < 900 ∧ fldOf G c f = true then some (.nx s (h2.set i (.ins c (putF f v fs)))) else none
      | _ => none)
    | _ => none
  | .seti a i e, s, h => Sb (evE G o e s h) s fun v h1 => Sb (evE G o a s h1) s fun x h2 => Sb (evE G o i s h2) s fun y h3 => match x, y with
    | .ref p, .int k => (match h3[p]? with
      | some (.lst xs) => (match place xs.length k with
        | some j => some (.nx s (h3.set p (.lst (xs.set j v))))
        | none => none)
      | _ => none)
    | _, _ => none
  | .aug i op e, s, h => match s[i]? with
    | some (some x) => Sb (evE G o e s h) s fun y h1 => (match op, x, y with
      | .Add, .int a, .int b => some (.nx (s.set i (some (.int (a + b)))) h1)
      | .Sub, .int a, .int b => some (.nx (s.set i (some (.int (a - b)))) h1)
      | _, _, _ => none)
    | _ => none
  | .augf a f op e, s, h => Sb (evE G o a s h) s fun x h1 => match x with
    | .ref i => (match h1[i]? with
      | some (.ins c fs) => if fldOf G c f then (match fs.lookup f with
        | some v => Sb (evE G o e s h1) s fun y h2 => (match op, v, y, h2[i]? with
          | .Add, .int p, .int q, some (.ins c2 fs2) => if fs2.length < 900 ∧ c2 = c then some (.nx s (h2.set i (.ins c2 (putF f (.int (p + q)) fs2)))) else none
          | _, _, _, _ => none)
        | none => none) else none
      | _ => none)
    | _ => none
  | .for_ tg it b, s, h => Sb (evI G o it tg.length s h) s fun S h1 => forF (evS o b) tg (keeps G S) S.items s h1
  | .whl c b, s, h => whlF (evT G o c) (evS o b) turns s h
  | .brk, s, h => some (.bk s h)
  | .cnt, s, h => some (.ct s h)
  | .rais c es, s, h => Sb (evEs G o es s h) s fun vs h1 => match (G.cls c).bind (·.exc) with
    | some fs => if fs.length = vs.length then some (.ex ⟨c, fs.zip vs⟩ s h1) else none
    | none => none
  | .try_ b hs, s, h => match evS o b s h with
    | some (.ex x s1 h1) => evH o hs x s1 h1
    | r => r
  | .hnd _ _ _ _, _, _ => none
  | .hnil, _, _ => none
where
  /-- the clauses of a try at an error: the error lies at a new place while its suite runs -/
  evH (o : Orc) : St → Xv → Sl → VH → Option Sr
    | .hnd c slot su r, x, s, h => if ((G.cls x.c).bind (·.exc)).isSome = false then none else if x.c = c then
        (match evS o su (inS slot h.length s) (h ++ [.exn x.c x.fs]) with
          | some (.nx s2 h2) => some (.nx (outS slot s2) (h2.set h.length .dead))
          | some (.rt v h2) => some (.rt v (h2.set h.length .dead))
          | some (.bk s2 h2) => some (.bk (outS slot s2) (h2.set h.length .dead))
          | some (.ct s2 h2) => some (.ct (outS slot s2) (h2.set h.length .dead))
          | _ => none)
      else evH o r x s h
    | .hnil, x, s, h => some (.ex x s h)
    | _, _, _, _ => none
/-- a def's run -/
def bodyF (o : Orc) (f : Fn) (vs : List Vv) (h : VH) : Option (Re Vv) := if vs.length = f.np then
    (match evS G o f.body (vs.map some ++ List.replicate (f.ns - f.np) none) h with
    | some (.nx _ h1) => some (.ok .non h1)
    | some (.rt v h1) => some (.ok v h1)
    | some (.ex x _ h1) => some (.ex x h1)
    | _ => none)
  else none
/-- a call by position: of a def without keyword-only parameters -/
def callP (g : Str → List Vv → VH → Option (Re Vv)) (f : Str) (vs : List Vv) (h : VH) : Option (Re Vv) := match G.fns f with
  | some fi => if fi.kw.isEmpty then g f vs h else none
  | none => none
/-- a call by one of a def's forms -/
def callK (g : Str → List Vv → VH → Option (Re Vv)) (f : Str) (p : Kp) (vs : List Vv) (h : VH) : Option (Re Vv) := match G.fns f with
  | some fi => if p ∈ fi.kw then g f (arrG .non p.arr vs (p.ms.map (·.2))) h else none
  | none => none
def orcOf (g1 g2 : Str → List Vv → VH → Option (Re Vv)) : Orc := ⟨callP G g1, callP G g2, callK G g1, callK G g2⟩
def run : Nat → Str → List Vv → VH → Option (Re Vv)
  | 0, _, _, _ => none
  | 1, _, _, _ => none
  | n + 2, f, vs, h => match G.fns f with
    | some fd => bodyF G (orcOf G (run (n + 1)) (run n)) fd vs h
    | none => none
end
end Dv

set_option linter.all false
set_option autoImplicit false
set_option maxRecDepth 100000
set_option maxHeartbeats 1000000
namespace Dv
open PySem L2 PySem.Spec PyProof.Rows

/-- where an object of the run's own lies -/
abbrev Mp := Nat → Option Addr
/-- where the text's own defs, classes, constants lie -/
structure Ad where
  fa : Str → Addr
  ca : Str → Addr
  ka : Str → Addr
def R (D : Ad) (m : Mp) : Vv → V → Prop
  | .non, x => x = .non
  | .bl b, x => x = .bl b
  | .int i, x => x = .int i
  | .str z, x => x = .str z
  | .ref i, x => ∃ a, m i = some a ∧ x = .ref a
  | .fn f, x => x = .ref (D.fa f)
  | .cls c, x => x = .ref (D.ca c)
  | .ty n, x => x = .ty n
  | .con k, x => x = .ref (D.ka k)
def Le (m m' : Mp) : Prop := ∀ i a, m i = some a → m' i = some a
theorem Le.refl (m : Mp) : Le m m := fun _ _ h => h
theorem Le.trans {a b c : Mp} (h : Le a b) (k : Le b c) : Le a c := fun i x e => k i x (h i x e)
theorem R.mono {D : Ad} {m m' : Mp} {v : Vv} {x : V} (r : R D m v x) (l : Le m m') : R D m' v x := by
  cases v with
  | ref i => obtain ⟨a, h, e⟩ := r; exact ⟨a, l _ _ h, e⟩
  | _ => exact r
abbrev RL (D : Ad) (m : Mp) : List Vv → List V → Prop := Paired (R D m)
abbrev RF (D : Ad) (m : Mp) : List (Str × Vv) → List (Str × V) → Prop := Paired fun p q => p.1 = q.1 ∧ R D m p.2 q.2
abbrev RK (D : Ad) (m : Mp) : List (Key × Vv) → List (Key × V) → Prop := Paired fun p q => p.1 = q.1 ∧ R D m p.2 q.2
theorem RL.mono {D : Ad} {m m' : Mp} {xs : List Vv} {ys : List V} (r : RL D m xs ys) (l : Le m m') : RL D m' xs ys := Paired.mapP r fun _ _ z => R.mono z l
theorem RF.mono {D : Ad} {m m' : Mp} {xs : List (Str × Vv)} {ys : List (Str × V)} (r : RF D m xs ys) (l : Le m m') : RF D m' xs ys := Paired.mapP r fun _ _ z => ⟨z.1, R.mono z.2 l⟩
theorem RK.mono {D : Ad} {m m' : Mp} {xs : List (Key × Vv)} {ys : List (Key × V)} (r : RK D m xs ys) (l : Le m m') : RK D m' xs ys := Paired.mapP r fun _ _ z => ⟨z.1, R.mono z.2 l⟩
section
variable {α β : Type} {F : α → β → Prop}
theorem Paired.get : ∀ {xs : List α} {ys : List β} {i : Nat} {x : α}, Paired F xs ys → xs[i]? = some x → ∃ y, ys[i]? = some y ∧ F x y
  | _, _, _, _, .nil, e => by simp at e
  | _, _, 0, _, .cons r _, e => by simp at e; subst e; exact ⟨_, rfl, r⟩
  | _, _, i + 1, _, .cons _ t, e => by
    obtain ⟨u, h1, h2⟩ := Paired.get (i := i) t (by simpa using e)
    exact ⟨u, by simpa using h1, h2⟩
theorem Paired.app : ∀ {xs xs' : List α} {ys ys' : List β}, Paired F xs ys → Paired F xs' ys' → Paired F (xs ++ xs') (ys ++ ys')
  | _, _, _, _, .nil, s => s
  | _, _, _, _, .cons r t, s => .cons r (Paired.app t s)
theorem Paired.setP {x : α} {y : β} (r : F x y) : ∀ {xs : List α} {ys : List β} (i : Nat), Paired F xs ys → Paired F (xs.set i x) (ys.set i y)
  | _, _, _, .nil => .nil
  | _, _, 0, .cons _ t => .cons r t
  | _, _, i + 1, .cons q t => .cons q (Paired.setP r i t)
theorem Paired.takeP : ∀ {xs : List α} {ys : List β} (n : Nat), Paired F xs ys → Paired F (xs.take n) (ys.take n)
  | _, _, 0, _ => .nil
  | _, _, _ + 1, .nil => .nil
  | _, _, n + 1, .cons r t => .cons r (Paired.takeP n t)
theorem Paired.dropP : ∀ {xs : List α} {ys : List β} (n : Nat), Paired F xs ys → Paired F (xs.drop n) (ys.drop n)
  | _, _, 0, r => r
  | _, _, _ + 1, .nil => .nil
  | _, _, n + 1, .cons _ t => Paired.dropP n t
theorem Paired.rep {xs : List α} {ys : List β} (r : Paired F xs ys) : ∀ n : Nat, Paired F (List.replicate n xs).flatten (List.replicate n ys).flatten
  | 0 => .nil
  | n + 1 => by
    rw [List.replicate_succ, List.replicate_succ, List.flatten_cons, List.flatten_cons]
    exact Paired.app r (Paired.rep r n)
theorem Paired.mapL {γ δ : Type} {F' : γ → δ → Prop} {f : α → γ} {g : β → δ} : ∀ {xs : List α} {ys : List β}, Paired F xs ys → (∀ x y, F x y → F' (f x) (g y)) → Paired F' (xs.map f) (ys.map g)
  | _, _, .nil, _ => .nil
  | _, _, .cons r t, k => .cons (k _ _ r) (Paired.mapL t k)
theorem Paired.len {xs : List α} {ys : List β} (r : Paired F xs ys) : xs.length = ys.length := PySem.Paired.length r
end
theorem RF.lookup {D : Ad} {m : Mp} {f : Str} : ∀ {fs : List (Str × Vv)} {gs : List (Str × V)}, RF D m fs gs → ∀ {v}, fs.lookup f = some v → ∃ x, gs.lookup f = some x ∧ R D m v x
  | _, _, .nil, _, e => by simp at e
  | (a, v) :: fs, (b, x) :: gs, .cons ⟨h1, h2⟩ t, w, e => by
    dsimp only at h1 h2
    subst h1
    rw [List.lookup_cons] at e ⊢
    cases q : f == a with
    | true => rw [q] at e; simp only [Option.some.injEq] at e; subst e; exact ⟨x, rfl, h2⟩
    | false => rw [q] at e; exact RF.lookup t e
theorem RF.lookup_none {D : Ad} {m : Mp} {f : Str} : ∀ {fs : List (Str × Vv)} {gs : List (Str × V)}, RF D m fs gs → fs.lookup f = none → gs.lookup f = none
  | _, _, .nil, e => rfl
  | (a, v) :: fs, (b, x) :: gs, .cons ⟨h1, h2⟩ t, e => by
    dsimp only at h1 h2
    subst h1
    rw [List.lookup_cons] at e ⊢
    cases q : f == a with
    | true => rw [q] at e; cases e
    | false => rw [q] at e; exact RF.lookup_none t e

/-- an object that is tracked, ours alone -/
def own : Ho → Bool
  | .lst _ => true
  | .tup _ => true
  | .dct _ => true
  | .ins _ _ => true
  | _ => false
abbrev Ax := Option (Nat × Addr × Value × Option Addr)
section
variable (D : Ad) (K : PySem.W.Frag) (ax : Ax)
def ObjR (m : Mp) (H : Hp) (a : Addr) : Ho → Prop
  | .lst xs => ∃ ys, H a = some (.lst ys) ∧ RL D m xs ys
  | .tup xs => ∃ ys, H a = some (.tup ys) ∧ RL D m xs ys
  | .dct kvs => ∃ ws, H a = some (.dK ws) ∧ RK D m kvs ws
  | .ins c fs => ∃ dx gs, H a = some (.ins (D.ca c) dx gs) ∧ RF D m fs gs
  | .rol xs => ∃ ys, RL D m xs ys ∧ ((∃ o, H a = some (.frz o (.lst ys))) ∨ ∀ H', SqL K H' a ys)
  | .exn c fs => ∃ k dd gs, ax = some (k, a, .ref (D.ca c), some dd) ∧ H dd = some (.xd gs) ∧ RF D m fs gs
  | .lam _ _ => False
  | .dead => True
structure Sim (m : Mp) (h : VH) (H : Hp) : Prop where
  at_ : ∀ i o, h[i]? = some o → ∃ a, m i = some a ∧ ObjR D K ax m H a o
  dom : ∀ i a, m i = some a → i < h.length
  inj : ∀ i j o o' a, h[i]? = some o → h[j]? = some o' → own o = true → own o' = true → m i = some a → m j = some a → i = j
  one : ∀ i c fs, h[i]? = some (.exn c fs) → ∃ z, ax = some (i, z)
end
section
variable {D : Ad} {K : PySem.W.Frag} {ax : Ax} {m m' : Mp} {h : VH} {H : Hp} {a : Addr} {o : Ho}
theorem ObjR.mono (r : ObjR D K ax m H a o) (l : Le m m') : ObjR D K ax m' H a o := by
  cases o with
  | lst xs => obtain ⟨ys, h1, h2⟩ := r; exact ⟨ys, h1, h2.mono l⟩
  | tup xs => obtain ⟨ys, h1, h2⟩ := r; exact ⟨ys, h1, h2.mono l⟩
  | rol xs => obtain ⟨ys, h1, h2⟩ := r; exact ⟨ys, h1.mono l, h2⟩
  | dct xs => obtain ⟨ys, h1, h2⟩ := r; exact ⟨ys, h1, h2.mono l⟩
  | ins c fs => obtain ⟨dx, gs, h1, h2⟩ := r; exact ⟨dx, gs, h1, h2.mono l⟩
  | exn c fs => obtain ⟨k, dd, gs, h1, h2, h3⟩ := r; exact ⟨k, dd, gs, h1, h2, h3.mono l⟩
  | lam k fv => exact r.elim
  | dead => trivial
theorem ObjR.trk (r : ObjR D K ax m H a o) (ow : own o = true) : ∃ u, H a = some u ∧ (∀ x y, u ≠ .frz x y) ∧ ∀ g, u ≠ .xd g := by
  cases o with
  | lst xs => obtain ⟨ys, h1, h2⟩ := r; exact ⟨_, h1, (by intro _ _ z; cases z), (by intro _ z; cases z)⟩
  | tup xs => obtain ⟨ys, h1, h2⟩ := r; exact ⟨_, h1, (by intro _ _ z; cases z), (by intro _ z; cases z)⟩
  | dct xs => obtain ⟨ys, h1, h2⟩ := r; exact ⟨_, h1, (by intro _ _ z; cases z), (by intro _ z; cases z)⟩
  | ins c fs => obtain ⟨dx, gs, h1, h2⟩ := r; exact ⟨_, h1, (by intro _ _ z; cases z), (by intro _ z; cases z)⟩
  | rol xs => cases ow
  | exn c fs => cases ow
  | lam k fv => cases ow
  | dead => cases ow
/-- an object stays if H is changed at another address alone (for those that are ours), at no frozen one, at no error's dict -/
theorem ObjR.stay {p : Addr} {u : HO} (r : ObjR D K ax m H a o) (ha : own o = true → a ≠ p) (hf : ∀ x y, H p ≠ some (.frz x y)) (hx : ∀ g, H p ≠ some (.xd g)) : ObjR D K ax m (upd H p u) a o := by
  cases o with
  | lst xs => obtain ⟨ys, h1, h2⟩ := r; exact ⟨ys, by rw [upd_ne (ha rfl)]; exact h1, h2⟩
  | tup xs => obtain ⟨ys, h1, h2⟩ := r; exact ⟨ys, by rw [upd_ne (ha rfl)]; exact h1, h2⟩
  | dct xs => obtain ⟨ys, h1, h2⟩ := r; exact ⟨ys, by rw [upd_ne (ha rfl)]; exact h1, h2⟩
  | ins c fs => obtain ⟨dx, gs, h1, h2⟩ := r; exact ⟨dx, gs, by rw [upd_ne (ha rfl)]; exact h1, h2⟩
  | rol xs =>
    obtain ⟨ys, h1, h2⟩ := r
    refine ⟨ys, h1, ?_⟩
    rcases h2 with ⟨x, h2⟩ | h2
    · exact .inl ⟨x, by rw [upd_ne (fun z => hf x _ (by rw [← z]; exact h2))]; exact h2⟩
    · exact .inr h2
  | exn c fs =>
    obtain ⟨k, dd, gs, h1, h2, h3⟩ := r
    exact ⟨k, dd, gs, h1, by rw [upd_ne (fun z => hx gs (by rw [← z]; exact h2))]; exact h2, h3⟩
  | lam k fv => exact r.elim
  | dead => trivial
def ext (m : Mp) (n : Nat) (p : Addr) : Mp := fun i => if i = n then some p else m i
theorem Sim.le (s : Sim D K ax m h H) (p : Addr) : Le m (ext m h.length p) := fun i a e => by
  have := s.dom i a e
  unfold ext
  rw [if_neg (by omega)]
  exact e
theorem ext_same {n : Nat} {p : Addr} : ext m n p n = some p := if_pos rfl
theorem Sim.ref (s : Sim D K ax m h H) {i : Nat} {x : V} (r : R D m (.ref i) x) (e : h[i]? = some o) : ∃ a, x = .ref a ∧ m i = some a ∧ ObjR D K ax m H a o := by
  obtain ⟨a, h1, h2⟩ := r
  obtain ⟨b, h3, h4⟩ := s.at_ i o e
  rw [h1] at h3
  cases h3
  exact ⟨a, h2, h1, h4⟩
/-- H changed at a new address that no object of ours has -/
theorem Sim.fresh {p : Addr} {u : HO} (s : Sim D K ax m h H) (hp : H p = none) : Sim D K ax m h (upd H p u) :=
  ⟨fun i o e => by
    obtain ⟨a, h1, h2⟩ := s.at_ i o e
    refine ⟨a, h1, h2.stay (fun ow z => ?_) (fun x y z => by rw [hp] at z; cases z) fun g z => by rw [hp] at z; cases z⟩
    obtain ⟨v, h3, _⟩ := h2.trk ow
    rw [z, hp] at h3
    exact (nomatch h3), s.dom, s.inj, s.one⟩
/-- a new object -/
theorem Sim.new {p : Addr} {u : HO} (s : Sim D K ax m h H) (hp : H p = none) (ho : ObjR D K ax (ext m h.length p) (upd H p u) p o) (hx : ∀ c fs, o ≠ .exn c fs := by intro _ _ z; cases z) : Sim D K ax (ext m h.length p) (h ++ [o]) (upd H p u) := by
  have s1 := s.fresh (u := u) hp
  refine ⟨fun i o' e => ?_, fun i a e => ?_, fun i j o1 o2 a h1 h2 w1 w2 e1 e2 => ?_, fun i c fs e => ?_⟩
  rotate_right
  · by_cases hi : i < h.length
    · rw [List.getElem?_append_left hi] at e
      exact s.one i c fs e
    · have hi2 : i = h.length := by
        have := (List.getElem?_eq_some_iff.mp e).1
        rw [List.length_append, List.length_singleton] at this
        omega
      subst hi2
      rw [List.getElem?_append_right (Nat.le_refl _), Nat.sub_self] at e
      cases e
      exact (hx c fs rfl).elim
  · by_cases hi : i < h.length
    · rw [List.getElem?_append_left hi] at e
      obtain ⟨a, h1, h2⟩ := s1.at_ i o' e
      exact ⟨a, s.le p _ _ h1, h2.mono (s.le p)⟩
    · have hi2 : i = h.length := by
        have := (List.getElem?_eq_some_iff.mp e).1
        rw [List.length_append, List.length_singleton] at this
        omega
      subst hi2
      rw [List.getElem?_append_right (Nat.le_refl _), Nat.sub_self] at e
      cases e
      exact ⟨p, ext_same, ho⟩
  · unfold ext at e
    rw [List.length_append, List.length_singleton]
    by_cases hi : i = h.length
    · omega
    · rw [if_neg hi] at e
      have := s.dom i a e
      omega
  · have old : ∀ {i : Nat} {o : Ho} {a : Addr}, i < h.length → (h ++ [o])[i]? = h[i]? := fun hi => List.getElem?_append_left hi
    have key : ∀ {i : Nat} {o1 : Ho}, (h ++ [o])[i]? = some o1 → i ≠ h.length → h[i]? = some o1 ∧ ∀ a, ext m h.length p i = some a → m i = some a := fun {i o1} e hn => by
      have := (List.getElem?_eq_some_iff.mp e).1
      rw [List.length_append, List.length_singleton] at this
      rw [List.getElem?_append_left (by omega)] at e
      exact ⟨e, fun a q => by unfold ext at q; rw [if_neg hn] at q; exact q⟩
    have far : ∀ {i : Nat} {o1 : Ho} {a : Addr}, h[i]? = some o1 → own o1 = true → m i = some a → a ≠ p := fun {i o1 a} e w q z => by
      obtain ⟨b, h3, h4⟩ := s.at_ i o1 e
      rw [q] at h3; cases h3
      obtain ⟨v, h5, _⟩ := h4.trk w
      rw [z, hp] at h5; cases h5
    by_cases hi : i = h.length
    · by_cases hj : j = h.length
      · rw [hi, hj]
      · obtain ⟨k1, k2⟩ := key h2 hj
        subst hi
        rw [ext_same] at e1
        cases e1
        exact absurd rfl (far k1 w2 (k2 _ e2))
    · obtain ⟨k1, k2⟩ := key h1 hi
      by_cases hj : j = h.length
      · subst hj
        rw [ext_same] at e2
        cases e2
        exact absurd rfl (far k1 w1 (k2 _ e1))
      · obtain ⟨k3, k4⟩ := key h2 hj
        exact s.inj i j o1 o2 a k1 k3 w1 w2 (k2 _ e1) (k4 _ e2)
/-- one of ours is changed -/
theorem Sim.set {i : Nat} {o' : Ho} {u : HO} (s : Sim D K ax m h H) (e : h[i]? = some o) (w : own o = true) (w' : own o' = true) (hm : m i = some a) (ho : ObjR D K ax m (upd H a u) a o') : Sim D K ax m (h.set i o') (upd H a u) := by
  obtain ⟨b, h1, h2⟩ := s.at_ i o e
  rw [hm] at h1; cases h1
  obtain ⟨v, h3, h5, h6⟩ := h2.trk w
  have hl := (List.getElem?_eq_some_iff.mp e).1
  have old : ∀ {j : Nat} {o1 : Ho}, j ≠ i → (h.set i o')[j]? = some o1 → h[j]? = some o1 := fun hj q => by rw [List.getElem?_set_ne (Ne.symm hj)] at q; exact q
  have ow : ∀ {j : Nat} {o1 : Ho}, (h.set i o')[j]? = some o1 → own o1 = true → ∃ o2, h[j]? = some o2 ∧ own o2 = true := fun {j o1} q w1 => by
    by_cases hj : j = i
    · subst hj; exact ⟨o, e, w⟩
    · exact ⟨o1, old hj q, w1⟩
  refine ⟨fun j o1 q => ?_, fun j c q => by rw [List.length_set]; exact s.dom j c q, fun j k o1 o2 c q1 q2 w1 w2 e1 e2 => ?_, fun j c fs q => ?_⟩
  rotate_right
  · by_cases hj : j = i
    · subst hj
      rw [List.getElem?_set_self hl] at q
      cases q
      cases w'
    · exact s.one j c fs (old hj q)
  · by_cases hj : j = i
    · subst hj
      rw [List.getElem?_set_self hl] at q
      cases q
      exact ⟨a, hm, ho⟩
    · have q' := old hj q
      obtain ⟨c, k1, k2⟩ := s.at_ j o1 q'
      refine ⟨c, k1, k2.stay (fun w1 z => hj ?_) (fun x y z => h5 x y ?_) fun g z => h6 g ?_⟩
      · subst z; exact s.inj j i o1 o c q' e w1 w k1 hm
      · rw [h3] at z; exact Option.some.inj z
      · rw [h3] at z; exact Option.some.inj z
  · obtain ⟨o3, k1, k2⟩ := ow q1 w1
    obtain ⟨o4, k3, k4⟩ := ow q2 w2
    exact s.inj j k o3 o4 c k1 k3 k2 k4 e1 e2
end
end Dv

set_option linter.all false
set_option autoImplicit false
set_option maxRecDepth 100000
set_option maxHeartbeats 1000000
namespace Dv
open PySem L2 PySem.Spec PyProof.Rows

/-- a law's text: what it gives, where it lies, the written part, the module's names -/
structure Wd where
  G : Tx
  D : Ad
  K : PySem.W.Frag
  mg : Str → Option Value
/-- the constant objects -/
structure Wd.ConOk (w : Wd) : Prop where
  only : ∀ k o, w.G.cons k = some o → ∃ xs ys, o = .tup xs ∧ (∀ H, SqT w.K H (w.D.ka k) ys) ∧ ∀ m, RL w.D m xs ys
section
variable {w : Wd} {ax : Ax} {m m' : Mp} {h h' : VH} {H : Hp} {v : Vv} {x : V}
abbrev SimW (w : Wd) (ax : Ax) (m : Mp) (h : VH) (H : Hp) : Prop := Sim w.D w.K ax m h H
theorem seq_ok (g : w.ConOk) (s : SimW w ax m h H) (r : R w.D m v x) {xs : List Vv} (e : seqOf w.G h v = some xs) : ∃ p ys, x = .ref p ∧ (SqL w.K H p ys ∨ SqT w.K H p ys) ∧ RL w.D m xs ys := by
  unfold seqOf at e
  cases v with
  | ref i =>
    simp only [obj] at e
    cases q : h[i]? with
    | none => rw [q] at e; cases e
    | some o =>
      rw [q] at e
      obtain ⟨a, rfl, h1, h2⟩ := s.ref r q
      cases o with
      | lst ys => cases e; obtain ⟨zs, h3, h4⟩ := h2; exact ⟨a, zs, rfl, .inl (SqL.of h3), h4⟩
      | tup ys => cases e; obtain ⟨zs, h3, h4⟩ := h2; exact ⟨a, zs, rfl, .inr (SqT.of h3), h4⟩
      | rol ys =>
        cases e
        obtain ⟨zs, h3, h4⟩ := h2
        refine ⟨a, zs, rfl, .inl ?_, h3⟩
        rcases h4 with ⟨o, h4⟩ | h4
        · exact .inl (.inr ⟨o, h4⟩)
        · exact h4 H
      | _ => cases e
  | con k =>
    simp only [obj] at e
    cases q : w.G.cons k with
    | none => rw [q] at e; cases e
    | some o =>
      rw [q] at e
      obtain ⟨zs, ys, rfl, h1, h2⟩ := g.only k o q
      cases e
      exact ⟨_, ys, r, .inr (h1 H), h2 m⟩
  | _ => cases e
theorem mapM_ok {α : Type} {f : Vv → Option PyData} (k : ∀ v x d, R w.D m v x → f v = some d → Dp w.K H x d) : ∀ {xs : List Vv} {ys : List V} {ds : List PyData}, RL w.D m xs ys → xs.mapM f = some ds → DpAll w.K H ys ds
  | _, _, ds, .nil, e => by
    cases ds with
    | nil => exact .nil
    | cons d r => simp at e
  | v :: xs, y :: ys, ds, .cons r t, e => by
    rw [List.mapM_cons] at e
    cases q : f v with
    | none => rw [q] at e; simp at e
    | some d =>
      rw [q] at e
      cases q2 : xs.mapM f with
      | none => rw [q2] at e; simp at e
      | some dr =>
        rw [q2] at e
        simp at e
        subst e
        exact .cons (k v y d r q) (mapM_ok (α := α) k t q2)
theorem dat_ok (g : w.ConOk) (s : SimW w ax m h H) : ∀ (n : Nat) {v : Vv} {x : V} {d : PyData}, R w.D m v x → dat w.G h n v = some d → Dp w.K H x d
  | 0, v, x, d, r, e => by
    cases v with
    | non => cases (show x = .non from r); simp only [dat, Option.some.injEq] at e; subst e; exact .non
    | bl b => cases (show x = .bl b from r); simp only [dat, Option.some.injEq] at e; subst e; exact .bl b
    | int i => cases (show x = .int i from r); simp only [dat, Option.some.injEq] at e; subst e; exact .int i
    | str z => cases (show x = .str z from r); simp only [dat, Option.some.injEq] at e; subst e; exact .str z
    | _ => simp [dat] at e
  | n + 1, v, x, d, r, e => by
    cases v with
    | non => cases (show x = .non from r); simp only [dat, Option.some.injEq] at e; subst e; exact .non
    | bl b => cases (show x = .bl b from r); simp only [dat, Option.some.injEq] at e; subst e; exact .bl b
    | int i => cases (show x = .int i from r); simp only [dat, Option.some.injEq] at e; subst e; exact .int i
    | str z => cases (show x = .str z from r); simp only [dat, Option.some.injEq] at e; subst e; exact .str z
    | ref i =>
      simp only [dat] at e
      cases q : h[i]? with
      | none => rw [q] at e; cases e
      | some o =>
        rw [q] at e
        obtain ⟨a, rfl, h1, h2⟩ := s.ref r q
        cases o with
        | lst ys =>
          obtain ⟨zs, h3, h4⟩ := h2
          obtain ⟨ds, h5, rfl⟩ := Option.map_eq_some_iff.mp e
          exact .lst (SqL.of h3) (mapM_ok (α := Unit) (fun v x d r e => dat_ok g s n r e) h4 h5)
        | tup ys =>
          obtain ⟨zs, h3, h4⟩ := h2
          obtain ⟨ds, h5, rfl⟩ := Option.map_eq_some_iff.mp e
          exact .tup (SqT.of h3) (mapM_ok (α := Unit) (fun v x d r e => dat_ok g s n r e) h4 h5)
        | _ => cases e
    | con k =>
      simp only [dat] at e
      cases q : w.G.cons k with
      | none => rw [q] at e; cases e
      | some o =>
        rw [q] at e
        obtain ⟨zs, ys, rfl, h1, h2⟩ := g.only k o q
        obtain ⟨ds, h5, rfl⟩ := Option.map_eq_some_iff.mp e
        cases (show x = .ref (w.D.ka k) from r)
        exact .tup (h1 H) (mapM_ok (α := Unit) (fun v x d r e => dat_ok g s n r e) (h2 m) h5)
    | _ => simp [dat] at e
end

/-- what is wanted of a value behind -/
def PV (w : Wd) (ax : Ax) (m : Mp) (Q : VK) (v : Vv) (h' : VH) : Prop := ∀ m' H' x, Le m m' → SimW w ax m' h' H' → R w.D m' v x → Q x H'
/-- .. of a result: what is related to it, an error -/
def PRr {α β : Type} (w : Wd) (ax : Ax) (rel : Mp → α → β → Prop) (E : XK) (m : Mp) (Q : β → Hp → Prop) : Re α → Prop
  | .ok v h' => ∀ m' H' x, Le m m' → SimW w ax m' h' H' → rel m' v x → Q x H'
  | .ex x h' => ∀ m' H' dd gs, Le m m' → SimW w ax m' h' H' → H' dd = some (.xd gs) → RF w.D m' x.fs gs → E (.ref (w.D.ca x.c)) (some dd) H'
theorem PRr.mono {α β : Type} {w : Wd} {ax : Ax} {rel : Mp → α → β → Prop} {E : XK} {m m1 : Mp} {Q : β → Hp → Prop} {r : Re α} (p : PRr w ax rel E m Q r) (l : Le m m1) : PRr w ax rel E m1 Q r := by
  cases r with
  | ok v h => exact fun m' H' x k => p m' H' x (l.trans k)
  | ex x h => exact fun m' H' dd gs k => p m' H' dd gs (l.trans k)
theorem sz_eq : sz = sizeLine := by rw [sizeLine_eq]; rfl
section
variable {w : Wd} {ax : Ax} {m m' : Mp} {h h' : VH} {H : Hp} {v : Vv} {x : V} {Q : VK} {o : Ho}
theorem PV.here (p : PV w ax m Q v h) (s : SimW w ax m h H) (r : R w.D m v x) : Q x H := p m H x (Le.refl m) s r
/-- a new object laid -/
theorem PV.new (k : PV w ax m Q (.ref h.length) (h ++ [o])) (s : SimW w ax m h H) {p : Addr} {u : HO} (hp : H p = none) (ho : ObjR w.D w.K ax (ext m h.length p) (upd H p u) p o) (hx : ∀ c fs, o ≠ .exn c fs := by intro _ _ z; cases z) : Q (.ref p) (upd H p u) :=
  k _ _ _ (s.le p) (s.new hp ho hx) ⟨p, ext_same, rfl⟩
end

/-- a two-place operator by its result -/
def rB (w : Wd) (ax : Ax) (f : Vv → Vv → VH → Option (Re Vv)) : R2 := fun x y H Q => ∃ m h u v c h', R w.D m u x ∧ R w.D m v y ∧ SimW w ax m h H ∧ f u v h = some (.ok c h') ∧ PV w ax m Q c h'
section
variable {w : Wd} {ax : Ax} {X : Cx}
theorem op_bin (hK : X.K = w.K) (op : Operator) : OpR X (PySem.binaryOp op) (rB w ax (binop op)) := by
  intro pins s σ H x y v u Q I rx ry ⟨m, h, a, b, c, h', ra, rb, sm, e, post⟩
  unfold binop at e
  split at e
  · rename_i i j
    cases e; cases ra; cases rb
    exact op_add pins s σ H _ _ v u Q I rx ry ⟨i, j, rfl, rfl, post.here sm rfl⟩
  · rename_i i j
    cases e; cases ra; cases rb
    exact op_sub pins s σ H _ _ v u Q I rx ry ⟨i, j, rfl, rfl, post.here sm rfl⟩
  · rename_i i j
    split at e
    · rename_i hc
      cases e; cases ra; cases rb
      exact op_mul pins s σ H _ _ v u Q I rx ry ⟨i, j, rfl, rfl, hc, post.here sm rfl⟩
    · cases e
  · rename_i i j
    split at e
    · rename_i hc
      cases e; cases ra; cases rb
      exact op_fdiv pins s σ H _ _ v u Q I rx ry ⟨i, j, rfl, rfl, hc, post.here sm rfl⟩
    · cases e
  · rename_i i j
    split at e
    · rename_i hc
      cases e; cases ra; cases rb
      exact op_mod pins s σ H _ _ v u Q I rx ry ⟨i, j, rfl, rfl, hc, post.here sm rfl⟩
    · cases e
  · rename_i i j
    split at e
    · rename_i hc
      cases e; cases ra; cases rb
      exact op_pow pins s σ H _ _ v u Q I rx ry ⟨i, j, rfl, rfl, hc, post.here sm rfl⟩
    · cases e
  · rename_i i j
    split at e
    · rename_i hc
      cases e; cases ra; cases rb
      exact op_add_str pins s σ H _ _ v u Q I rx ry ⟨i, j, rfl, rfl, by rw [← sz_eq]; exact hc, post.here sm rfl⟩
    · cases e
  · rename_i i j
    split at e
    · rename_i xs ys q1 q2
      split at e
      · rename_i hc
        cases e
        obtain ⟨p1, rfl, _, zs, h1, h2⟩ := sm.ref ra q1
        obtain ⟨p2, rfl, _, ws, h3, h4⟩ := sm.ref rb q2
        refine op_cat pins s σ H _ _ v u Q I rx ry ⟨p1, p2, zs, ws, rfl, rfl, h1, h3, ?_, fun p hp => post.new sm hp ⟨_, upd_same, Paired.app (h2.mono (sm.le p)) (h4.mono (sm.le p))⟩⟩
        rw [← h2.length, ← h4.length, ← sz_eq]
        exact hc
      · cases e
    · cases e
  · rename_i i k
    split at e
    · rename_i xs q1
      split at e
      · rename_i hc
        cases e
        cases rb
        obtain ⟨p1, rfl, _, zs, h1, h2⟩ := sm.ref ra q1
        refine op_rep pins s σ H _ _ v u Q I rx ry ⟨p1, k, zs, rfl, rfl, h1, hc.1, hc.2.1, ?_, fun p hp => post.new sm hp ⟨_, upd_same, Paired.rep (h2.mono (sm.le p)) _⟩⟩
        rw [← h2.length, ← sz_eq]
        exact hc.2.2
      · cases e
    · cases e
  · cases e
/-- flat values -/
theorem flat_V {D : Ad} {m : Mp} {v : Vv} {x : V} (r : R D m v x) (f : flat v = true) : flatV x = true := by
  cases v with
  | non => cases r; rfl
  | bl b => cases r; rfl
  | int i => cases r; rfl
  | str z => cases r; rfl
  | _ => cases f
theorem flat_all {D : Ad} {m : Mp} : ∀ {vs : List Vv} {xs : List V}, RL D m vs xs → vs.all flat = true → xs.all flatV = true
  | _, _, .nil, _ => rfl
  | _ :: _, _ :: _, .cons r t, f => by
    rw [List.all_cons, Bool.and_eq_true] at f ⊢
    exact ⟨flat_V r f.1, flat_all t f.2⟩
theorem feq_V {D : Ad} {m : Mp} {v u : Vv} {x y : V} (r : R D m v x) (r' : R D m u y) (f : flat v = true) (f' : flat u = true) : feq v u = eqV x y := by
  cases v with
  | non => cases r; cases u <;> first | (cases r'; rfl) | cases f'
  | bl b => cases r; cases u <;> first | (cases r'; rfl) | cases f'
  | int i => cases r; cases u <;> first | (cases r'; rfl) | cases f'
  | str z => cases r; cases u <;> first | (cases r'; rfl) | cases f'
  | _ => cases f
theorem any_V {D : Ad} {m : Mp} {u : Vv} {y : V} (r' : R D m u y) (f' : flat u = true) : ∀ {vs : List Vv} {xs : List V}, RL D m vs xs → vs.all flat = true → (vs.any fun z => feq z u) = inV y xs
  | _, _, .nil, _ => rfl
  | v :: vs, x :: xs, .cons r t, f => by
    rw [List.all_cons, Bool.and_eq_true] at f
    unfold inV
    rw [List.any_cons, List.any_cons, feq_V r r' f.1 f', any_V r' f' t f.2]
    rfl
end
end Dv

set_option linter.all false
set_option autoImplicit false
set_option maxRecDepth 100000
set_option maxHeartbeats 1000000
namespace Dv
open PySem L2 PySem.Spec PyProof.Rows
section
variable {w : Wd} {ax : Ax} {X : Cx} {m : Mp} {h : VH} {H : Hp} {v : Vv} {x : V}
theorem non_iff {D : Ad} (r : R D m v x) : decide (v = .non) = decide (x = .non) := by
  cases v with
  | non => cases (show x = .non from r); rfl
  | bl b => cases (show x = .bl b from r); rfl
  | int i => cases (show x = .int i from r); rfl
  | str z => cases (show x = .str z from r); rfl
  | ref i => obtain ⟨a, _, rfl⟩ := r; rfl
  | fn f => cases (show x = .ref (D.fa f) from r); rfl
  | cls c => cases (show x = .ref (D.ca c) from r); rfl
  | ty n => cases (show x = .ty n from r); rfl
  | con k => cases (show x = .ref (D.ka k) from r); rfl
theorem in_seq_ok (g : w.ConOk) (s : SimW w ax m h H) {u : Vv} {y : V} (ra : R w.D m u x) (rb : R w.D m v y) {xs : List Vv} (q : seqOf w.G h v = some xs) (hf : (flat u && xs.all flat) = true) :
    ∃ p ys, y = .ref p ∧ (SqL w.K H p ys ∨ SqT w.K H p ys) ∧ flatV x = true ∧ ys.all flatV = true ∧ inV x ys = xs.any fun z => feq z u := by
  rw [Bool.and_eq_true] at hf
  obtain ⟨p, ys, rfl, h1, h2⟩ := seq_ok g s rb q
  exact ⟨p, ys, rfl, h1, flat_V ra hf.1, flat_all h2 hf.2, (any_V ra hf.1 h2 hf.2).symm⟩
theorem op_cmp (hK : X.K = w.K) (g : w.ConOk) (hu : X.A.units + 64 < cLine) (o : Orc) (op : CmpOp) : OpR X (PySem.compareOp op) (rB w ax (cmpop w.G o op)) := by
  intro pins s σ H x y v u Q I rx ry ⟨m, h, a, b, c, h', ra, rb, sm, e, post⟩
  unfold cmpop at e
  have isq : ∀ {neg : Bool} {xs : List Vv}, seqOf w.G h b = some xs → (flat a && xs.all flat) = true → Q (.bl (if neg then !(xs.any fun z => feq z a) else xs.any fun z => feq z a)) H → rIn X.K neg x y H Q := fun {neg xs} q hf hq => by
    obtain ⟨p, ys, e1, h1, h2, h3, h4⟩ := in_seq_ok g sm ra rb q hf
    rw [hK]
    exact ⟨p, ys, e1, h1, h2, h3, by rw [h4]; exact hq⟩
  cases op with
  | Lt =>
    dsimp only at e
    split at e
    · cases e; cases ra; cases rb
      exact op_lt pins s σ H _ _ v u Q I rx ry ⟨_, _, rfl, rfl, post.here sm rfl⟩
    · cases e
  | LtE =>
    dsimp only at e
    split at e
    · cases e; cases ra; cases rb
      exact op_le pins s σ H _ _ v u Q I rx ry ⟨_, _, rfl, rfl, post.here sm rfl⟩
    · cases e
  | Gt =>
    dsimp only at e
    split at e
    · cases e; cases ra; cases rb
      exact op_gt pins s σ H _ _ v u Q I rx ry ⟨_, _, rfl, rfl, post.here sm rfl⟩
    · cases e
  | GtE =>
    dsimp only at e
    split at e
    · cases e; cases ra; cases rb
      exact op_ge pins s σ H _ _ v u Q I rx ry ⟨_, _, rfl, rfl, post.here sm rfl⟩
    · cases e
  | Is =>
    dsimp only at e
    split at e
    · cases e; cases rb
      refine op_isN pins s σ H _ _ v u Q I rx ry ⟨rfl, ?_⟩
      rw [← non_iff ra]
      exact post.here sm rfl
    · cases e
  | IsNot =>
    dsimp only at e
    split at e
    · cases e; cases rb
      refine op_notN pins s σ H _ _ v u Q I rx ry ⟨rfl, ?_⟩
      rw [← non_iff ra]
      exact post.here sm rfl
    · cases e
  | Eq =>
    dsimp only at e
    obtain ⟨k, h1, h2⟩ := Option.bind_eq_some_iff.mp e
    cases h2
    unfold eqd at h1
    split at h1
    · rename_i d d' q1 q2
      split at h1
      · rename_i hs
        cases h1
        rw [Bool.and_eq_true] at hs
        refine op_eqD hu pins s σ H _ _ v u Q I rx ry ⟨d, d', ?_, ?_, hs.1, hs.2, post.here sm rfl⟩
        · rw [hK]; exact dat_ok g sm 8 ra q1
        · rw [hK]; exact dat_ok g sm 8 rb q2
      · cases h1
    · cases h1
  | NotEq =>
    dsimp only at e
    obtain ⟨k, h1, h2⟩ := Option.bind_eq_some_iff.mp e
    cases h2
    unfold eqd at h1
    split at h1
    · rename_i d d' q1 q2
      split at h1
      · rename_i hs
        cases h1
        rw [Bool.and_eq_true] at hs
        refine op_neD hu pins s σ H _ _ v u Q I rx ry ⟨d, d', ?_, ?_, hs.1, hs.2, post.here sm rfl⟩
        · rw [hK]; exact dat_ok g sm 8 ra q1
        · rw [hK]; exact dat_ok g sm 8 rb q2
      · cases h1
    · cases h1
  | In =>
    dsimp only at e
    split at e
    · cases e; cases ra; cases rb
      exact op_in_str pins s σ H _ _ v u Q I rx ry ⟨_, _, rfl, rfl, post.here sm rfl⟩
    · obtain ⟨xs, h1, h2⟩ := Option.bind_eq_some_iff.mp e
      split at h2
      · rename_i hf
        cases h2
        exact op_in_seq pins s σ H _ _ v u Q I rx ry (isq (neg := false) h1 hf (post.here sm rfl))
      · cases h2
  | NotIn =>
    dsimp only at e
    split at e
    · cases e; cases ra; cases rb
      exact op_notin_str pins s σ H _ _ v u Q I rx ry ⟨_, _, rfl, rfl, post.here sm rfl⟩
    · obtain ⟨xs, h1, h2⟩ := Option.bind_eq_some_iff.mp e
      split at h2
      · rename_i hf
        cases h2
        exact op_notIn_seq pins s σ H _ _ v u Q I rx ry (isq (neg := true) h1 hf (post.here sm rfl))
      · cases h2
theorem isEmpty_len {α β : Type} {xs : List α} {ys : List β} (h : xs.length = ys.length) : xs.isEmpty = ys.isEmpty := by
  cases xs <;> cases ys <;> first | rfl | cases h
theorem tru_V (g : w.ConOk) (s : SimW w ax m h H) (r : R w.D m v x) {b : Bool} (e : truth w.G v h = some b) : TruV w.K x H b := by
  have sq : ∀ {xs : List Vv}, seqOf w.G h v = some xs → b = !xs.isEmpty → TruV w.K x H b := fun {xs} q hb => by
    obtain ⟨p, ys, rfl, h1, h2⟩ := seq_ok g s r q
    subst hb
    rcases h1 with h1 | h1
    · exact .inl ⟨ys, h1, by rw [isEmpty_len h2.length]⟩
    · exact .inr (.inl ⟨ys, h1, by rw [isEmpty_len h2.length]⟩)
  unfold truth at e
  cases v with
  | non => cases (show x = .non from r); cases e; rfl
  | bl b => cases (show x = .bl b from r); cases e; rfl
  | int i => cases (show x = .int i from r); cases e; rfl
  | str z =>
    cases (show x = .str z from r)
    dsimp only at e
    split at e
    · rename_i hz
      cases e
      exact ⟨by rw [← sz_eq]; exact hz, rfl⟩
    · cases e
  | _ =>
    obtain ⟨xs, h1, h2⟩ := Option.map_eq_some_iff.mp e
    exact sq h1 h2.symm
theorem place_ix (n : Nat) (i : Int) : place n i = ixN n i := rfl
theorem at_ok {D : Ad} {xs : List Vv} {ys : List V} (r : RL D m xs ys) {i : Int} {v : Vv} (e : ((place xs.length i).bind fun j => xs[j]?) = some v) : ∃ z, atI ys i = some z ∧ R D m v z := by
  obtain ⟨j, h1, h2⟩ := Option.bind_eq_some_iff.mp e
  obtain ⟨z, h3, h4⟩ := Paired.get r h2
  refine ⟨z, ?_, h4⟩
  unfold atI
  rw [← place_ix, ← r.length, h1]
  exact h3
theorem ix_D (hK : X.K = w.K) (g : w.ConOk) : IxR X (rB w ax (index w.G)) := by
  intro value slc pins s σ H x y v u Q I rx ry ⟨m, h, a, b, c, h', ra, rb, sm, e, post⟩ hs
  have sq : ∀ {i : Int} {xs : List Vv}, b = .int i → seqOf w.G h a = some xs → (((place xs.length i).bind fun j => xs[j]?).bind fun v => ok1 v h) = some (.ok c h') → wpAny (model X.prog X.w) X.A (subscriptTail value slc v u) (EP X pins σ Q) X.xe s := fun {i xs} hb q hi => by
    subst hb
    obtain ⟨v', h1, h2⟩ := Option.bind_eq_some_iff.mp hi
    cases h2
    cases rb
    obtain ⟨p, ys, rfl, h3, h4⟩ := seq_ok g sm ra q
    obtain ⟨z, h5, h6⟩ := at_ok h4 h1
    rcases h3 with h3 | h3
    · exact ix_list value slc pins s σ H _ _ v u Q I rx ry ⟨p, ys, i, z, rfl, rfl, by rw [hK]; exact h3, h5, post.here sm h6⟩ hs
    · exact ix_tup value slc pins s σ H _ _ v u Q I rx ry ⟨p, ys, i, z, rfl, rfl, by rw [hK]; exact h3, h5, post.here sm h6⟩ hs
  unfold index at e
  split at e
  · rename_i z i
    split at e
    · rename_i hz
      obtain ⟨k, h1, h2⟩ := Option.bind_eq_some_iff.mp e
      cases h2
      cases ra; cases rb
      refine ix_str value slc pins s σ H _ _ v u Q I rx ry ⟨z, i, k, rfl, rfl, by rw [← sz_eq]; exact hz, ?_, post.here sm rfl⟩ hs
      exact h1
    · cases e
  · obtain ⟨xs, h1, h2⟩ := Option.bind_eq_some_iff.mp e
    exact sq rfl h1 h2
  · cases e
end
end Dv

set_option linter.all false
set_option autoImplicit false
set_option maxRecDepth 100000
set_option maxHeartbeats 1000000
namespace Dv
open PySem L2 PySem.Spec PyProof.Rows
/-- a type as the model's value -/
def tval (D : Ad) : Vv → Value
  | .ty n => .type n
  | .cls c => .ref (D.ca c)
  | _ => .none
/-- what is known of a class of instances -/
structure ClsI (K : PySem.W.Frag) (C : Addr) : Prop where
  cl : Cls K C
  ha : PySem.W.findIn K (.ref C) "__class__" = some (some (.builtin "object.__class__"))
  hn : PySem.W.specialIn K (.builtin "object.__class__") "__get__" = some (some (.builtin "getset_descriptor.__get__"))
  htk : PySem.W.takesIn K (.builtin "object.__class__") = some true
  hm : PySem.W.mroIn K C (.type "object") = some true
/-- the types that values have here -/
def tyK (G : Tx) : Vv → Bool
  | .ty n => ["NoneType", "int", "bool", "str", "list", "tuple", "dict"].contains n
  | .cls d => G.clsI.contains d
  | _ => false
/-- isinstance: by a finite table; every class of instances is known -/
structure Wd.IsiOk (w : Wd) : Prop where
  inst : ∀ c, w.G.clsI.contains c = true → ClsI w.K (w.D.ca c)
  isi : ∀ t c b, tyK w.G t = true → isiT w.G t c = some b → PySem.W.kitOne w.K (tval w.D t) (tval w.D c) = some b
section
variable {w : Wd} {ax : Ax} {X : Cx} {m : Mp} {h : VH} {H : Hp} {v : Vv} {x : V}
theorem tyv_ok (g : w.ConOk) (s : SimW w ax m h H) (k : w.IsiOk) (r : R w.D m v x) {t : Vv} (e : tyv w.G h v = some t) :
    TyX w.K H x (tval w.D t) ∧ tyK w.G t = true := by
  unfold tyv at e
  cases v with
  | non => cases (show x = .non from r); cases e; exact ⟨.base .non, rfl⟩
  | bl b => cases (show x = .bl b from r); cases e; exact ⟨.base (.bl _), rfl⟩
  | int i => cases (show x = .int i from r); cases e; exact ⟨.base (.int _), rfl⟩
  | str z => cases (show x = .str z from r); cases e; exact ⟨.base (.str _), rfl⟩
  | ref i =>
    simp only [obj] at e
    cases q : h[i]? with
    | none => rw [q] at e; cases e
    | some o =>
      rw [q] at e
      obtain ⟨a, rfl, h1, h2⟩ := s.ref r q
      cases o with
      | lst ys => cases e; obtain ⟨zs, h3, _⟩ := h2; exact ⟨.base (.lst h3), rfl⟩
      | rol ys =>
        cases e
        obtain ⟨zs, h3, h4⟩ := h2
        refine ⟨?_, rfl⟩
        rcases h4 with ⟨o, h4⟩ | h4
        · exact .base (.frz h4)
        · rcases h4 (fun _ => none) with h5 | ⟨o, its, n, h5, h6, _⟩
          · rcases h5 with h5 | ⟨_, h5⟩ <;> cases h5
          · exact .kList h5 h6
      | tup ys => cases e; obtain ⟨zs, h3, _⟩ := h2; exact ⟨.base (.tup h3), rfl⟩
      | dct ys => cases e; obtain ⟨zs, h3, _⟩ := h2; exact ⟨.base (.dK h3), rfl⟩
      | ins c fs =>
        dsimp only at e
        split at e
        · rename_i hc
          cases e
          obtain ⟨dx, gs, h3, _⟩ := h2
          have I := k.inst c hc
          exact ⟨.base (.ins h3 I.cl I.ha I.hn I.htk I.hm), hc⟩
        · cases e
      | _ => cases e
  | con c =>
    simp only [obj] at e
    cases q : w.G.cons c with
    | none => rw [q] at e; cases e
    | some o =>
      rw [q] at e
      obtain ⟨xs, ys, rfl, h1, _⟩ := g.only c o q
      cases e
      cases (show x = .ref (w.D.ka c) from r)
      refine ⟨?_, rfl⟩
      rcases h1 (fun _ => none) with h5 | ⟨o, its, n, h5, h6, _⟩
      · rcases h5 with h5 | ⟨_, h5⟩ <;> cases h5
      · exact .kTuple h5 h6
  | _ => cases e
theorem clsv {G : Tx} {D : Ad} {t c : Vv} {b : Bool} {x : V} (r : R D m c x) (hc : isiT G t c = some b) : ClsV x (tval D c) := by
  cases c with
  | ty n => cases (show x = .ty n from r); exact .ty n
  | cls d => cases (show x = .ref (D.ca d) from r); exact .own _
  | _ => cases t <;> cases hc
theorem call_isiD (hK : X.K = w.K) (g : w.ConOk) (k : w.IsiOk) {pins : List (Addr × Obj)} {s : Shared} {σ : L2.St} {xs : List V} {us : List Value} {Q : VK} {u c : Vv} {b : Bool} (I : Inv X pins σ H s) (ru : Vals xs us) (sm : SimW w ax m h H)
    (rl : RL w.D m [u, c] xs) (e : isinst w.G u c h = some b) (hq : Q (.bl b) H) : wpAny (model X.prog X.w) X.A (call (.builtin "isinstance") us) (EP X pins σ Q) X.xe s := by
  cases rl with
  | cons r1 r2 =>
    cases r2 with
    | cons r2 r3 =>
      cases r3
      unfold isinst at e
      obtain ⟨t, h1, h2⟩ := Option.bind_eq_some_iff.mp e
      obtain ⟨h3, h4⟩ := tyv_ok g sm k r1 h1
      exact call_isi pins s σ H _ us Q I ru ⟨_, _, _, _, b, rfl, clsv r2 h2, by rw [hK]; exact h3, by rw [hK]; exact k.isi t c b h4 h2, hq⟩
end
end Dv

set_option linter.all false
set_option autoImplicit false
set_option maxRecDepth 100000
set_option maxHeartbeats 2000000
namespace Dv
open PySem L2 PySem.Spec PyProof.Rows
/-- the name of a built-in, is it a type, its id -/
def Bf.name : Bf → Str
  | .len => "len" | .isinst => "isinstance" | .int => "int" | .str => "str" | .bool => "bool" | .abs => "abs" | .min => "min" | .max => "max" | .all => "all" | .any => "any" | .repr => "repr" | .list => "list" | .tuple => "tuple" | .sum => "sum" | .sorted => "sorted" | .dict => "dict"
def Bf.val : Bf → Value
  | .len => .builtin "len" | .isinst => .builtin "isinstance" | .int => .type "int" | .str => .type "str" | .bool => .type "bool" | .abs => .builtin "abs" | .min => .builtin "min" | .max => .builtin "max" | .all => .builtin "all" | .any => .builtin "any" | .repr => .builtin "repr" | .list => .type "list" | .tuple => .type "tuple" | .sum => .builtin "sum" | .sorted => .builtin "sorted" | .dict => .type "dict"
/-- those that are called where nothing is handled alone -/
def Bf.cold : Bf → Bool
  | .min => true | .max => true | .all => true | .any => true | .sum => true | .sorted => true | .list => true | .tuple => true | .dict => true
  | _ => false
/-- a call of a built-in by its result -/
def rCB (w : Wd) (ax : Ax) (f : List Vv → VH → Option (Re Vv)) : List V → Hp → VK → Prop := fun xs H Q => ∃ m h vs c h', RL w.D m vs xs ∧ SimW w ax m h H ∧ f vs h = some (.ok c h') ∧ PV w ax m Q c h'
section
variable {w : Wd} {ax : Ax} {X : Cx} {m : Mp} {h : VH} {H : Hp} {v : Vv} {x : V}
theorem rl1 {D : Ad} {v : Vv} {xs : List V} (r : RL D m [v] xs) : ∃ x, xs = [x] ∧ R D m v x := by
  cases r with
  | cons r t => cases t; exact ⟨_, rfl, r⟩
theorem rl2 {D : Ad} {v u : Vv} {xs : List V} (r : RL D m [v, u] xs) : ∃ x y, xs = [x, y] ∧ R D m v x ∧ R D m u y := by
  cases r with
  | cons r t => obtain ⟨y, rfl, r'⟩ := rl1 t; exact ⟨_, y, rfl, r, r'⟩
theorem bools_ok {D : Ad} : ∀ {vs : List Vv} {xs : List V} {bs : List Bool}, RL D m vs xs → bools vs = some bs → xs = bs.map V.bl
  | _, _, bs, .nil, e => by cases e; rfl
  | v :: vs, x :: xs, bs, .cons r t, e => by
    cases v with
    | bl b =>
      obtain ⟨bs', h1, rfl⟩ := Option.map_eq_some_iff.mp (show (bools vs).map (b :: ·) = some bs from e)
      cases (show x = .bl b from r)
      rw [bools_ok t h1]; rfl
    | _ => cases e
theorem txts_ok {D : Ad} : ∀ {vs : List Vv} {xs : List V} {bs : List Str}, RL D m vs xs → txts vs = some bs → xs = bs.map V.str
  | _, _, bs, .nil, e => by cases e; rfl
  | v :: vs, x :: xs, bs, .cons r t, e => by
    cases v with
    | str b =>
      obtain ⟨bs', h1, rfl⟩ := Option.map_eq_some_iff.mp (show (txts vs).map (b :: ·) = some bs from e)
      cases (show x = .str b from r)
      rw [txts_ok t h1]; rfl
    | _ => cases e
theorem len_seq_ok (hK : X.K = w.K) (g : w.ConOk) {pins : List (Addr × Obj)} {s : Shared} {σ : L2.St} {xs : List V} {us : List Value} {Q : VK} (I : Inv X pins σ H s) (ru : Vals xs us) (sm : SimW w ax m h H) (rl : RL w.D m [v] xs) {ys : List Vv}
    (e : seqOf w.G h v = some ys) (hq : Q (.int ys.length) H) : wpAny (model X.prog X.w) X.A (call (.builtin "len") us) (EP X pins σ Q) X.xe s := by
  obtain ⟨x, rfl, r⟩ := rl1 rl
  obtain ⟨p, zs, rfl, h1, h2⟩ := seq_ok g sm r e
  refine call_len_seq pins s σ H _ us Q I ru ⟨p, zs, rfl, by rw [hK]; exact h1, ?_⟩
  rw [← h2.length]
  exact hq
theorem Dp.scal {K : PySem.W.Frag} {x : V} {d : PyData} (p : Dp K H x d) : (∃ a, x = .ref a) ∨ (x = .non ∧ d = .none) ∨ (∃ b, x = .bl b ∧ d = .bool b) ∨ (∃ i, x = .int i ∧ d = .int i) ∨ ∃ z, x = .str z ∧ d = .str z := by
  cases p with
  | non => exact .inr (.inl ⟨rfl, rfl⟩)
  | bl b => exact .inr (.inr (.inl ⟨b, rfl, rfl⟩))
  | int i => exact .inr (.inr (.inr (.inl ⟨i, rfl, rfl⟩)))
  | str z => exact .inr (.inr (.inr (.inr ⟨z, rfl, rfl⟩)))
  | lst _ _ => exact .inl ⟨_, rfl⟩
  | tup _ _ => exact .inl ⟨_, rfl⟩
theorem call_repr_D {K : PySem.W.Frag} (hK : X.K = K) (hg : X.A.guards = some []) (hu : X.A.units + 100 < cLine) {pins : List (Addr × Obj)} {s : Shared} {σ : L2.St} {x : V} {us : List Value} {Q : VK} {d : PyData} (I : Inv X pins σ H s) (ru : Vals [x] us)
    (hd : Dp K H x d) (h1 : d.showable = true) (h2 : d.hasDict = false) (h3 : d.depth ≤ 60) (h4 : d.shown.length ≤ sizeLine) (hq : Q (.str d.shown) H) : wpAny (model X.prog X.w) X.A (call (.builtin "repr") us) (EP X pins σ Q) X.xe s := by
  subst hK
  obtain ⟨u, rfl, rx⟩ := vals1 ru
  have hz : sizeLine = 16777216 := sizeLine_eq
  rcases Dp.scal hd with ⟨a, rfl⟩ | ⟨rfl, rfl⟩ | ⟨b, rfl, rfl⟩ | ⟨i, rfl, rfl⟩ | ⟨z, rfl, rfl⟩
  · obtain ⟨as, rd⟩ := Dp.reads I d _ u hd rx
    cases rx
    exact repr_of_reads' rd h1 (PyData.noDict_hsm h2) hg (by omega) (fun _ _ e => e) (fun h' u' tk hk => ⟨.str d.shown, H, I.un (t' := tk) (Un.kept hk) (I.hok.kept hk), ⟨_, rfl⟩, hq⟩) h4
  · cases rx
    exact PySem.P.repr_of_none ⟨.str (PyData.shown .none), H, I.tok _, ⟨_, rfl⟩, hq⟩
  · cases rx
    exact PySem.P.repr_of_bool ⟨.str (PyData.shown (.bool b)), H, I.tok _, ⟨_, rfl⟩, hq⟩
  · obtain ⟨t, rfl⟩ := rx
    have hl : i.natAbs.log2 < 1920 := of_decide_eq_true (show decide (i.natAbs.log2 < 1920) = true from h1)
    exact PySem.P.repr_of_int hl ⟨.str (PyData.shown (.int i)), H, I.tok _, ⟨_, rfl⟩, hq⟩
  · obtain ⟨t, rfl⟩ := rx
    exact PySem.P.repr_of_str ⟨.str (PyData.shown (.str z)), H, I.tok _, ⟨_, rfl⟩, hq⟩ h4
theorem call_bf (hK : X.K = w.K) (g : w.ConOk) (k : w.IsiOk) (hg : X.A.guards = some []) (hu : X.A.units + 100 < cLine) (f : Bf) (hc : f.cold = true → X.calm = true) : CallR X f.val (rCB w ax (callb w.G f)) := by
  intro pins s σ H xs us Q I ru ⟨m, h, vs, c, h', rl, sm, e, post⟩
  unfold callb at e
  split at e
  · -- len of a text
    split at e
    · rename_i hz
      cases e
      obtain ⟨x, rfl, r⟩ := rl1 rl
      cases r
      exact call_len pins s σ H _ us Q I ru ⟨_, _, rfl, ⟨by rw [← sz_eq]; exact hz, rfl⟩, post.here sm rfl⟩
    · cases e
  · obtain ⟨ys, h1, h2⟩ := Option.bind_eq_some_iff.mp e
    cases h2
    exact len_seq_ok hK g I ru sm rl h1 (post.here sm rfl)
  · obtain ⟨b, h1, h2⟩ := Option.bind_eq_some_iff.mp e
    cases h2
    exact call_isiD hK g k I ru sm rl h1 (post.here sm rfl)
  · cases e
    obtain ⟨x, rfl, r⟩ := rl1 rl
    cases r
    exact call_int1 pins s σ H _ us Q I ru (.inl ⟨_, rfl, post.here sm rfl⟩)
  · cases e
    obtain ⟨x, rfl, r⟩ := rl1 rl
    cases r
    exact call_int1 pins s σ H _ us Q I ru (.inr ⟨_, rfl, post.here sm rfl⟩)
  · obtain ⟨n, h1, h2⟩ := Option.bind_eq_some_iff.mp e
    split at h2
    · rename_i hl
      cases h2
      obtain ⟨x, rfl, r⟩ := rl1 rl
      cases r
      exact call_int_str pins s σ H _ us Q I ru ⟨_, n, rfl, h1, hl, post.here sm rfl⟩
    · cases h2
  · split at e
    · rename_i hl
      cases e
      obtain ⟨x, rfl, r⟩ := rl1 rl
      cases r
      exact call_str_int pins s σ H _ us Q I ru ⟨_, rfl, hl, post.here sm rfl⟩
    · cases e
  · cases e
    obtain ⟨x, rfl, r⟩ := rl1 rl
    cases r
    exact SkE.call_str_str pins s σ H _ us Q I ru ⟨_, rfl, post.here sm rfl⟩
  · cases e
    obtain ⟨x, rfl, r⟩ := rl1 rl
    cases r
    exact call_bool1 pins s σ H _ us Q I ru (.inl ⟨_, rfl, post.here sm rfl⟩)
  · cases e
    obtain ⟨x, rfl, r⟩ := rl1 rl
    cases r
    exact call_bool1 pins s σ H _ us Q I ru (.inr ⟨_, rfl, post.here sm rfl⟩)
  · cases e
    obtain ⟨x, rfl, r⟩ := rl1 rl
    cases r
    exact call_abs pins s σ H _ us Q I ru ⟨_, rfl, post.here sm rfl⟩
  · cases e
    obtain ⟨x, y, rfl, r, r'⟩ := rl2 rl
    cases r; cases r'
    exact call_min2 (hc rfl) pins s σ H _ us Q I ru ⟨_, _, rfl, post.here sm rfl⟩
  · cases e
    obtain ⟨x, y, rfl, r, r'⟩ := rl2 rl
    cases r; cases r'
    exact call_max2 (hc rfl) pins s σ H _ us Q I ru ⟨_, _, rfl, post.here sm rfl⟩
  · split at e
    · rename_i ys q
      obtain ⟨bs, h1, h2⟩ := Option.bind_eq_some_iff.mp e
      cases h2
      obtain ⟨x, rfl, r⟩ := rl1 rl
      obtain ⟨a, rfl, _, zs, h3, h4⟩ := sm.ref r q
      refine cr_all (hc rfl) pins s σ H _ us Q I ru ⟨a, bs, rfl, ?_, post.here sm rfl⟩
      rw [← bools_ok h4 h1]
      exact SqL.of h3
    · cases e
  · split at e
    · rename_i ys q
      obtain ⟨bs, h1, h2⟩ := Option.bind_eq_some_iff.mp e
      cases h2
      obtain ⟨x, rfl, r⟩ := rl1 rl
      obtain ⟨a, rfl, _, zs, h3, h4⟩ := sm.ref r q
      refine cr_any (hc rfl) pins s σ H _ us Q I ru ⟨a, bs, rfl, ?_, post.here sm rfl⟩
      rw [← bools_ok h4 h1]
      exact SqL.of h3
    · cases e
  · obtain ⟨d, h1, h2⟩ := Option.bind_eq_some_iff.mp e
    split at h2
    · rename_i hs
      cases h2
      simp only [Bool.and_eq_true, Bool.not_eq_true', decide_eq_true_eq] at hs
      obtain ⟨⟨⟨k1, k2⟩, k3⟩, k4⟩ := hs
      obtain ⟨x, rfl, r⟩ := rl1 rl
      exact call_repr_D hK hg hu I ru (dat_ok g sm 8 r h1) k1 k2 k3 (by rw [← sz_eq]; exact k4) (post.here sm rfl)
    · cases h2
  · cases e
end
end Dv

set_option linter.all false
set_option autoImplicit false
set_option maxRecDepth 100000
set_option maxHeartbeats 1000000
namespace Dv
open PySem L2 PySem.Spec PyProof.Rows

/-- room for n calls, one in another; no text is being shown -/
structure RoomU (n : Nat) (A : Around) : Prop where
  gu : A.guards = some []
  dp : A.depth + n + 40 < recursionLimit
  un : A.units + 16 * n + 400 < cLine
theorem RoomU.deeper {n : Nat} {A : Around} (r : RoomU (n + 1) A) (env : Env) : RoomU n (A.deeper env) :=
  ⟨r.gu, by have := r.dp; show A.depth + 1 + n + 40 < _; omega, by have := r.un; show A.units + 3 + 16 * n + 400 < _; omega⟩
theorem RoomU.mono {j n : Nat} {A : Around} (r : RoomU n A) (h : j ≤ n) : RoomU j A := ⟨r.gu, by have := r.dp; omega, by have := r.un; omega⟩
theorem RoomU.in1 {n : Nat} {A : Around} (r : RoomU (n + 1) A) : RoomU n A.in1 := ⟨r.gu, by have := r.dp; show A.depth + n + 40 < _; omega, by have := r.un; show A.units + 1 + 16 * n + 400 < _; omega⟩
theorem RoomU.make {n : Nat} {A : Around} (r : RoomU (n + 1) A) (C : Addr) (us : List Value) (kw : List (Str × Value)) : RoomU n (A.under (.builtin "type.__call__" ⟨.ref C :: us, kw⟩)) :=
  ⟨by first | exact r.gu | (show pushGuards (Code.guards _) A.guards = _; rw [show (Code.guards (.builtin "type.__call__" ⟨.ref C :: us, kw⟩)) = [] from by unfold Code.guards; rw [if_neg (by decide)]]; exact r.gu), by have := r.dp; rw [make_depth]; omega, by have := r.un; rw [make_units]; omega⟩
theorem RoomU.units {n : Nat} {A : Around} (r : RoomU n A) : A.units + 100 < cLine := by have := r.un; omega

/-- a context of the text: its names by slots, its scope; cm: nothing is being handled -/
structure Good (w : Wd) (ax : Ax) (P : Program) (wl : World) (base : Heap) (n : Nat) (N : List Str) (sc : Scope) (cm : Bool) (X : Cx) : Prop where
  hP : X.prog = P
  hw : X.w = wl
  hK : X.K = w.K
  hm : X.mg = w.mg
  hB : X.base = base
  hN : X.N = N
  nd : N.Nodup
  hs : X.env.scope = sc
  hr : RoomU n X.A
  hd : cm = true → X.A.handled = none
  hc : cm = true → X.calm = true
  nx : cm = true → ax = none
  pin : ∀ k a cls d, ax = some (k, a, cls, d) → ∃ oe, (a, oe) ∈ X.pn ∧ Zc cls d oe ∧ ∃ vs, oe.data = .fields vs

def slr (D : Ad) (m : Mp) (u : Option Vv) (y : Option V) : Prop := match u with
  | none => True
  | some v => ∃ x, y = some x ∧ R D m v x
def SlR (D : Ad) (m : Mp) : Sl → L2.St → Prop := Paired (slr D m)
theorem SlR.mono {D : Ad} {m m' : Mp} {s : Sl} {σ : L2.St} (r : SlR D m s σ) (l : Le m m') : SlR D m' s σ := Paired.mapP r fun u y z => by
  cases u with
  | none => trivial
  | some v => obtain ⟨x, e, h⟩ := z; exact ⟨x, e, h.mono l⟩
theorem SlR.get {D : Ad} {m : Mp} {s : Sl} {σ : L2.St} (r : SlR D m s σ) {i : Nat} {v : Vv} (e : s[i]? = some (some v)) : ∃ x, σ[i]? = some (some x) ∧ R D m v x := by
  obtain ⟨y, h1, h2⟩ := Paired.get r e
  obtain ⟨x, rfl, h3⟩ := h2
  exact ⟨x, h1, h3⟩
theorem SlR.set {D : Ad} {m : Mp} {s : Sl} {σ : L2.St} (r : SlR D m s σ) (i : Nat) {v : Vv} {x : V} (h : R D m v x) : SlR D m (s.set i (some v)) (σ.set i (some x)) := Paired.setP (F := slr D m) (x := some v) (y := some x) ⟨x, rfl, h⟩ i r
theorem SlR.clear {D : Ad} {m : Mp} {s : Sl} {σ : L2.St} (r : SlR D m s σ) (i : Nat) (y : Option V) : SlR D m (s.set i none) (σ.set i y) := Paired.setP (F := slr D m) (x := none) (y := y) trivial i r
theorem SlR.wipe {D : Ad} {m : Mp} {s : Sl} {σ : L2.St} (r : SlR D m s σ) : ∀ vs : List Nat, SlR D m (wipeV s vs) (wipe σ vs)
  | [] => r
  | v :: vs => (SlR.wipe r vs).clear v none

section
variable (w : Wd) (ax : Ax) (W : WX) (o : Orc)
abbrev ExW (σ : L2.St) : XK := fun c d H' => W c d σ H'
def tE (e : Ex) : TE := fun σ H Q => ∃ m s h r, SlR w.D m s σ ∧ SimW w ax m h H ∧ evE w.G o e s h = some r ∧ PRr w ax (R w.D) (ExW W σ) m Q r
def tT (e : Tt) : TT := fun σ H Q => ∃ m s h r, SlR w.D m s σ ∧ SimW w ax m h H ∧ evT w.G o e s h = some r ∧ PRr w ax (fun _ a b => a = b) (ExW W σ) m Q r
def tEs (es : Exs) : TA := fun σ H Q => ∃ m s h r, SlR w.D m s σ ∧ SimW w ax m h H ∧ evEs w.G o es s h = some r ∧ PRr w ax (RL w.D) (ExW W σ) m Q r
end
section
variable {w : Wd} {ax : Ax} {W : WX} {o : Orc} {m : Mp} {s : Sl} {σ : L2.St} {h : VH} {H : Hp}
/-- a part's reading, from the whole's result -/
theorem tE_of {γ δ : Type} {rel : Mp → γ → δ → Prop} {a : Ex} {k : Vv → VH → Option (Re γ)} {r : Re γ} {Q0 : VK} {Q : δ → Hp → Prop} (hs : SlR w.D m s σ) (sm : SimW w ax m h H) (e : Rb (evE w.G o a s h) k = some r) (p : PRr w ax rel (ExW W σ) m Q r)
    (c : ∀ v h1 m1 H1 x, k v h1 = some r → Le m m1 → SimW w ax m1 h1 H1 → R w.D m1 v x → SlR w.D m1 s σ → PRr w ax rel (ExW W σ) m1 Q r → Q0 x H1) : tE w ax W o a σ H Q0 := by
  cases q : evE w.G o a s h with
  | none => rw [q] at e; cases e
  | some r0 =>
    rw [q] at e
    refine ⟨m, s, h, r0, hs, sm, q, ?_⟩
    cases r0 with
    | ok v h1 => exact fun m1 H1 x l s1 r1 => c v h1 m1 H1 x e l s1 r1 (hs.mono l) (p.mono l)
    | ex x h1 => cases e; exact p
theorem tT_of {γ δ : Type} {rel : Mp → γ → δ → Prop} {a : Tt} {k : Bool → VH → Option (Re γ)} {r : Re γ} {Q0 : Bool → Hp → Prop} {Q : δ → Hp → Prop} (hs : SlR w.D m s σ) (sm : SimW w ax m h H) (e : Rb (evT w.G o a s h) k = some r) (p : PRr w ax rel (ExW W σ) m Q r)
    (c : ∀ v h1 m1 H1, k v h1 = some r → Le m m1 → SimW w ax m1 h1 H1 → SlR w.D m1 s σ → PRr w ax rel (ExW W σ) m1 Q r → Q0 v H1) : tT w ax W o a σ H Q0 := by
  cases q : evT w.G o a s h with
  | none => rw [q] at e; cases e
  | some r0 =>
    rw [q] at e
    refine ⟨m, s, h, r0, hs, sm, q, ?_⟩
    cases r0 with
    | ok v h1 => intro m1 H1 x l s1 r1; cases r1; exact c v h1 m1 H1 e l s1 (hs.mono l) (p.mono l)
    | ex x h1 => cases e; exact p
theorem tEs_of {γ δ : Type} {rel : Mp → γ → δ → Prop} {a : Exs} {k : List Vv → VH → Option (Re γ)} {r : Re γ} {Q0 : List V → Hp → Prop} {Q : δ → Hp → Prop} (hs : SlR w.D m s σ) (sm : SimW w ax m h H) (e : Rb (evEs w.G o a s h) k = some r) (p : PRr w ax rel (ExW W σ) m Q r)
    (c : ∀ v h1 m1 H1 x, k v h1 = some r → Le m m1 → SimW w ax m1 h1 H1 → RL w.D m1 v x → SlR w.D m1 s σ → PRr w ax rel (ExW W σ) m1 Q r → Q0 x H1) : tEs w ax W o a σ H Q0 := by
  cases q : evEs w.G o a s h with
  | none => rw [q] at e; cases e
  | some r0 =>
    rw [q] at e
    refine ⟨m, s, h, r0, hs, sm, q, ?_⟩
    cases r0 with
    | ok v h1 => exact fun m1 H1 x l s1 r1 => c v h1 m1 H1 x e l s1 r1 (hs.mono l) (p.mono l)
    | ex x h1 => cases e; exact p
end
/-- a reading may be made stronger -/
theorem PE.to {X : Cx} {e : Expr} {t t' : TE} (p : PE X e t) (k : ∀ σ H Q, t' σ H Q → t σ H Q) : PE X e t' := ⟨fun pins s σ H Q I h => p.run pins s σ H Q I (k _ _ _ h)⟩
theorem PT.to {X : Cx} {e : Expr} {t t' : TT} (p : PT X e t) (k : ∀ σ H Q, t' σ H Q → t σ H Q) : PT X e t' := ⟨fun pins s σ H Q I h => p.run pins s σ H Q I (k _ _ _ h)⟩
theorem PW.to {X : Cx} {e : Expr} {t t' : TT} (p : PW X e t) (k : ∀ σ H Q, t' σ H Q → t σ H Q) : PW X e t' := ⟨fun wh pins s σ H Q I h => p.run wh pins s σ H Q I (k _ _ _ h)⟩
theorem PA.to {X : Cx} {e : List Expr} {t t' : TA} (p : PA X e t) (k : ∀ σ H Q, t' σ H Q → t σ H Q) : PA X e t' := ⟨fun pos pins s σ H Q I h => p.run pos pins s σ H Q I (k _ _ _ h)⟩
theorem PS.to {X : Cx} {e : Stmt} {t t' : TS} (p : PS X e t) (k : ∀ D σ H, t' D σ H → t D σ H) : PS X e t' := ⟨fun pins s σ H D I h => p.run pins s σ H D I (k _ _ _ h)⟩
theorem PSs.to {X : Cx} {e : List Stmt} {t t' : TS} (p : PSs X e t) (k : ∀ D σ H, t' D σ H → t D σ H) : PSs X e t' := ⟨fun pins s σ H D I h => p.run pins s σ H D I (k _ _ _ h)⟩

def notStar : Expr → Bool
  | .Starred _ _ => false
  | _ => true
theorem star_cons {e : Expr} {es : List Expr} {env : Env} (h : notStar e = true) : starEach (e :: es) env = (false, eval e env) :: starEach es env := by
  cases e <;> first | rfl | cases h
theorem star_plain {env : Env} {pos : Pos} : ∀ {es : List Expr}, es.all notStar = true → (backTo pos (starEach es env)).any (·.1) = false
  | [], _ => rfl
  | e :: es, h => by
    rw [List.all_cons, Bool.and_eq_true] at h
    rw [star_cons h.1]
    exact star_plain h.2
theorem star_len {env : Env} : ∀ {es : List Expr}, (starEach es env).length = es.length
  | [] => rfl
  | e :: es => by
    have ih := star_len (env := env) (es := es)
    cases e <;> exact congrArg (· + 1) ih
theorem star_few {env : Env} {pos : Pos} : ∀ {es : List Expr}, es.all notStar = true → (backTo pos (starEach es env)).all (fun x => !x.1) = true
  | [], _ => rfl
  | e :: es, h => by
    rw [List.all_cons, Bool.and_eq_true] at h
    rw [star_cons h.1]
    exact star_few h.2
/-- no call of super -/
def noSuper : Expr → Bool
  | .Call (.Name id _) [] [] _ => id != "super"
  | _ => true
theorem attr_base {e : Expr} {f : Str} {env : Env} {wh : Sem Value} (h : noSuper e = true) : attributeBase e f env wh = wh := by
  unfold attributeBase
  split
  · rename_i id _ pos
    have h' : (id != ("super" : Str)) = true := h
    rw [h']
    simp
  · simp
/-- an expression that a test asks by its value's truth -/
def plainT : Expr → Bool
  | .UnaryOp .Not _ _ => false
  | .BoolOp _ _ _ => false
  | .IfExp _ _ _ _ => false
  | .Compare _ _ _ _ => false
  | _ => true
theorem plain_test {e : Expr} {env : Env} (h : plainT e = true) : ∀ wh, isTrue e env wh = (do let v ← wh; standAt e.pos; holding [v] (truthy v)) := by
  intro wh
  cases e with
  | UnaryOp op a p => cases op <;> first | rfl | cases h
  | BoolOp _ _ _ => cases h
  | IfExp _ _ _ _ => cases h
  | Compare _ _ _ _ => cases h
  | _ => rfl
/-- no set display (its marks behind in, not in) -/
def noSet : Expr → Bool
  | .Set _ _ _ => false
  | _ => true
theorem no_marks {op : CmpOp} {e : Expr} (h : noSet e = true) : behindInMarks op e = false := by
  cases e <;> first | rfl | cases h
def noSlice : Expr → Bool
  | .Slice _ _ _ _ => false
  | _ => true
end Dv

set_option linter.all false
set_option autoImplicit false
set_option maxRecDepth 100000
set_option maxHeartbeats 1000000
namespace Dv
open PySem L2 PySem.Spec PyProof.Rows
section
variable {G : Tx} {o : Orc} {x y : Vv} {h h' : VH} {e : Xv}
theorem binop_ne {op : Operator} : binop op x y h = some (.ex e h') → False := by
  unfold binop ok1 new
  intro q
  repeat' split at q
  all_goals first | cases q | contradiction
theorem eqd_ne {b : Bool} {k : Bool → Bool} {m : Option Bool} : (m.bind fun b => ok1 (.bl (k b)) h) = some (.ex e h') → False := by
  intro q
  obtain ⟨b, _, q⟩ := Option.bind_eq_some_iff.mp q
  cases q
theorem cmpop_ne {op : CmpOp} : cmpop G o op x y h = some (.ex e h') → False := by
  unfold cmpop ok1
  intro q
  cases op <;> dsimp only at q
  all_goals first
    | (split at q <;> first | cases q | (obtain ⟨b, _, q⟩ := Option.bind_eq_some_iff.mp q; split at q <;> cases q))
    | (obtain ⟨b, _, q⟩ := Option.bind_eq_some_iff.mp q; cases q)
theorem index_ne : index G x y h = some (.ex e h') → False := by
  unfold index ok1
  intro q
  split at q
  · split at q
    · obtain ⟨b, _, q⟩ := Option.bind_eq_some_iff.mp q; cases q
    · cases q
  · obtain ⟨b, _, q⟩ := Option.bind_eq_some_iff.mp q
    obtain ⟨c, _, q⟩ := Option.bind_eq_some_iff.mp q; cases q
  · cases q
theorem callb_ne {f : Bf} {vs : List Vv} : callb G f vs h = some (.ex e h') → False := by
  unfold callb ok1
  intro q
  split at q <;> first
    | cases q
    | (split at q <;> first | cases q | (obtain ⟨c, _, q⟩ := Option.bind_eq_some_iff.mp q; first | cases q | (split at q <;> cases q)))
    | (obtain ⟨c, _, q⟩ := Option.bind_eq_some_iff.mp q; first | cases q | (split at q <;> cases q))
end
section
variable {w : Wd} {ax : Ax} {W : WX} {o : Orc} {P : Program} {wl : World} {n : Nat} {N : List Str} {sc : Scope} {cm : Bool} {X : Cx} {a b c : Ex} {ea eb ec : Expr} {pos : Pos} {op : Operator}
/-- what the nodes lean on -/
structure Fac (w : Wd) : Prop where
  con : w.ConOk
  isi : w.IsiOk
  kp : ∀ f, (w.G.fns f).isSome = true → PySem.W.keepIn w.K (.ref (w.D.fa f)) = true
theorem e_var {i : Nat} {x : Str} (hN : X.N[i]? = some x) (hv : Vis X.env.scope x) (hd : (x == ("__debug__" : Str)) = false) (hcd : (x == ("__classdict__" : Str)) = false) : PE X (.Name x pos) (tE w ax W o (.var i)) := by
  refine PE.to (pe_var (i := i) hN hv hd hcd) fun σ H Q ⟨m, s, h, r, hs, sm, e, p⟩ => ?_
  simp only [evE] at e
  split at e
  · rename_i v q
    cases e
    obtain ⟨x, h1, h2⟩ := hs.get q
    exact ⟨x, h1, p m H x (Le.refl m) sm h2⟩
  · cases e
theorem e_cst {e : Expr} {v : Vv} {x : V} (p : PE X e (tC x)) (r : ∀ m, R w.D m v x) : PE X e (tE w ax W o (.cst v)) := by
  refine PE.to p fun σ H Q ⟨m, s, h, r', hs, sm, e, p⟩ => ?_
  cases e
  exact p m H x (Le.refl m) sm (r m)
theorem e_bin (hK : X.K = w.K) (ha : PE X ea (tE w ax W o a)) (hb : PE X eb (tE w ax W o b)) : PE X (.BinOp ea op eb pos) (tE w ax W o (.bin op a b)) := by
  refine PE.to (pe_op (op_bin (ax := ax) hK op) ha hb) fun σ H Q ⟨m, s, h, r, hs, sm, e, p⟩ => ?_
  refine tE_of hs sm e p fun x h1 m1 H1 x' e1 l1 s1 rx hs1 p1 => ?_
  refine tE_of hs1 s1 e1 p1 fun y h2 m2 H2 y' e2 l2 s2 ry hs2 p2 => ?_
  cases r with
  | ok v h3 => exact ⟨m2, h2, x, y, v, h3, rx.mono l2, ry, s2, e2, p2⟩
  | ex x h3 => exact (binop_ne e2).elim
theorem e_neg (ha : PE X ea (tE w ax W o a)) : PE X (.UnaryOp .USub ea pos) (tE w ax W o (.neg a)) := by
  refine PE.to (pe_un un_neg ha) fun σ H Q ⟨m, s, h, r, hs, sm, e, p⟩ => ?_
  refine tE_of hs sm e p fun x h1 m1 H1 x' e1 l1 s1 rx hs1 p1 => ?_
  cases x <;> first | (cases e1; cases rx; exact ⟨_, rfl, p1 m1 H1 _ (Le.refl _) s1 rfl⟩) | cases e1
theorem rd_cmp {op : CmpOp} {σ : L2.St} {H : Hp} {Q : VK} (q : tE w ax W o (.cmp op a b) σ H Q) : tOp (rB w ax (cmpop w.G o op)) (tE w ax W o a) (tE w ax W o b) σ H Q := by
  obtain ⟨m, s, h, r, hs, sm, e, p⟩ := q
  refine tE_of hs sm e p fun x h1 m1 H1 x' e1 l1 s1 rx hs1 p1 => ?_
  refine tE_of hs1 s1 e1 p1 fun y h2 m2 H2 y' e2 l2 s2 ry hs2 p2 => ?_
  cases r with
  | ok v h3 => exact ⟨m2, h2, x, y, v, h3, rx.mono l2, ry, s2, e2, p2⟩
  | ex x h3 => exact (cmpop_ne e2).elim
theorem e_cmp {op : CmpOp} (F : Fac w) (hK : X.K = w.K) (hu : X.A.units + 100 < cLine) (hm : noSet eb = true) (ha : PE X ea (tE w ax W o a)) (hb : PE X eb (tE w ax W o b)) : PE X (.Compare ea [op] [eb] pos) (tE w ax W o (.cmp op a b)) :=
  PE.to (pe_cmpR (op_cmp (ax := ax) hK F.con (by omega) o op) ha hb (no_marks hm)) fun _ _ _ q => rd_cmp q
theorem rd_chain {op op' : CmpOp} {σ : L2.St} {H : Hp} {Q : VK} (q : tE w ax W o (.chain op op' a b c) σ H Q) : tChain (rB w ax (cmpop w.G o op)) (rB w ax (cmpop w.G o op')) (tE w ax W o a) (tE w ax W o b) (tE w ax W o c) σ H Q := by
  obtain ⟨m, s, h, r, hs, sm, e, p⟩ := q
  refine tE_of hs sm e p fun x h1 m1 H1 x' e1 l1 s1 rx hs1 p1 => ?_
  refine tE_of hs1 s1 e1 p1 fun y h2 m2 H2 y' e2 l2 s2 ry hs2 p2 => ?_
  cases q3 : cmpop w.G o op x y h2 with
  | none => rw [q3] at e2; cases e2
  | some r3 =>
    rw [q3] at e2
    cases r3 with
    | ex x h3 => exact (cmpop_ne q3).elim
    | ok z h3 =>
      refine ⟨m2, h2, x, y, z, h3, rx.mono l2, ry, s2, q3, fun m3 H3 z' l3 s3 rz => ?_⟩
      simp only [Rb_ok] at e2
      cases z with
      | bl k =>
        cases rz
        refine ⟨k, rfl, ?_⟩
        cases k with
        | true =>
          rw [if_pos rfl]
          refine tE_of (hs2.mono l3) s3 e2 (p2.mono l3) fun u h4 m4 H4 u' e4 l4 s4 ru hs4 p4 => ?_
          cases r with
          | ok v h5 => exact ⟨m4, h4, y, u, v, h5, (ry.mono l3).mono l4, ru, s4, e4, p4⟩
          | ex x h5 => exact (cmpop_ne e4).elim
        | false =>
          rw [if_neg Bool.false_ne_true]
          cases e2
          exact p2 m3 H3 _ l3 s3 rfl
      | _ => cases e2
theorem e_chain {op op' : CmpOp} (F : Fac w) (hK : X.K = w.K) (hu : X.A.units + 100 < cLine) (hm : noSet eb = true) (hm2 : noSet ec = true) (ha : PE X ea (tE w ax W o a)) (hb : PE X eb (tE w ax W o b)) (hc : PE X ec (tE w ax W o c)) :
    PE X (.Compare ea [op, op'] [eb, ec] pos) (tE w ax W o (.chain op op' a b c)) :=
  PE.to (pe_chain (op_cmp (ax := ax) hK F.con (by omega) o op) (op_cmp (ax := ax) hK F.con (by omega) o op') ha hb hc (show lastMarks [op'] [ec] = false from no_marks hm2)) fun _ _ _ q => rd_chain q
/-- the right part of and, or: one more operand, or the rest -/
theorem e_and {es : List Expr} (F : Fac w) (hK : X.K = w.K) (ha : PE X ea (tE w ax W o a)) (hb : PE X (.BoolOp .And (eb :: es) pos) (tE w ax W o b)) : PE X (.BoolOp .And (ea :: eb :: es) pos) (tE w ax W o (.and a b)) := by
  refine PE.to (pe_andT ha hb) fun σ H Q ⟨m, s, h, r, hs, sm, e, p⟩ => ?_
  refine tE_of hs sm e p fun x h1 m1 H1 x' e1 l1 s1 rx hs1 p1 => ?_
  split at e1
  · rename_i q
    refine ⟨true, by rw [hK]; exact tru_V F.con s1 rx q, ?_⟩
    rw [if_pos rfl]
    exact ⟨m1, s, h1, r, hs1, s1, e1, p1⟩
  · rename_i q
    cases e1
    refine ⟨false, by rw [hK]; exact tru_V F.con s1 rx q, ?_⟩
    rw [if_neg Bool.false_ne_true]
    exact p1 m1 H1 x' (Le.refl _) s1 rx
  · cases e1
theorem e_or {es : List Expr} (F : Fac w) (hK : X.K = w.K) (ha : PE X ea (tE w ax W o a)) (hb : PE X (.BoolOp .Or (eb :: es) pos) (tE w ax W o b)) : PE X (.BoolOp .Or (ea :: eb :: es) pos) (tE w ax W o (.or a b)) := by
  refine PE.to (pe_orT ha hb) fun σ H Q ⟨m, s, h, r, hs, sm, e, p⟩ => ?_
  refine tE_of hs sm e p fun x h1 m1 H1 x' e1 l1 s1 rx hs1 p1 => ?_
  split at e1
  · rename_i q
    cases e1
    refine ⟨true, by rw [hK]; exact tru_V F.con s1 rx q, ?_⟩
    rw [if_pos rfl]
    exact p1 m1 H1 x' (Le.refl _) s1 rx
  · rename_i q
    refine ⟨false, by rw [hK]; exact tru_V F.con s1 rx q, ?_⟩
    rw [if_neg Bool.false_ne_true]
    exact ⟨m1, s, h1, r, hs1, s1, e1, p1⟩
  · cases e1
theorem e_not (F : Fac w) (hK : X.K = w.K) (ha : PE X ea (tE w ax W o a)) : PE X (.UnaryOp .Not ea pos) (tE w ax W o (.not a)) := by
  refine PE.to (pe_notT ha) fun σ H Q ⟨m, s, h, r, hs, sm, e, p⟩ => ?_
  refine tE_of hs sm e p fun x h1 m1 H1 x' e1 l1 s1 rx hs1 p1 => ?_
  split at e1
  · rename_i k q
    cases e1
    exact ⟨k, by rw [hK]; exact tru_V F.con s1 rx q, p1 m1 H1 _ (Le.refl _) s1 rfl⟩
  · cases e1
theorem e_ite {t : Tt} (hc : PT X ec (tT w ax W o t)) (ha : PE X ea (tE w ax W o a)) (hb : PE X eb (tE w ax W o b)) : PE X (.IfExp ec ea eb pos) (tE w ax W o (.ite t a b)) := by
  refine PE.to (pe_ifExp hc ha hb) fun σ H Q ⟨m, s, h, r, hs, sm, e, p⟩ => ?_
  refine tT_of hs sm e p fun k h1 m1 H1 e1 l1 s1 hs1 p1 => ?_
  cases k with
  | true => exact ⟨m1, s, h1, r, hs1, s1, e1, p1⟩
  | false => exact ⟨m1, s, h1, r, hs1, s1, e1, p1⟩
theorem t_val (F : Fac w) (hK : X.K = w.K) (hp : plainT ea = true) (ha : PE X ea (tE w ax W o a)) : PT X ea (tT w ax W o (.val a)) := by
  refine PT.to (pt_truth ha (plain_test hp)) fun σ H Q ⟨m, s, h, r, hs, sm, e, p⟩ => ?_
  refine tE_of hs sm e p fun x h1 m1 H1 x' e1 l1 s1 rx hs1 p1 => ?_
  split at e1
  · rename_i k q
    cases e1
    exact ⟨k, by rw [hK]; exact tru_V F.con s1 rx q, p1 m1 H1 k (Le.refl _) s1 rfl⟩
  · cases e1
/-- a value that is a bool, its reading as a test -/
theorem rd_tst {σ : L2.St} {H : Hp} {Q : Bool → Hp → Prop} (hb : ∀ s h v h', evE w.G o a s h = some (.ok v h') → ∃ k, v = .bl k) (q : tT w ax W o (.val a) σ H Q) : tE w ax W o a σ H fun x H' => ∃ k, x = .bl k ∧ Q k H' := by
  obtain ⟨m, s, h, r, hs, sm, e, p⟩ := q
  cases q : evE w.G o a s h with
  | none =>
    have e' : Rb (evE w.G o a s h) _ = some r := e
    rw [q] at e'; cases e'
  | some r0 =>
    have e' : Rb (evE w.G o a s h) _ = some r := e
    rw [q] at e'
    refine ⟨m, s, h, r0, hs, sm, q, ?_⟩
    cases r0 with
    | ok v h1 =>
      obtain ⟨k, rfl⟩ := hb _ _ _ _ q
      cases e'
      intro m1 H1 x l s1 rx
      cases rx
      exact ⟨k, rfl, p m1 H1 k l s1 rfl⟩
    | ex x h1 => cases e'; exact p
theorem cmpop_bl {op : CmpOp} {x y v : Vv} {h h' : VH} (e : cmpop w.G o op x y h = some (.ok v h')) : ∃ k, v = .bl k := by
  unfold cmpop ok1 at e
  cases op <;> dsimp only at e
  all_goals first
    | (split at e <;> first | (cases e; exact ⟨_, rfl⟩) | (obtain ⟨b, _, q⟩ := Option.bind_eq_some_iff.mp e; split at q <;> first | (cases q; exact ⟨_, rfl⟩) | cases q) | cases e)
    | (obtain ⟨b, _, q⟩ := Option.bind_eq_some_iff.mp e; cases q; exact ⟨_, rfl⟩)
theorem Rb_some {α β : Type} {m : Option (Re α)} {k : α → VH → Option (Re β)} {v : β} {h : VH} (e : Rb m k = some (.ok v h)) : ∃ u h1, m = some (.ok u h1) ∧ k u h1 = some (.ok v h) := by
  cases m with
  | none => cases e
  | some r => cases r with
    | ok u h1 => exact ⟨u, h1, rfl, e⟩
    | ex x h1 => cases e
theorem ev_cmp_bl {op : CmpOp} (s : Sl) (h : VH) (v : Vv) (h' : VH) (e : evE w.G o (.cmp op a b) s h = some (.ok v h')) : ∃ k, v = .bl k := by
  obtain ⟨x, h1, _, e1⟩ := Rb_some e
  obtain ⟨y, h2, _, e2⟩ := Rb_some e1
  exact cmpop_bl e2
theorem ev_chain_bl {op op' : CmpOp} (s : Sl) (h : VH) (v : Vv) (h' : VH) (e : evE w.G o (.chain op op' a b c) s h = some (.ok v h')) : ∃ k, v = .bl k := by
  obtain ⟨x, h1, _, e1⟩ := Rb_some e
  obtain ⟨y, h2, _, e2⟩ := Rb_some e1
  obtain ⟨z, h3, _, e3⟩ := Rb_some e2
  split at e3
  · obtain ⟨u, h4, _, e4⟩ := Rb_some e3
    exact cmpop_bl e4
  · cases e3; exact ⟨_, rfl⟩
  · cases e3
theorem t_cmp {op : CmpOp} (F : Fac w) (hK : X.K = w.K) (hu : X.A.units + 100 < cLine) (hm : noSet eb = true) (ha : PE X ea (tE w ax W o a)) (hb : PE X eb (tE w ax W o b)) : PT X (.Compare ea [op] [eb] pos) (tT w ax W o (.val (.cmp op a b))) :=
  PT.to (pt_cmpR (op_cmp (ax := ax) hK F.con (by omega) o op) ha hb (no_marks hm)) fun _ _ _ q => rd_cmp (rd_tst ev_cmp_bl q)
theorem t_chain {op op' : CmpOp} (F : Fac w) (hK : X.K = w.K) (hu : X.A.units + 100 < cLine) (hm2 : noSet ec = true) (ha : PE X ea (tE w ax W o a)) (hb : PE X eb (tE w ax W o b)) (hc : PE X ec (tE w ax W o c)) :
    PT X (.Compare ea [op, op'] [eb, ec] pos) (tT w ax W o (.val (.chain op op' a b c))) :=
  PT.to (pt_chain (op_cmp (ax := ax) hK F.con (by omega) o op) (op_cmp (ax := ax) hK F.con (by omega) o op') ha hb hc (show lastMarks [op'] [ec] = false from no_marks hm2)) fun _ _ _ q => rd_chain (rd_tst ev_chain_bl q)
theorem t_not {t : Tt} (ha : PT X ea (tT w ax W o t)) : PT X (.UnaryOp .Not ea pos) (tT w ax W o (.not t)) := by
  refine PT.to (pt_not ha) fun σ H Q ⟨m, s, h, r, hs, sm, e, p⟩ => ?_
  refine tT_of hs sm e p fun k h1 m1 H1 e1 l1 s1 hs1 p1 => ?_
  cases e1
  exact p1 m1 H1 _ (Le.refl _) s1 rfl
theorem t_and {es : List Expr} {t u : Tt} (ha : PT X ea (tT w ax W o t)) (hb : PW X (.BoolOp .And (eb :: es) pos) (tT w ax W o u)) : PW X (.BoolOp .And (ea :: eb :: es) pos) (tT w ax W o (.and t u)) := by
  refine PW.to (pw_and ha hb) fun σ H Q ⟨m, s, h, r, hs, sm, e, p⟩ => ?_
  refine tT_of hs sm e p fun k h1 m1 H1 e1 l1 s1 hs1 p1 => ?_
  cases k with
  | true => exact ⟨m1, s, h1, r, hs1, s1, e1, p1⟩
  | false => cases e1; exact p1 m1 H1 _ (Le.refl _) s1 rfl
theorem t_or {es : List Expr} {t u : Tt} (ha : PT X ea (tT w ax W o t)) (hb : PW X (.BoolOp .Or (eb :: es) pos) (tT w ax W o u)) : PW X (.BoolOp .Or (ea :: eb :: es) pos) (tT w ax W o (.or t u)) := by
  refine PW.to (pw_or ha hb) fun σ H Q ⟨m, s, h, r, hs, sm, e, p⟩ => ?_
  refine tT_of hs sm e p fun k h1 m1 H1 e1 l1 s1 hs1 p1 => ?_
  cases k with
  | true => cases e1; exact p1 m1 H1 _ (Le.refl _) s1 rfl
  | false => exact ⟨m1, s, h1, r, hs1, s1, e1, p1⟩
theorem plain_ix {X : Cx} (h : noSlice eb = true) : PlainIx eb := fun v u => by
  cases eb <;> first | rfl | cases h
theorem e_idx (F : Fac w) (hK : X.K = w.K) (hsl : noSlice eb = true) (ha : PE X ea (tE w ax W o a)) (hb : PE X eb (tE w ax W o b)) : PE X (.Subscript ea eb pos) (tE w ax W o (.idx a b)) := by
  refine PE.to (pe_ix (ix_D (ax := ax) hK F.con) ha hb (plain_ix (X := X) hsl)) fun σ H Q ⟨m, s, h, r, hs, sm, e, p⟩ => ?_
  refine tE_of hs sm e p fun x h1 m1 H1 x' e1 l1 s1 rx hs1 p1 => ?_
  refine tE_of hs1 s1 e1 p1 fun y h2 m2 H2 y' e2 l2 s2 ry hs2 p2 => ?_
  cases r with
  | ok v h3 => exact ⟨m2, h2, x, y, v, h3, rx.mono l2, ry, s2, e2, p2⟩
  | ex x h3 => exact (index_ne e2).elim
theorem as_nil : PA X [] (tEs w ax W o .nil) := by
  refine PA.to pa_nil fun σ H Q ⟨m, s, h, r, hs, sm, e, p⟩ => ?_
  cases e
  exact p m H [] (Le.refl m) sm .nil
theorem as_cons {e : Expr} {es : List Expr} {as : Exs} (hn : notStar e = true) (he : PE X e (tE w ax W o a)) (hr : PA X es (tEs w ax W o as)) : PA X (e :: es) (tEs w ax W o (.cons a as)) := by
  refine PA.to (pa_cons he hr (star_cons hn)) fun σ H Q ⟨m, s, h, r, hs, sm, e, p⟩ => ?_
  refine tE_of hs sm e p fun x h1 m1 H1 x' e1 l1 s1 rx hs1 p1 => ?_
  refine tEs_of hs1 s1 e1 p1 fun ys h2 m2 H2 ys' e2 l2 s2 ry hs2 p2 => ?_
  cases e2
  exact p2 m2 H2 _ (Le.refl _) s2 (.cons (rx.mono l2) ry)
theorem e_tup {es : List Expr} {k : Nat} {as : Exs} (ha : PA X es (tEs w ax W o as)) : PE X (.Tuple es k pos) (tE w ax W o (.tup as)) := by
  refine PE.to (pe_tup ha) fun σ H Q ⟨m, s, h, r, hs, sm, e, p⟩ => ?_
  refine tEs_of hs sm e p fun xs h1 m1 H1 ys e1 l1 s1 rx hs1 p1 => ?_
  split at e1
  · rename_i hz
    cases e1
    refine ⟨by rw [← rx.length, ← sz_eq]; exact hz, fun q hq => ?_⟩
    exact p1 _ _ _ (s1.le q) (s1.new hq ⟨ys, upd_same, rx.mono (s1.le q)⟩) ⟨q, ext_same, rfl⟩
  · cases e1
theorem e_lst {es : List Expr} {as : Exs} (ha : PA X es (tEs w ax W o as)) : PE X (.List es pos) (tE w ax W o (.lst as)) := by
  refine PE.to (pe_lst ha) fun σ H Q ⟨m, s, h, r, hs, sm, e, p⟩ => ?_
  refine tEs_of hs sm e p fun xs h1 m1 H1 ys e1 l1 s1 rx hs1 p1 => ?_
  split at e1
  · rename_i hz
    cases e1
    refine ⟨by rw [← rx.length, ← sz_eq]; exact hz, fun q hq => ?_⟩
    exact p1 _ _ _ (s1.le q) (s1.new hq ⟨ys, upd_same, rx.mono (s1.le q)⟩) ⟨q, ext_same, rfl⟩
  · cases e1
theorem e_dnew : PE X (.Dict [] [] pos) (tE w ax W o .dnew) := by
  refine PE.to pe_dnewK fun σ H Q ⟨m, s, h, r, hs, sm, e, p⟩ => ?_
  cases e
  exact fun q hq => p _ _ _ (sm.le q) (sm.new (o := .dct []) hq ⟨[], upd_same, .nil⟩) ⟨q, ext_same, rfl⟩
theorem rd_cb {f : Bf} {as : Exs} {σ : L2.St} {H : Hp} {Q : VK} (q : tE w ax W o (.bf f as) σ H Q) : tCB (rCB w ax (callb w.G f)) (tEs w ax W o as) σ H Q := by
  obtain ⟨m, s, h, r, hs, sm, e, p⟩ := q
  refine tEs_of hs sm e p fun xs h1 m1 H1 ys e1 l1 s1 rx hs1 p1 => ?_
  cases r with
  | ok v h3 => exact ⟨m1, h1, xs, v, h3, rx, s1, e1, p1⟩
  | ex x h3 => exact (callb_ne e1).elim
theorem e_bf {e : Expr} {es : List Expr} {p : Pos} {f : Bf} {as : Exs} (F : Fac w) (hK : X.K = w.K) (hr : RoomU n X.A) (hc : f.cold = true → X.calm = true) (hg : Gl X f.name) (hm : X.mg f.name = none) (hn : (e :: es).all notStar = true) (ha : PA X (e :: es) (tEs w ax W o as)) :
    PE X (.Call (.Name f.name p) (e :: es) [] pos) (tE w ax W o (.bf f as)) := by
  have cr := call_bf (ax := ax) hK F.con F.isi hr.gu hr.units f hc
  rw [List.all_cons, Bool.and_eq_true] at hn
  have ty : ∀ {T : String}, f.val = .type T → bootBuiltins f.name = some (.type T) → (f.name ≠ "__name__") → ((f.name == ("__debug__" : Str)) = false) → PE X (.Call (.Name f.name p) (e :: es) [] pos) (tE w ax W o (.bf f as)) := fun {T} h1 h2 h3 h4 => by
    rw [h1] at cr
    exact PE.to (pe_callTy cr hg hm h2 ha (hn := h3) (hdb := h4) (he := star_cons hn.1) (hpl := star_plain hn.2)) fun _ _ _ q => rd_cb q
  have bi : ∀ {T : String}, f.val = .builtin T → bootBuiltins f.name = some (.builtin T) → (f.name ≠ "__name__") → ((f.name == ("__debug__" : Str)) = false) → PE X (.Call (.Name f.name p) (e :: es) [] pos) (tE w ax W o (.bf f as)) := fun {T} h1 h2 h3 h4 => by
    rw [h1] at cr
    exact PE.to (pe_callB cr hg hm h2 ha (hn := h3) (hdb := h4) (he := star_cons hn.1) (hpl := star_plain hn.2)) fun _ _ _ q => rd_cb q
  cases f <;> first
    | exact ty rfl (by decide +kernel) (by decide +kernel) (by decide +kernel)
    | exact bi rfl (by decide +kernel) (by decide +kernel) (by decide +kernel)
end
end Dv

set_option linter.all false
set_option autoImplicit false
set_option maxRecDepth 100000
set_option maxHeartbeats 1000000
namespace Dv
open PySem L2 PySem.Spec PyProof.Rows
/-- a def keeps a promise, at n calls' room -/
structure FnV (w : Wd) (P : Program) (wl : World) (base : Heap) (n : Nat) (f : Addr) (fd : FuncData) (ps : List Str) (sp : Sp) : Prop where
  run : ∀ (A : Around) (outer : List Env) (s : Shared) (H : Hp) (args : Args) (us : List Value) (vs : List V) (Q : VK) (E : XK), RoomU n A → A.handled = none → Env0 P wl w.K w.mg base A outer s H → BindsTo s fd args (ps.zip us) → Vals vs us → us.length = ps.length → sp vs H Q E →
    codeAny (model P wl) A (.call (.ref f) args) (CR (L2.CX P wl) outer P wl H s Q E) s
/-- what a run of a def promises -/
def spR (w : Wd) (call : List Vv → VH → Option (Re Vv)) : Sp := fun vs H Q E => ∃ m h vvs r, RL w.D m vvs vs ∧ SimW w none m h H ∧ call vvs h = some r ∧ PRr w none (R w.D) E m Q r
structure OrcOk (w : Wd) (P : Program) (wl : World) (base : Heap) (n : Nat) (call : Str → List Vv → VH → Option (Re Vv)) : Prop where
  fn : ∀ f fi, w.G.fns f = some fi → fi.kw = [] → ∃ fd ps, ps.length = fi.np ∧ FnV w P wl base n (w.D.fa f) fd ps (spR w (call f)) ∧ PySem.W.keepIn w.K (.ref (w.D.fa f)) = true ∧ Binds w.K fd ps []
  some_ : ∀ f vs h r, call f vs h = some r → ∃ fi, w.G.fns f = some fi ∧ vs.length = fi.np ∧ fi.kw = []
/-- a form of a call with keywords, as it binds -/
def KbP (w : Wd) (fd : FuncData) (ps : List Str) (p : Kp) : Prop := ∃ (mv : List Value) (mV : List V), KBn w.K fd ps p.n p.ks (fun us ws => arrG .none p.arr (us ++ ws) mv) (fun vs zs => arrG .non p.arr (vs ++ zs) mV) ∧ (∀ m, RL w.D m (p.ms.map (·.2)) mV) ∧ p.arr.length = ps.length
structure OrcK (w : Wd) (P : Program) (wl : World) (base : Heap) (n : Nat) (call : Str → Kp → List Vv → VH → Option (Re Vv)) : Prop where
  fn : ∀ f p vs h r, call f p vs h = some r → ∃ fd ps g, FnV w P wl base n (w.D.fa f) fd ps (spR w g) ∧ PySem.W.keepIn w.K (.ref (w.D.fa f)) = true ∧ KbP w fd ps p ∧ g (arrG .non p.arr vs (p.ms.map (·.2))) h = some r
/-- what a run of the text's defs keeps -/
structure FnsOk (w : Wd) (P : Program) (wl : World) (base : Heap) (n : Nat) (g : Str → List Vv → VH → Option (Re Vv)) : Prop where
  fn : ∀ f fi, w.G.fns f = some fi → ∃ fd ps, ps.length = fi.np ∧ FnV w P wl base n (w.D.fa f) fd ps (spR w (g f)) ∧ PySem.W.keepIn w.K (.ref (w.D.fa f)) = true ∧ (fi.kw = [] → Binds w.K fd ps []) ∧ ∀ p ∈ fi.kw, KbP w fd ps p
  some_ : ∀ f vs h r, g f vs h = some r → ∃ fi, w.G.fns f = some fi ∧ vs.length = fi.np
theorem FnsOk.pos {w : Wd} {P : Program} {wl : World} {base : Heap} {n : Nat} {g : Str → List Vv → VH → Option (Re Vv)} (F : FnsOk w P wl base n g) : OrcOk w P wl base n (callP w.G g) := by
  have hc : ∀ {f vs h r}, callP w.G g f vs h = some r → g f vs h = some r ∧ ∃ fi, w.G.fns f = some fi ∧ fi.kw = [] := fun {f vs h r} e => by
    unfold callP at e
    split at e
    · rename_i fi q
      split at e
      · rename_i k; exact ⟨e, fi, q, List.isEmpty_iff.mp k⟩
      · cases e
    · cases e
  refine ⟨fun f fi hf hk => ?_, fun f vs h r e => ?_⟩
  · obtain ⟨fd, ps, h1, h2, h3, h4, _⟩ := F.fn f fi hf
    refine ⟨fd, ps, h1, ⟨fun A outer s H args us vs Q E a b c d e l ⟨m, h, vvs, r, q1, q2, q3, q4⟩ => h2.run A outer s H args us vs Q E a b c d e l ⟨m, h, vvs, r, q1, q2, (hc q3).1, q4⟩⟩, h3, h4 hk⟩
  · obtain ⟨e1, fi, h1, h2⟩ := hc e
    obtain ⟨fi', h3, h4⟩ := F.some_ f vs h r e1
    rw [h1] at h3; cases h3
    exact ⟨fi, h1, h4, h2⟩
theorem FnsOk.kws {w : Wd} {P : Program} {wl : World} {base : Heap} {n : Nat} {g : Str → List Vv → VH → Option (Re Vv)} (F : FnsOk w P wl base n g) : OrcK w P wl base n (callK w.G g) := by
  refine ⟨fun f p vs h r e => ?_⟩
  unfold callK at e
  split at e
  · rename_i fi q
    split at e
    · rename_i k
      obtain ⟨fd, ps, h1, h2, h3, _, h5⟩ := F.fn f fi q
      exact ⟨fd, ps, g f, h2, h3, h5 p k, e⟩
    · cases e
  · cases e
/-- the classes -/
structure ClsOk (w : Wd) (c : Str) (k : Cl) : Prop where
  cl : k.exc = none → Cls w.K (w.D.ca c)
  fl : ∀ f, k.flds.contains f = true → PySem.W.findIn w.K (.ref (w.D.ca c)) f = some none
  pr : ∀ f fk, k.props.lookup f = some fk → ∃ p, PropOf w.K (w.D.ca c) f p (w.D.fa fk)
  me : ∀ m fk, k.meths.lookup m = some fk → k.exc = none ∧ Meth w.K (w.D.ca c) m (w.D.fa fk)
  ini : ∀ fk, k.meths.lookup ("__init__" : Str) = some fk → Mk w.K (w.D.ca c) (w.D.fa fk)
  ne : ∀ fk, k.meths.lookup ("__eq__" : Str) = some fk → PySem.W.findIn w.K (.ref (w.D.ca c)) "__ne__" = some (some (.builtin "object.__ne__"))
  xf : k.exc ≠ none → XfC w.K (w.D.ca c)
def Wd.ClsAll (w : Wd) : Prop := ∀ c k, w.G.cls c = some k → ClsOk w c k
section
variable {w : Wd} {ax : Ax} {W : WX} {o : Orc} {P : Program} {wl : World} {base : Heap} {n : Nat} {N : List Str} {sc : Scope} {X : Cx} {a b c : Ex} {ea eb ec : Expr} {pos : Pos} {f : Str} {m : Mp} {h : VH} {H : Hp}
/-- behind a call's end at A', for a value -/
theorem run_at {A' : Around} {call : Str → List Vv → VH → Option (Re Vv)} {j : Nat} (hP : X.prog = P) (hw : X.w = wl) (hK : X.K = w.K) (hm : X.mg = w.mg) (hB : X.base = base) (O : OrcOk w P wl base j call) {pins : List (Addr × Obj)} {s : Shared} {σ : L2.St} {vs : List V} {us : List Value} {Q : VK} {E : XK} {vvs : List Vv} {r : Re Vv} {R' : Result → Shared → Prop}
    (hr : RoomU j A') (hd : A'.handled = none) (e0 : Env0 X.prog X.w X.K X.mg X.base A' X.stack s H) (hk : X.K.In s.heap) (ru : Vals vs us) (rl : RL w.D m vvs vs) (sm : SimW w none m h H) (e : call f vvs h = some r) (p : PRr w none (R w.D) E m Q r)
    (hR : ∀ r s', CR (L2.CX X.prog X.w) X.stack X.prog X.w H s Q E r s' → R' r s') : codeAny (model X.prog X.w) A' (.call (.ref (w.D.fa f)) ⟨us, []⟩) R' s := by
  obtain ⟨fi, h1, h2, h2k⟩ := O.some_ f vvs h r e
  obtain ⟨fd, ps, h3, F, _, hb⟩ := O.fn f fi h1 h2k
  have hl : us.length = ps.length := by rw [← ru.length, ← rl.length, h2, h3]
  have b1 := hb s us (by rw [← hK]; exact hk) (by rw [List.append_nil]; exact hl)
  rw [List.append_nil] at b1
  subst hP hw hB
  rw [hK, hm] at e0
  exact codeAny_mono (F.run A' X.stack s H ⟨us, []⟩ us vs Q E hr hd e0 b1 ru hl ⟨m, h, vvs, r, rl, sm, e, p⟩) fun r s' hq => hR r s' hq
/-- an own def is called with values, nothing being handled -/
theorem run_V {call : Str → List Vv → VH → Option (Re Vv)} (g : Good w ax P wl base n N sc true X) (O : OrcOk w P wl base n call) (tk : Takes X W) {pins : List (Addr × Obj)} {s : Shared} {σ : L2.St} {vs : List V} {us : List Value} {Q : VK} {vvs : List Vv} {r : Re Vv}
    (I : Inv X pins σ H s) (ru : Vals vs us) (rl : RL w.D m vvs vs) (sm : SimW w none m h H) (e : call f vvs h = some r) (p : PRr w none (R w.D) (ExW W σ) m Q r) : wpAny (model X.prog X.w) X.A (PySem.call (.ref (w.D.fa f)) us) (EP X pins σ Q) X.xe s := by
  refine wpAny_call (run_at (pins := pins) (σ := σ) g.hP g.hw g.hK g.hm g.hB O g.hr (g.hd rfl) I.env0 I.kIn ru rl sm e p fun r s' hq => ?_)
  cases r with
  | error e => exact passAt tk σ pins H s e s' I hq
  | ok fl =>
    cases fl with
    | ret u => exact I.after hq
    | next => exact False.elim hq
    | brk => exact False.elim hq
    | cont => exact False.elim hq
theorem PRr.toNone {α β : Type} {rel : Mp → α → β → Prop} {E : XK} {Q : β → Hp → Prop} {r : Re α} (e : ax = none) (p : PRr w ax rel E m Q r) : PRr w none rel E m Q r := by subst e; exact p
/-- f(..) -/
theorem e_call0 {p : Pos} (g : Good w ax P wl base n N sc true X) (O : OrcOk w P wl base n o.call) (tk : Takes X W) (hg : Gl X f) (hm : w.mg f = some (.ref (w.D.fa f))) (hk : PySem.W.keepIn w.K (.ref (w.D.fa f)) = true) (hdb : (f == ("__debug__" : Str)) = false) :
    PE X (.Call (.Name f p) [] [] pos) (tE w ax W o (.call f .nil)) := by
  refine ⟨fun pins s σ H Q I ⟨m, s', h, r, hs, sm, e, q⟩ => ?_⟩
  have ea := g.nx rfl
  subst ea
  refine wpAny_Call_Name_kw (ld_glob I hg (by rw [g.hm]; exact hm) ?_ hdb)
  exact PySem.W.callWith_K0 I.kIn (by rw [g.hK]; exact hk) (run_V (vs := []) (us := []) g O tk I .nil .nil sm e q)
theorem e_call {as : Exs} {e : Expr} {es : List Expr} {p : Pos} (g : Good w ax P wl base n N sc true X) (O : OrcOk w P wl base n o.call) (tk : Takes X W) (hg : Gl X f) (hm : w.mg f = some (.ref (w.D.fa f))) (hk : PySem.W.keepIn w.K (.ref (w.D.fa f)) = true) (hdb : (f == ("__debug__" : Str)) = false)
    (hn : (e :: es).all notStar = true) (ha : PA X (e :: es) (tEs w ax W o as)) : PE X (.Call (.Name f p) (e :: es) [] pos) (tE w ax W o (.call f as)) := by
  have ea := g.nx rfl
  subst ea
  refine ⟨fun pins s σ H Q I ⟨m, s', h, r, hs, sm, ev, q⟩ => ?_⟩
  rw [List.all_cons, Bool.and_eq_true] at hn
  refine wpAny_Call_Name_kw (ld_glob I hg (by rw [g.hm]; exact hm) ?_ hdb)
  refine PySem.W.callWith_K (h₀ := X.base) I.ok.mod.kin (by rw [g.hK]; exact hk) (thn (ha.run pos pins s σ H (fun vs H1 => ∃ m h vvs r, RL w.D m vvs vs ∧ SimW w none m h H1 ∧ o.call f vvs h = some r ∧ PRr w none (R w.D) (ExW W σ) m Q r) I ?_) fun us s1 ⟨vs, H1, I1, ru, q⟩ => ⟨I1.kIn, ?_⟩) (star_cons hn.1) (star_plain hn.2)
  · exact tEs_of hs sm ev q fun xs h1 m1 H1 ys e1 l1 s1 rx hs1 p1 => ⟨m1, h1, xs, r, rx, s1, e1, p1⟩
  · obtain ⟨m, h, vvs, r', rl, sm, e, p⟩ := q
    exact run_V g O tk I1 ru rl sm e p
/-- a local name that holds a def, called -/
theorem e_cv {as : Exs} {e : Expr} {es : List Expr} {p : Pos} {i : Nat} {x : Str} (F : Fac w) (g : Good w ax P wl base n N sc true X) (O : OrcOk w P wl base n o.call) (tk : Takes X W) (hN : X.N[i]? = some x) (hv : Vis X.env.scope x) (hd : (x == ("__debug__" : Str)) = false) (hcd : (x == ("__classdict__" : Str)) = false)
    (hn : (e :: es).all notStar = true) (ha : PA X (e :: es) (tEs w ax W o as)) : PE X (.Call (.Name x p) (e :: es) [] pos) (tE w ax W o (.cv i as)) := by
  have ea := g.nx rfl
  subst ea
  refine ⟨fun pins s σ H Q I ⟨m, s', h, r, hs, sm, ev, q⟩ => ?_⟩
  rw [List.all_cons, Bool.and_eq_true] at hn
  simp only [evE] at ev
  split at ev
  · rename_i f q1
    obtain ⟨x', h1, rfl⟩ := hs.get q1
    split at ev
    · rename_i hf
      refine wpAny_Call_Name_kw (thn ((pe_var (X := X) (pos := p) (i := i) hN hv hd hcd).run pins s σ H (fun v H1 => v = .ref (w.D.fa f) ∧ H1 = H) I ⟨_, h1, rfl, rfl⟩) fun u s0 ⟨v, H0, I0, rv, ev0, eH⟩ => ?_)
      subst ev0 eH
      cases rv
      refine PySem.W.callWith_K (h₀ := X.base) I.ok.mod.kin (by rw [g.hK]; exact F.kp f hf) (thn (ha.run pos pins s0 σ H0 (fun vs H1 => ∃ m h vvs r, RL w.D m vvs vs ∧ SimW w none m h H1 ∧ o.call f vvs h = some r ∧ PRr w none (R w.D) (ExW W σ) m Q r) I0 ?_) fun us s1 ⟨vs, H1, I1, ru, q⟩ => ⟨I1.kIn, ?_⟩) (star_cons hn.1) (star_plain hn.2)
      · exact tEs_of hs sm ev q fun xs h1 m1 H1 ys e1 l1 s1 rx hs1 p1 => ⟨m1, h1, xs, r, rx, s1, e1, p1⟩
      · obtain ⟨m, h, vvs, r', rl, sm, e, p⟩ := q
        exact run_V g O tk I1 ru rl sm e p
    · cases ev
  · rename_i j q1
    split at ev
    · rename_i k fv q2
      obtain ⟨x', h1, h2⟩ := hs.get q1
      obtain ⟨a, _, _, h3⟩ := sm.ref h2 q2
      exact h3.elim
    · cases ev
  · cases ev
/-- e.m(..) of an instance of an own class -/
theorem e_meth {as : Exs} {e : Expr} {es : List Expr} {apos : Pos} {mn : Str} (F : Fac w) (C : w.ClsAll) (g : Good w ax P wl base n N sc true X) (O : OrcOk w P wl base n o.call) (tk : Takes X W) (hl : (apos.endLine == pos.line) = true) (hfew : methodCallForm (e :: es).length (backTo pos (starEach (e :: es) X.env)) (backToKw pos (keywordEach [] X.env)) = true)
    (hsu : noSuper ea = true) (hn : (e :: es).all notStar = true) (ho : PE X ea (tE w ax W o a)) (ha : PA X (e :: es) (tEs w ax W o as)) : PE X (.Call (.Attribute ea mn apos) (e :: es) [] pos) (tE w ax W o (.meth a mn as)) := by
  have eax := g.nx rfl
  subst eax
  refine ⟨fun pins s σ H Q I ⟨m, s', h, r, hs, sm, ev, q⟩ => ?_⟩
  rw [List.all_cons, Bool.and_eq_true] at hn
  refine PySem.W.methodCall_KW (pl := plainOf ea X.env) (thn (ho.run pins s σ H (fun x H1 => ∃ m h v fs c k, R w.D m v x ∧ SimW w none m h H1 ∧ SlR w.D m s' σ ∧ obj w.G h v = some (.ins c fs) ∧ methOf w.G c mn = some k ∧ fs.lookup mn = none ∧ (Rb (evEs w.G o as s' h) fun vs h2 => o.call k (v :: vs) h2) = some r ∧ PRr w none (R w.D) (ExW W σ) m Q r) I ?_) fun u s1 ⟨x, H1, I1, rx, m, h, v, fs, c, k, rv, sm, hs, ob, hm, hf, ev, q⟩ => ?_) ?_
  · refine tE_of hs sm ev q fun x h1 m1 H1 x' e1 l1 s1 rx hs1 p1 => ?_
    split at e1
    · rename_i c fs q1
      split at e1
      · rename_i k q2 q3
        exact ⟨m1, h1, x, fs, c, k, rx, s1, hs1, q1, q2, q3, e1, p1⟩
      · cases e1
    · cases e1
  · cases v with
    | ref i =>
      obtain ⟨p, rfl, _, dx, gs, h1, h2⟩ := sm.ref rv ob
      obtain rfl : u = Value.ref p := rx
      obtain ⟨kc, q1, q2⟩ := Option.bind_eq_some_iff.mp hm
      obtain ⟨hx, M⟩ := (C c kc q1).me mn k q2
      refine getmeth_ok I1 h1 (by rw [g.hK]; exact (C c kc q1).cl hx) (by rw [g.hK]; exact M) (RF.lookup_none h2 hf) ?_
      refine PySem.W.callWith_K (first := [.ref p]) (h₀ := X.base) I.ok.mod.kin (by rw [g.hK]; exact M.kp) (thn (ha.run pos pins s1 σ H1 (fun vs H1 => ∃ m h vvs r, RL w.D m (vvs) (.ref p :: vs) ∧ SimW w none m h H1 ∧ o.call k vvs h = some r ∧ PRr w none (R w.D) (ExW W σ) m Q r) I1 ?_) fun us s2 ⟨vs, H2, I2, ru, q⟩ => ⟨I2.kIn, ?_⟩) (star_cons hn.1) (star_plain hn.2)
      · exact tEs_of hs sm ev q fun xs h1 m1 H1 ys e1 l1 s1 rx hs1 p1 => ⟨m1, h1, .ref i :: xs, r, .cons (rv.mono l1) rx, s1, e1, p1⟩
      · obtain ⟨m, h, vvs, r', rl, sm, e, p'⟩ := q
        exact run_V (vs := .ref p :: vs) (us := .ref p :: us) g O tk I2 (.cons rfl ru) rl sm e p'
    | con k =>
      obtain ⟨xs, ys, e, _⟩ := F.con.only k _ ob
      cases e
    | _ => cases ob
  · show eval (.Call (.Attribute ea mn apos) (e :: es) [] pos) X.env = _
    rw [show eval (.Call (.Attribute ea mn apos) (e :: es) [] pos) X.env = (do
      let ov ← attributeBase ea mn X.env (eval ea X.env)
      standAt apos.atName
      methodCall ea mn apos pos X.env ov ((e :: es).length + ([] : List Keyword).length) (backTo pos (starEach (e :: es) X.env)) (backToKw pos (keywordEach [] X.env))) from rfl]
    rw [attr_base hsu]
    refine congrArg (fun k => eval ea X.env >>= k) (funext fun ov => ?_)
    refine congrArg (fun k => standAt apos.atName >>= k) (funext fun _ => ?_)
    exact mcall_line hfew hl
theorem e_meth0 {apos : Pos} {mn : Str} (F : Fac w) (C : w.ClsAll) (g : Good w ax P wl base n N sc true X) (O : OrcOk w P wl base n o.call) (tk : Takes X W) (hl : (apos.endLine == pos.line) = true)
    (hsu : noSuper ea = true) (ho : PE X ea (tE w ax W o a)) : PE X (.Call (.Attribute ea mn apos) [] [] pos) (tE w ax W o (.meth a mn .nil)) := by
  have eax := g.nx rfl
  subst eax
  refine ⟨fun pins s σ H Q I ⟨m, s', h, r, hs, sm, ev, q⟩ => ?_⟩
  refine PySem.W.methodCall_KW (pl := plainOf ea X.env) (thn (ho.run pins s σ H (fun x H1 => ∃ m h v fs c k, R w.D m v x ∧ SimW w none m h H1 ∧ obj w.G h v = some (.ins c fs) ∧ methOf w.G c mn = some k ∧ fs.lookup mn = none ∧ o.call k [v] h = some r ∧ PRr w none (R w.D) (ExW W σ) m Q r) I ?_) fun u s1 ⟨x, H1, I1, rx, m, h, v, fs, c, k, rv, sm, ob, hm, hf, ev, q⟩ => ?_) ?_
  · refine tE_of hs sm ev q fun x h1 m1 H1 x' e1 l1 s1 rx hs1 p1 => ?_
    split at e1
    · rename_i c fs q1
      split at e1
      · rename_i k q2 q3
        exact ⟨m1, h1, x, fs, c, k, rx, s1, q1, q2, q3, e1, p1⟩
      · cases e1
    · cases e1
  · cases v with
    | ref i =>
      obtain ⟨p, rfl, _, dx, gs, h1, h2⟩ := sm.ref rv ob
      obtain rfl : u = Value.ref p := rx
      obtain ⟨kc, q1, q2⟩ := Option.bind_eq_some_iff.mp hm
      obtain ⟨hx, M⟩ := (C c kc q1).me mn k q2
      refine getmeth_ok I1 h1 (by rw [g.hK]; exact (C c kc q1).cl hx) (by rw [g.hK]; exact M) (RF.lookup_none h2 hf) ?_
      exact PySem.W.callWith_K0 (first := [.ref p]) I1.kIn (by rw [g.hK]; exact M.kp) (run_V (vs := [.ref p]) (us := [.ref p]) g O tk I1 (.cons rfl .nil) (.cons rv .nil) sm ev q)
    | con k =>
      obtain ⟨xs, ys, e, _⟩ := F.con.only k _ ob
      cases e
    | _ => cases ob
  · show eval (.Call (.Attribute ea mn apos) [] [] pos) X.env = _
    rw [show eval (.Call (.Attribute ea mn apos) [] [] pos) X.env = (do
      let ov ← attributeBase ea mn X.env (eval ea X.env)
      standAt apos.atName
      methodCall ea mn apos pos X.env ov (([] : List Expr).length + ([] : List Keyword).length) (backTo pos (starEach [] X.env)) (backToKw pos (keywordEach [] X.env))) from rfl]
    rw [attr_base hsu]
    refine congrArg (fun k => eval ea X.env >>= k) (funext fun ov => ?_)
    refine congrArg (fun k => standAt apos.atName >>= k) (funext fun _ => ?_)
    exact mcall_line rfl hl
/-- C(..) -/
theorem run_mk {pins : List (Addr × Obj)} {s : Shared} {σ : L2.St} {vs : List V} {us : List Value} {Q : VK} {vvs : List Vv} {r : Re Vv} {cn k : Str} {j : Nat} (g : Good w ax P wl base (j + 1) N sc true X) (O : OrcOk w P wl base j o.call2) (tk : Takes X W) (M : Mk w.K (w.D.ca cn) (w.D.fa k))
    (I : Inv X pins σ H s) (ru : Vals vs us) (rl : RL w.D m vvs vs) (sm : SimW w none m h H)
    (e : (Rb (o.call2 k (.ref h.length :: vvs) (h ++ [.ins cn []])) fun r h2 => match r with | .non => some (.ok (.ref h.length) h2) | _ => none) = some r) (p : PRr w none (R w.D) (ExW W σ) m Q r) :
    wpAny (model X.prog X.w) X.A (PySem.call (.ref (w.D.ca cn)) us) (EP X pins σ Q) X.xe s := by
  have I2 := Inv.made (C := w.D.ca cn) I
  have f1 : H (s.heap.objs.size + 1) = none := I.hok.fresh (Nat.le_succ _)
  have f0 : H s.heap.objs.size = none := I.hok.fresh (Nat.le_refl _)
  have nd : s.heap.objs.size ≠ s.heap.objs.size + 1 := Nat.ne_of_lt (Nat.lt_succ_self _)
  have sm1 : SimW w none m h (upd H s.heap.objs.size (.own (s.heap.objs.size + 1))) := sm.fresh f0
  have f2 : upd H s.heap.objs.size (.own (s.heap.objs.size + 1)) (s.heap.objs.size + 1) = none := by rw [upd_ne nd.symm]; exact f1
  have sm2 := sm1.new (o := .ins cn []) (u := .ins (w.D.ca cn) s.heap.objs.size []) f2 ⟨_, [], upd_same, .nil⟩
  have l1 := sm1.le (s.heap.objs.size + 1)
  have rl2 : RL w.D (ext m h.length (s.heap.objs.size + 1)) (.ref h.length :: vvs) (.ref (s.heap.objs.size + 1) :: vs) := .cons ⟨_, ext_same, rfl⟩ (rl.mono l1)
  cases q : o.call2 k (.ref h.length :: vvs) (h ++ [.ins cn []]) with
  | none => rw [q] at e; cases e
  | some r0 =>
    rw [q] at e
    refine wpAny_call (make_map (f := w.D.fa k) I.kIn (by rw [g.hK]; exact M.makes) (by rw [g.hK]; exact M.init) (by rw [g.hK]; exact beq_iff_eq.mp M.fn)
      (run_at (pins := pins) (σ := σ) (Q := fun v H2 => v = .non ∧ Q (.ref (s.heap.objs.size + 1)) H2) (E := ExW W σ) g.hP g.hw g.hK g.hm g.hB O (g.hr.make _ us []) (g.hd rfl) (I2.env0.make _ us []) I2.kIn (vs := .ref (s.heap.objs.size + 1) :: vs) (.cons rfl ru) rl2 sm2 q ?_ fun r s' hq => ?_))
    · cases r0 with
      | ok v h2 =>
        intro m' H' x l s' rx
        cases v with
        | non =>
          cases rx
          cases e
          exact ⟨rfl, p m' H' _ (l1.trans l) s' ⟨_, l _ _ ext_same, rfl⟩⟩
        | _ => cases e
      | ex x h2 => cases e; exact p.mono l1
    · cases r with
      | error e => exact passAt tk σ pins _ _ e s' I2 hq
      | ok fl =>
        cases fl with
        | ret u =>
          obtain ⟨v, H', I3, rv, ev, q3⟩ := I2.after hq
          subst ev
          exact ⟨rv, ⟨V.ref (s.heap.objs.size + 1), H', I3, rfl, q3⟩⟩
        | next => exact False.elim hq
        | brk => exact False.elim hq
        | cont => exact False.elim hq
theorem e_mk {as : Exs} {e : Expr} {es : List Expr} {p : Pos} {cn : Str} {j : Nat} (C : w.ClsAll) (g : Good w ax P wl base (j + 1) N sc true X) (O : OrcOk w P wl base j o.call2) (tk : Takes X W) (hg : Gl X cn) (hm : w.mg cn = some (.ref (w.D.ca cn))) (hdb : (cn == ("__debug__" : Str)) = false)
    (hn : (e :: es).all notStar = true) (hin : (methOf w.G cn "__init__").isSome = true) (ha : PA X (e :: es) (tEs w ax W o as)) : PE X (.Call (.Name cn p) (e :: es) [] pos) (tE w ax W o (.mk cn as)) := by
  have ea := g.nx rfl
  subst ea
  refine ⟨fun pins s σ H Q I ⟨m, s', h, r, hs, sm, ev, q⟩ => ?_⟩
  rw [List.all_cons, Bool.and_eq_true] at hn
  obtain ⟨k, hk⟩ := Option.isSome_iff_exists.mp hin
  obtain ⟨kc, q1, q2⟩ := Option.bind_eq_some_iff.mp hk
  have M := (C cn kc q1).ini k q2
  refine wpAny_Call_Name_kw (ld_glob I hg (by rw [g.hm]; exact hm) ?_ hdb)
  refine PySem.W.callWith_K (h₀ := X.base) I.ok.mod.kin (by rw [g.hK]; exact M.kp) (thn (ha.run pos pins s σ H (fun vs H1 => ∃ m h vvs, RL w.D m vvs vs ∧ SimW w none m h H1 ∧ (Rb (o.call2 k (.ref h.length :: vvs) (h ++ [.ins cn []])) fun r h2 => match r with | .non => some (.ok (.ref h.length) h2) | _ => none) = some r ∧ PRr w none (R w.D) (ExW W σ) m Q r) I ?_) fun us s1 ⟨vs, H1, I1, ru, q⟩ => ⟨I1.kIn, ?_⟩) (star_cons hn.1) (star_plain hn.2)
  · refine tEs_of hs sm ev q fun xs h1 m1 H1 ys e1 l1 s1 rx hs1 p1 => ⟨m1, h1, xs, rx, s1, ?_, p1⟩
    rw [hk] at e1
    exact e1
  · obtain ⟨m, h, vvs, rl, sm, e, p⟩ := q
    exact run_mk g O tk M I1 ru rl sm e p
end
end Dv

set_option linter.all false
set_option autoImplicit false
set_option maxRecDepth 100000
set_option maxHeartbeats 1000000
namespace Dv
open PySem L2 PySem.Spec PyProof.Rows
theorem Paired.getD {α β : Type} {F : α → β → Prop} {z : α} {z' : β} (hz : F z z') : ∀ {xs : List α} {ys : List β} (i : Nat), Paired F xs ys → F (xs.getD i z) (ys.getD i z')
  | _, _, _, .nil => by simpa using hz
  | _, _, 0, .cons r _ => by simpa using r
  | _, _, i + 1, .cons _ t => by simpa using Paired.getD hz i t
theorem arr_P {α β : Type} {F : α → β → Prop} {z : α} {z' : β} (hz : F z z') {xs ds : List α} {ys es : List β} (r : Paired F xs ys) (r2 : Paired F ds es) : ∀ arr : List (Nat ⊕ Nat), Paired F (arrG z arr xs ds) (arrG z' arr ys es)
  | [] => .nil
  | .inl i :: l => .cons (Paired.getD hz i r) (arr_P hz r r2 l)
  | .inr i :: l => .cons (Paired.getD hz i r2) (arr_P hz r r2 l)
theorem arr_len {α : Type} {z : α} {arr : List (Nat ⊕ Nat)} {xs ds : List α} : (arrG z arr xs ds).length = arr.length := List.length_map _
theorem Paired.splitP {α β : Type} {F : α → β → Prop} : ∀ {xs xs' : List α} {ys : List β}, Paired F (xs ++ xs') ys → ∃ a b, ys = a ++ b ∧ Paired F xs a ∧ Paired F xs' b
  | [], _, _, h => ⟨[], _, rfl, .nil, h⟩
  | x :: xs, _, _, .cons r t => by
    obtain ⟨a, b, rfl, h1, h2⟩ := Paired.splitP (xs := xs) t
    exact ⟨_ :: a, b, rfl, .cons r h1, h2⟩
section
variable {w : Wd} {ax : Ax} {W : WX} {o : Orc} {P : Program} {wl : World} {base : Heap} {n : Nat} {N : List Str} {sc : Scope} {X : Cx} {a b c : Ex} {ea eb ec : Expr} {pos : Pos} {f : Str} {m : Mp} {h : VH} {H : Hp} {kp : Kp}
/-- a call by a def's form at A' -/
theorem run_atK {A' : Around} {call : Str → Kp → List Vv → VH → Option (Re Vv)} {j : Nat} (hP : X.prog = P) (hw : X.w = wl) (hK : X.K = w.K) (hm : X.mg = w.mg) (hB : X.base = base) (O : OrcK w P wl base j call) {pins : List (Addr × Obj)} {s : Shared} {σ : L2.St} {vs zs : List V} {us ws : List Value} {Q : VK} {E : XK} {vvs wvs : List Vv} {r : Re Vv} {R' : Result → Shared → Prop}
    (hr : RoomU j A') (hd : A'.handled = none) (e0 : Env0 X.prog X.w X.K X.mg X.base A' X.stack s H) (hk : X.K.In s.heap) (ru : Vals vs us) (rz : Vals zs ws) (rl : RL w.D m vvs vs) (rlz : RL w.D m wvs zs) (l1 : vvs.length = kp.n) (l2 : wvs.length = kp.ks.length) (sm : SimW w none m h H) (e : call f kp (vvs ++ wvs) h = some r) (p : PRr w none (R w.D) E m Q r)
    (hR : ∀ r s', CR (L2.CX X.prog X.w) X.stack X.prog X.w H s Q E r s' → R' r s') : codeAny (model X.prog X.w) A' (.call (.ref (w.D.fa f)) ⟨us, kp.ks.zip ws⟩) R' s := by
  obtain ⟨fd, ps, g, F, _, ⟨mv, mV, kb, rm, hl⟩, e1⟩ := O.fn f kp _ h r e
  have b1 := kb.to s us ws (by rw [← hK]; exact hk) (by rw [← ru.length, ← rl.length, l1]) (by rw [← rz.length, ← rlz.length, l2])
  subst hP hw hB
  rw [hK, hm] at e0
  exact codeAny_mono (F.run A' X.stack s H ⟨us, kp.ks.zip ws⟩ _ _ Q E hr hd e0 b1 (kb.rel ru rz) (by rw [arr_len]; exact hl) ⟨m, h, _, r, arr_P (F := R w.D m) (z := .non) (z' := .non) rfl (Paired.app rl rlz) (rm m) kp.arr, sm, e1, p⟩) fun r s' hq => hR r s' hq
theorem run_VK {call : Str → Kp → List Vv → VH → Option (Re Vv)} (g : Good w ax P wl base n N sc true X) (O : OrcK w P wl base n call) (tk : Takes X W) {pins : List (Addr × Obj)} {s : Shared} {σ : L2.St} {vs zs : List V} {us ws : List Value} {Q : VK} {vvs wvs : List Vv} {r : Re Vv}
    (I : Inv X pins σ H s) (ru : Vals vs us) (rz : Vals zs ws) (rl : RL w.D m vvs vs) (rlz : RL w.D m wvs zs) (l1 : vvs.length = kp.n) (l2 : wvs.length = kp.ks.length) (sm : SimW w none m h H) (e : call f kp (vvs ++ wvs) h = some r) (p : PRr w none (R w.D) (ExW W σ) m Q r) : wpAny (model X.prog X.w) X.A (PySem.call (.ref (w.D.fa f)) us (kp.ks.zip ws)) (EP X pins σ Q) X.xe s := by
  refine wpAny_call (run_atK (pins := pins) (σ := σ) g.hP g.hw g.hK g.hm g.hB O g.hr (g.hd rfl) I.env0 I.kIn ru rz rl rlz l1 l2 sm e p fun r s' hq => ?_)
  cases r with
  | error e => exact passAt tk σ pins H s e s' I hq
  | ok fl =>
    cases fl with
    | ret u => exact I.after hq
    | next => exact False.elim hq
    | brk => exact False.elim hq
    | cont => exact False.elim hq
structure PKt (X : Cx) (kws : List Keyword) (t : TA) : Prop extends PK X kws t
theorem k_nil : PK X [] (tEs w ax W o .nil) := by
  refine ⟨fun pos pins s σ H Q I ⟨m, s', h, r, hs, sm, e, p⟩ => pk_nil.run pos pins s σ H Q I ?_⟩
  cases e
  exact p m H [] (Le.refl m) sm .nil
theorem k_cons {as : Exs} {e : Expr} {kws : List Keyword} {nm : Option Str} {kpos : Pos} (ha : PE X e (tE w ax W o a)) (hr : PK X kws (tEs w ax W o as)) : PK X (⟨nm, e, kpos⟩ :: kws) (tEs w ax W o (.cons a as)) := by
  refine ⟨fun pos pins s σ H Q I ⟨m, s', h, r, hs, sm, e, p⟩ => (pk_cons ha hr).run pos pins s σ H Q I ?_⟩
  refine tE_of hs sm e p fun x h1 m1 H1 x' e1 l1 s1 rx hs1 p1 => ?_
  refine tEs_of hs1 s1 e1 p1 fun ys h2 m2 H2 ys' e2 l2 s2 ry hs2 p2 => ?_
  cases e2
  exact p2 m2 H2 _ (Le.refl _) s2 (.cons (rx.mono l2) ry)
/-- the names of a call's keywords -/
def kwNames : List Keyword → List Str → Bool
  | [], [] => true
  | ⟨some n, _, _⟩ :: r, k :: ks => decide (n = k) && kwNames r ks
  | _, _ => false
theorem kw_all {env : Env} {pos : Pos} : ∀ {kws : List Keyword} {ks : List Str}, kwNames kws ks = true → (backToKw pos (keywordEach kws env)).all (·.1.isSome) = true ∧ (backToKw pos (keywordEach kws env)).filterMap (·.1) = ks ∧ (backToKw pos (keywordEach kws env)).any (·.1.isNone) = false
  | [], [], _ => ⟨rfl, rfl, rfl⟩
  | ⟨some n, e, p⟩ :: r, k :: ks, h => by
    have h : (decide (n = k) && kwNames r ks) = true := h
    rw [Bool.and_eq_true] at h
    obtain rfl := of_decide_eq_true h.1
    obtain ⟨h1, h2, h3⟩ := kw_all (env := env) (pos := pos) h.2
    refine ⟨?_, ?_, ?_⟩
    · show (true && (backToKw pos (keywordEach r env)).all (·.1.isSome)) = true
      rw [h1]; rfl
    · show n :: (backToKw pos (keywordEach r env)).filterMap (·.1) = n :: ks
      rw [h2]
    · show (false || (backToKw pos (keywordEach r env)).any (·.1.isNone)) = false
      rw [h3]; rfl
  | ⟨some n, e, p⟩ :: r, [], h => by cases h
  | ⟨none, e, p⟩ :: r, ks, h => by cases ks <;> cases h
  | [], k :: ks, h => by cases h
/-- f(e, .., k = v, ..) -/
theorem e_callk {as ks : Exs} {e : Expr} {es : List Expr} {kws : List Keyword} {p : Pos} (g : Good w ax P wl base n N sc true X) (O : OrcK w P wl base n o.callk) (tk : Takes X W) (hg : Gl X f) (hm : w.mg f = some (.ref (w.D.fa f))) (hk : PySem.W.keepIn w.K (.ref (w.D.fa f)) = true) (hdb : (f == ("__debug__" : Str)) = false)
    (hn : (e :: es).all notStar = true) (hkn : kwNames kws kp.ks = true) (ha : PA X (e :: es) (tEs w ax W o as)) (hkw : PK X kws (tEs w ax W o ks)) : PE X (.Call (.Name f p) (e :: es) kws pos) (tE w ax W o (.callk f kp as ks)) := by
  have ea := g.nx rfl
  subst ea
  refine ⟨fun pins s σ H Q I ⟨m, s', h, r, hs, sm, ev, q⟩ => ?_⟩
  rw [List.all_cons, Bool.and_eq_true] at hn
  obtain ⟨k1, k2, k3⟩ := kw_all (env := X.env) (pos := pos) hkn
  refine wpAny_Call_Name_kw (ld_glob I hg (by rw [g.hm]; exact hm) ?_ hdb)
  refine PySem.W.callWith_KW (h₀ := X.base) I.ok.mod.kin (by rw [g.hK]; exact hk) k1 (thn (ha.run pos pins s σ H (fun vs H1 => ∃ m h vvs r, RL w.D m vvs vs ∧ SlR w.D m s' σ ∧ SimW w none m h H1 ∧ (Rb (evEs w.G o ks s' h) fun ws h2 => if vvs.length = kp.n ∧ ws.length = kp.ks.length then o.callk f kp (vvs ++ ws) h2 else none) = some r ∧ PRr w none (R w.D) (ExW W σ) m Q r) I ?_) fun us s1 ⟨vs, H1, I1, ru, q⟩ => ?_) (by rw [k3, Bool.or_false]; exact star_plain (by rw [List.all_cons, hn.1, hn.2]; rfl)) (star_cons hn.1)
  · exact tEs_of hs sm ev q fun xs h1 m1 H1 ys e1 l1 s1 rx hs1 p1 => ⟨m1, h1, xs, r, rx, hs1, s1, e1, p1⟩
  · obtain ⟨m, h, vvs, r', rl, hs, sm, e, p⟩ := q
    refine thn (hkw.run pos pins s1 σ H1 (fun zs H2 => ∃ m h wvs, RL w.D m vvs vs ∧ RL w.D m wvs zs ∧ SimW w none m h H2 ∧ (if vvs.length = kp.n ∧ wvs.length = kp.ks.length then o.callk f kp (vvs ++ wvs) h else none) = some r' ∧ PRr w none (R w.D) (ExW W σ) m Q r') I1 ?_) fun ws s2 ⟨zs, H2, I2, rz, q2⟩ => ⟨I2.kIn, ?_⟩
    · exact tEs_of hs sm e p fun xs h1 m1 H1 ys e1 l1 s1 rx hs1 p1 => ⟨m1, h1, xs, rl.mono l1, rx, s1, e1, p1⟩
    · obtain ⟨m, h, wvs, rl, rlz, sm, e, p⟩ := q2
      split at e
      · rename_i hl
        rw [k2]
        exact run_VK g O tk I2 ru rz rl rlz hl.1 hl.2 sm e p
      · cases e
/-- C(e, .., k = v, ..) -/
theorem run_mkk {pins : List (Addr × Obj)} {s : Shared} {σ : L2.St} {vs zs : List V} {us ws : List Value} {Q : VK} {vvs wvs : List Vv} {r : Re Vv} {cn k : Str} {j : Nat} (g : Good w ax P wl base (j + 1) N sc true X) (O : OrcK w P wl base j o.callk2) (tk : Takes X W) (M : Mk w.K (w.D.ca cn) (w.D.fa k))
    (I : Inv X pins σ H s) (ru : Vals vs us) (rz : Vals zs ws) (rl : RL w.D m vvs vs) (rlz : RL w.D m wvs zs) (l1 : vvs.length + 1 = kp.n) (l2 : wvs.length = kp.ks.length) (sm : SimW w none m h H)
    (e : (Rb (o.callk2 k kp (.ref h.length :: (vvs ++ wvs)) (h ++ [.ins cn []])) fun r h2 => match r with | .non => some (.ok (.ref h.length) h2) | _ => none) = some r) (p : PRr w none (R w.D) (ExW W σ) m Q r) :
    wpAny (model X.prog X.w) X.A (PySem.call (.ref (w.D.ca cn)) us (kp.ks.zip ws)) (EP X pins σ Q) X.xe s := by
  have I2 := Inv.made (C := w.D.ca cn) I
  have f1 : H (s.heap.objs.size + 1) = none := I.hok.fresh (Nat.le_succ _)
  have f0 : H s.heap.objs.size = none := I.hok.fresh (Nat.le_refl _)
  have nd : s.heap.objs.size ≠ s.heap.objs.size + 1 := Nat.ne_of_lt (Nat.lt_succ_self _)
  have sm1 : SimW w none m h (upd H s.heap.objs.size (.own (s.heap.objs.size + 1))) := sm.fresh f0
  have f2 : upd H s.heap.objs.size (.own (s.heap.objs.size + 1)) (s.heap.objs.size + 1) = none := by rw [upd_ne nd.symm]; exact f1
  have sm2 := sm1.new (o := .ins cn []) (u := .ins (w.D.ca cn) s.heap.objs.size []) f2 ⟨_, [], upd_same, .nil⟩
  have le1 := sm1.le (s.heap.objs.size + 1)
  have rl2 : RL w.D (ext m h.length (s.heap.objs.size + 1)) (.ref h.length :: vvs) (.ref (s.heap.objs.size + 1) :: vs) := .cons ⟨_, ext_same, rfl⟩ (rl.mono le1)
  cases q : o.callk2 k kp (.ref h.length :: (vvs ++ wvs)) (h ++ [.ins cn []]) with
  | none => rw [q] at e; cases e
  | some r0 =>
    rw [q] at e
    refine wpAny_call (make_map (f := w.D.fa k) I.kIn (by rw [g.hK]; exact M.makes) (by rw [g.hK]; exact M.init) (by rw [g.hK]; exact beq_iff_eq.mp M.fn)
      (run_atK (pins := pins) (σ := σ) (Q := fun v H2 => v = .non ∧ Q (.ref (s.heap.objs.size + 1)) H2) (E := ExW W σ) g.hP g.hw g.hK g.hm g.hB O (g.hr.make _ us (kp.ks.zip ws)) (g.hd rfl) (I2.env0.make _ us (kp.ks.zip ws)) I2.kIn (vs := .ref (s.heap.objs.size + 1) :: vs) (vvs := .ref h.length :: vvs) (.cons rfl ru) rz rl2 (rlz.mono le1) l1 l2 sm2 q ?_ fun r s' hq => ?_))
    · cases r0 with
      | ok v h2 =>
        intro m' H' x l s' rx
        cases v with
        | non =>
          cases rx
          cases e
          exact ⟨rfl, p m' H' _ (le1.trans l) s' ⟨_, l _ _ ext_same, rfl⟩⟩
        | _ => cases e
      | ex x h2 => cases e; exact p.mono le1
    · cases r with
      | error e => exact passAt tk σ pins _ _ e s' I2 hq
      | ok fl =>
        cases fl with
        | ret u =>
          obtain ⟨v, H', I3, rv, ev, q3⟩ := I2.after hq
          subst ev
          exact ⟨rv, ⟨V.ref (s.heap.objs.size + 1), H', I3, rfl, q3⟩⟩
        | next => exact False.elim hq
        | brk => exact False.elim hq
        | cont => exact False.elim hq
theorem e_mkk {as ks : Exs} {e : Expr} {es : List Expr} {kws : List Keyword} {p : Pos} {cn : Str} {j : Nat} (C : w.ClsAll) (g : Good w ax P wl base (j + 1) N sc true X) (O : OrcK w P wl base j o.callk2) (tk : Takes X W) (hg : Gl X cn) (hm : w.mg cn = some (.ref (w.D.ca cn))) (hdb : (cn == ("__debug__" : Str)) = false)
    (hn : (e :: es).all notStar = true) (hkn : kwNames kws kp.ks = true) (hin : (methOf w.G cn "__init__").isSome = true) (ha : PA X (e :: es) (tEs w ax W o as)) (hkw : PK X kws (tEs w ax W o ks)) : PE X (.Call (.Name cn p) (e :: es) kws pos) (tE w ax W o (.mkk cn kp as ks)) := by
  have ea := g.nx rfl
  subst ea
  refine ⟨fun pins s σ H Q I ⟨m, s', h, r, hs, sm, ev, q⟩ => ?_⟩
  rw [List.all_cons, Bool.and_eq_true] at hn
  obtain ⟨k, hk⟩ := Option.isSome_iff_exists.mp hin
  obtain ⟨kc, q1, q2⟩ := Option.bind_eq_some_iff.mp hk
  have M := (C cn kc q1).ini k q2
  obtain ⟨k1, k2, k3⟩ := kw_all (env := X.env) (pos := pos) hkn
  refine wpAny_Call_Name_kw (ld_glob I hg (by rw [g.hm]; exact hm) ?_ hdb)
  refine PySem.W.callWith_KW (h₀ := X.base) I.ok.mod.kin (by rw [g.hK]; exact M.kp) k1 (thn (ha.run pos pins s σ H (fun vs H1 => ∃ m h vvs r, RL w.D m vvs vs ∧ SlR w.D m s' σ ∧ SimW w none m h H1 ∧ (Rb (evEs w.G o ks s' h) fun ws h2 => if vvs.length + 1 = kp.n ∧ ws.length = kp.ks.length then Rb (o.callk2 k kp (.ref h2.length :: (vvs ++ ws)) (h2 ++ [.ins cn []])) fun r h3 => match r with
      | .non => some (.ok (.ref h2.length) h3)
      | _ => none else none) = some r ∧ PRr w none (R w.D) (ExW W σ) m Q r) I ?_) fun us s1 ⟨vs, H1, I1, ru, q⟩ => ?_) (by rw [k3, Bool.or_false]; exact star_plain (by rw [List.all_cons, hn.1, hn.2]; rfl)) (star_cons hn.1)
  · refine tEs_of hs sm ev q fun xs h1 m1 H1 ys e1 l1 s1 rx hs1 p1 => ⟨m1, h1, xs, r, rx, hs1, s1, ?_, p1⟩
    rw [hk] at e1
    exact e1
  · obtain ⟨m, h, vvs, r', rl, hs, sm, e, p⟩ := q
    refine thn (hkw.run pos pins s1 σ H1 (fun zs H2 => ∃ m h wvs, RL w.D m vvs vs ∧ RL w.D m wvs zs ∧ SimW w none m h H2 ∧ (if vvs.length + 1 = kp.n ∧ wvs.length = kp.ks.length then Rb (o.callk2 k kp (.ref h.length :: (vvs ++ wvs)) (h ++ [.ins cn []])) fun r h3 => match r with
      | .non => some (.ok (.ref h.length) h3)
      | _ => none else none) = some r' ∧ PRr w none (R w.D) (ExW W σ) m Q r') I1 ?_) fun ws s2 ⟨zs, H2, I2, rz, q2⟩ => ⟨I2.kIn, ?_⟩
    · exact tEs_of hs sm e p fun xs h1 m1 H1 ys e1 l1 s1 rx hs1 p1 => ⟨m1, h1, xs, rl.mono l1, rx, s1, e1, p1⟩
    · obtain ⟨m, h, wvs, rl, rlz, sm, e, p⟩ := q2
      split at e
      · rename_i hl
        rw [k2]
        exact run_mkk g O tk M I2 ru rz rl rlz hl.1 hl.2 sm e p
      · cases e
end
end Dv

set_option linter.all false
set_option autoImplicit false
set_option maxRecDepth 100000
set_option maxHeartbeats 1000000
namespace DvE
open PySem PySem.Spec PyProof.Rows PySem.SeqAt
section
variable {prog : Program} {w : World} {A : Around} {E : Value → Shared → Prop} {s : Shared} {K : PySem.W.Frag} {x C f : Addr} {ox : Obj} {od : Option Obj} {b tb : Value}
theorem ifBound_objNe {M : Model} {args : List Value} {Q : Option Value → Shared → Prop} (X : K.In s.heap) (I : PySem.W.InstAt s.heap x ox C od) (hs : PySem.W.findIn K (.ref C) "__ne__" = some (some (.builtin "object.__ne__")))
    (h : wpAny M A (call (.builtin "object.__ne__") (.ref x :: args)) (fun v => Q (some v)) E s) : wpAny M A (callSpecialIfBound? (.ref x) "__ne__" args) Q E s := by
  simp only [callSpecialIfBound?, bindSpecialIfBound?]
  refine wpAny_holding (wpAny_bind (wpAny_bind (wpAny_bind (I.type.here ((PySem.W.looks_findIn X hs).here ?_)))))
  refine wpAny_bind (wpAny_askSetting (wpAny_ite ?_))
  have fin : wpAny M A (call (.builtin "object.__ne__") ([.ref x] ++ args) >>= fun v => pure (some v)) Q E s := wpAny_bind (wpAny_mono h (fun v s' h' => wpAny_pure h') fun _ _ h' => h')
  split
  · exact wpAny_bind (wpAny_of_eq (F.cmp_object.ne.bind _) (wpAny_pure (by exact fin)))
  · exact wpAny_tryCatch (wpAny_bind (wpAny_of_eq (F.cmp_object.ne.bind _) (wpAny_pure (by exact fin))))
theorem call_objNe {Q : Value → Shared → Prop} (hu : A.in1.units < cLine) (X : K.In s.heap) (I : PySem.W.InstAt s.heap x ox C od) (hm : PySem.W.mroIn K C (.type "object") = some true) (hs : PySem.W.findIn K (.ref C) "__eq__" = some (some (.ref f))) (hf : PySem.W.isFn K (.ref f) = true)
    (h : wpAny (model prog w) A.in1 (call (.ref f) [.ref x, b]) (fun v s' => ∃ k, v = .bool k ∧ Q (.bool (!k)) s') E s) :
    wpAny (model prog w) A (call (.builtin "object.__ne__") [.ref x, b]) Q E s := by
  refine wpAny_call (codeAny_call_builtin F.cmp_object.ne.plain F.cmpEntry_ne (PySem.W.check_slot F.cmpKind_ne F.cmpSplit_ne (I.type.andThen (PySem.W.looks_mroIn X hm)) (F.cmpArgs_ne _ _) ?_))
  unfold Builtin.«object.__ne__»
  refine wpAny_bind (m := slotArgs "__ne__" 1 _) (wpAny_pure ?_)
  refine wpAny_bind (wpAny_cRoomFor hu ?_)
  refine wpAny_bind (m := callSpecialIfBound? (.ref x) "__eq__" [b]) (PySem.W.ifBound_K X I hs hf (wpAny_mono h (fun v s' z => ?_) fun _ _ e => e))
  obtain ⟨k, rfl, q⟩ := z
  refine wpAny_bind (m := truthy (.bool k)) (wpAny_truthy_bool ?_)
  exact wpAny_pure q
theorem cmpNe_K {Q : Value → Shared → Prop} (hu : A.in1.units < cLine) (hu0 : A.units < cLine) (X : K.In s.heap) (I : PySem.W.InstAt s.heap x ox C od) (hb : PySem.W.Looks (model prog w) s.heap (typeOf b) tb) (hn : PySem.W.notFirst K C tb = true)
    (hne : PySem.W.findIn K (.ref C) "__ne__" = some (some (.builtin "object.__ne__"))) (hm : PySem.W.mroIn K C (.type "object") = some true) (hs : PySem.W.findIn K (.ref C) "__eq__" = some (some (.ref f))) (hf : PySem.W.isFn K (.ref f) = true)
    (h : wpAny (model prog w) A.in1 (call (.ref f) [.ref x, b]) (fun v s' => ∃ k, v = .bool k ∧ Q (.bool (!k)) s') E s) : wpAny (model prog w) A (richCompare .NotEq (.ref x) b) Q E s := by
  have one : wpAny (model prog w) A (tryCompare (.ref x) "__ne__" b) (fun r s' => ∃ v, r = some v ∧ Q v s') E s := by
    unfold tryCompare
    refine wpAny_bind (ifBound_objNe X I hne (call_objNe hu X I hm hs hf (wpAny_mono h (fun v s' hv => ?_) fun _ _ e => e)))
    obtain ⟨k, rfl, q⟩ := hv
    exact ⟨k, rfl, wpAny_pure ⟨_, rfl, q⟩⟩
  simp only [richCompare, cmpInfo_NotEq, oneThing_ref]
  refine wpAny_holding (wpAny_bind (wpAny_cRoomFor hu0 ?_))
  refine wpAny_bind (I.type.here (wpAny_bind (hb.here ?_)))
  split
  · rename_i q
    have e : PySem.W.subIn K tb (.ref C) = some false := by
      rcases Bool.or_eq_true_iff.mp hn with e | e
      · rw [beq_iff_eq.mp e] at q; simp at q
      · exact beq_iff_eq.mp e
    refine wpAny_bind ((PySem.W.looks_subIn X e).here ?_)
    simp only [Bool.false_eq_true, if_false]
    refine wpAny_bind (wpAny_mono one (fun r s' z => ?_) fun _ _ e => e)
    obtain ⟨v, rfl, hq⟩ := z
    exact wpAny_pure hq
  · refine wpAny_bind (wpAny_pure ?_)
    simp only [Bool.false_eq_true, if_false]
    refine wpAny_bind (wpAny_mono one (fun r s' z => ?_) fun _ _ e => e)
    obtain ⟨v, rfl, hq⟩ := z
    exact wpAny_pure hq
end
end DvE
namespace Dv
open PySem L2 PySem.Spec PyProof.Rows
theorem RoomU.units0 {n : Nat} {A : Around} (r : RoomU n A) : A.units < cLine := by have := r.un; omega
theorem blR_ne {neg : Bool} {r : Option (Re Vv)} {e : Xv} {h' : VH} : blR neg r = some (.ex e h') → False := by
  intro q; unfold blR at q; split at q <;> cases q
theorem cmpoF_ne {G : Tx} {o : Orc} {op : CmpOp} {x y : Vv} {h h' : VH} {e : Xv} : cmpoF G o op x y h = some (.ex e h') → False := by
  intro q
  unfold cmpoF at q
  split at q
  · split at q
    · split at q <;> first | exact blR_ne q | cases q
    · cases q
  · exact cmpop_ne q
theorem blR_bl {neg : Bool} {r : Option (Re Vv)} {v : Vv} {h' : VH} (q : blR neg r = some (.ok v h')) : ∃ k, v = .bl k := by
  unfold blR at q; split at q <;> cases q; exact ⟨_, rfl⟩
section
variable {w : Wd} {W : WX} {o : Orc} {P : Program} {wl : World} {base : Heap} {n : Nat} {N : List Str} {sc : Scope} {X : Cx} {a b c : Ex} {ea eb ec : Expr} {pos : Pos} {f : Str} {m : Mp} {h : VH} {H : Hp} {op : CmpOp} {ax : Ax}
theorem cmpoF_bl {x y v : Vv} {h h' : VH} (q : cmpoF w.G o op x y h = some (.ok v h')) : ∃ k, v = .bl k := by
  unfold cmpoF at q
  split at q
  · split at q
    · split at q <;> first | exact blR_bl q | cases q
    · cases q
  · exact cmpop_bl q
theorem sub_ty {K : PySem.W.Frag} {C : Addr} {n : String} (hn : n ∈ ["NoneType", "int", "bool", "str", "list", "tuple", "dict"]) : PySem.W.subIn K (.type n) (.ref C) = some false := by
  have go : ∀ {l : List Value}, fastBuiltinMro n = some l → l.all (fun v => match v with | .type _ => true | _ => false) = true → PySem.W.subIn K (.type n) (.ref C) = some false := fun {l} e hl => by
    show (fastBuiltinMro n).map (·.contains (.ref C)) = some false
    rw [e]
    simp only [Option.map_some, Option.some.injEq]
    rw [Bool.eq_false_iff]
    intro z
    have := List.all_eq_true.mp hl _ (List.contains_iff_mem.mp z)
    cases this
  simp only [List.mem_cons, List.mem_singleton, List.not_mem_nil, or_false] at hn
  rcases hn with rfl | rfl | rfl | rfl | rfl | rfl | rfl
  · exact go (l := [.type "NoneType", .type "object"]) (by decide +kernel) rfl
  · exact go (l := [.type "int", .type "object"]) (by decide +kernel) rfl
  · exact go (l := [.type "bool", .type "int", .type "object"]) (by decide +kernel) rfl
  · exact go (l := [.type "str", .type "object"]) (by decide +kernel) rfl
  · exact go (l := [.type "list", .type "object"]) (by decide +kernel) rfl
  · exact go (l := [.type "tuple", .type "object"]) (by decide +kernel) rfl
  · exact go (l := [.type "dict", .type "object"]) (by decide +kernel) rfl
theorem op_cmpo (F : Fac w) (C : w.ClsAll) (g : Good w none P wl base (n + 1) N sc true X) (O : OrcOk w P wl base (n + 1) o.call) (O2 : OrcOk w P wl base n o.call2) (op : CmpOp) : OpR X (PySem.compareOp op) (rB w none (cmpoF w.G o op)) := by
  intro pins s σ H x y v u Q I rx ry ⟨m, h, a, b, c, h', ra, rb, sm, e, post⟩
  unfold cmpoF at e
  split at e
  · rename_i cn fs ob
    cases a with
    | ref i =>
      obtain ⟨p, rfl, _, dx, gs, h1, h2⟩ := sm.ref ra ob
      obtain rfl : v = Value.ref p := rx
      split at e
      · rename_i hs
        rw [Bool.and_eq_true] at hs
        obtain ⟨hs, hci⟩ := hs
        have CI := F.isi.inst cn hci
        obtain ⟨mA, OA, _⟩ := ins_get I.hok h1
        obtain ⟨od, J, _⟩ := OA.look
        have kin : w.K.In s.heap := by rw [← g.hK]; exact I.kIn
        have side : ∃ tb, PySem.W.Looks (model X.prog X.w) s.heap (typeOf u) tb ∧ PySem.W.notFirst w.K (w.D.ca cn) tb = true := by
          unfold sideOk at hs
          split at hs
          · rename_i n q
            obtain ⟨k1, k2⟩ := tyv_ok F.con sm F.isi rb q
            obtain ⟨Pk, k3, k4, _⟩ := kit_of I ry (by rw [g.hK]; exact k1)
            refine ⟨_, k3.ty _ _ I.kIn k4, ?_⟩
            unfold PySem.W.notFirst
            rw [Bool.or_eq_true_iff]
            exact .inr (beq_iff_eq.mpr (sub_ty (List.contains_iff_mem.mp k2)))
          · rename_i d q
            obtain rfl := of_decide_eq_true hs
            obtain ⟨k1, k2⟩ := tyv_ok F.con sm F.isi rb q
            obtain ⟨Pk, k3, k4, _⟩ := kit_of I ry (by rw [g.hK]; exact k1)
            refine ⟨_, k3.ty _ _ I.kIn k4, ?_⟩
            unfold PySem.W.notFirst
            rw [Bool.or_eq_true_iff]
            exact .inl (beq_iff_eq.mpr rfl)
          · cases hs
        obtain ⟨tb, hb, hn⟩ := side
        split at e
        · rename_i k hk
          obtain ⟨kc, q1, q2⟩ := Option.bind_eq_some_iff.mp hk
          obtain ⟨hx, M⟩ := (C cn kc q1).me _ k q2
          obtain ⟨mm, hF⟩ := I.fr
          unfold blR at e
          split at e
          · rename_i bb h3 q3
            cases e
            show wpAny (model X.prog X.w) X.A (richCompare .Eq (.ref p) u) (EP X pins σ Q) X.xe s
            refine PySem.W.cmp_K (op := .Eq) (K := X.K) (f := w.D.fa k) g.hr.units0 hF I.ok.mod.kin J hb (by rw [g.hK]; exact hn) (by rw [g.hK]; exact M.at_) (by rw [g.hK]; exact M.fn) ?_
            refine wpAny_call (run_at (pins := pins) (σ := σ) (Q := Q) (E := fun _ _ _ => False) g.hP g.hw g.hK g.hm g.hB O g.hr (g.hd rfl) I.env0 I.kIn (vs := [.ref p, y]) (us := [.ref p, u]) (.cons rfl (.cons ry .nil)) (.cons ra (.cons rb .nil)) sm q3 post fun r s' hq => ?_)
            cases r with
            | error er =>
              obtain ⟨_, _, _, _, _, _, _, _, _, _, _, _, z⟩ := hq
              exact z.elim
            | ok fl =>
              cases fl with
              | ret u' =>
                obtain ⟨v', H', I3, rv, q4⟩ := I.after hq
                exact SlX.cmpback rv ⟨v', H', I3, rv, q4⟩
              | next => exact False.elim hq
              | brk => exact False.elim hq
              | cont => exact False.elim hq
          · cases e
        · rename_i k hk
          obtain ⟨kc, q1, q2⟩ := Option.bind_eq_some_iff.mp hk
          obtain ⟨hx, M⟩ := (C cn kc q1).me _ k q2
          have hne := (C cn kc q1).ne k q2
          unfold blR at e
          split at e
          · rename_i bb h3 q3
            cases e
            show wpAny (model X.prog X.w) X.A (richCompare .NotEq (.ref p) u) (EP X pins σ Q) X.xe s
            refine DvE.cmpNe_K (K := w.K) (f := w.D.fa k) g.hr.in1.units0 g.hr.units0 kin J hb hn hne CI.hm M.at_ M.fn ?_
            refine wpAny_call (run_at (pins := pins) (σ := σ) (Q := fun v H' => v = .bl bb ∧ Q (.bl (!bb)) H') (E := fun _ _ _ => False) g.hP g.hw g.hK g.hm g.hB O2 g.hr.in1 (g.hd rfl) I.env0.in1 I.kIn (vs := [.ref p, y]) (us := [.ref p, u]) (.cons rfl (.cons ry .nil)) (.cons ra (.cons rb .nil)) sm q3 (fun m' H' x' l s' rx' => ?_) fun r s' hq => ?_)
            · cases rx'
              exact ⟨rfl, post m' H' _ l s' rfl⟩
            cases r with
            | error er =>
              obtain ⟨_, _, _, _, _, _, _, _, _, _, _, _, z⟩ := hq
              exact z.elim
            | ok fl =>
              cases fl with
              | ret u' =>
                obtain ⟨v', H', I3, rv, ev, q4⟩ := I.after hq
                subst ev
                cases rv
                exact ⟨bb, rfl, V.bl (!bb), H', I3, rfl, q4⟩
              | next => exact False.elim hq
              | brk => exact False.elim hq
              | cont => exact False.elim hq
          · cases e
        · cases e
      · cases e
    | con k =>
      obtain ⟨xs, ys, e', _⟩ := F.con.only k _ ob
      cases e'
    | _ => cases ob
  · exact op_cmp (ax := none) g.hK F.con (by have := g.hr.units; omega) o op pins s σ H x y v u Q I rx ry ⟨m, h, a, b, c, h', ra, rb, sm, e, post⟩
theorem rd_cmpo {σ : L2.St} {H : Hp} {Q : VK} (q : tE w ax W o (.cmpo op a b) σ H Q) : tOp (rB w ax (cmpoF w.G o op)) (tE w ax W o a) (tE w ax W o b) σ H Q := by
  obtain ⟨m, s, h, r, hs, sm, e, p⟩ := q
  refine tE_of hs sm e p fun x h1 m1 H1 x' e1 l1 s1 rx hs1 p1 => ?_
  refine tE_of hs1 s1 e1 p1 fun y h2 m2 H2 y' e2 l2 s2 ry hs2 p2 => ?_
  cases r with
  | ok v h3 => exact ⟨m2, h2, x, y, v, h3, rx.mono l2, ry, s2, e2, p2⟩
  | ex x h3 => exact (cmpoF_ne e2).elim
theorem e_cmpo (F : Fac w) (C : w.ClsAll) (g : Good w ax P wl base (n + 1) N sc true X) (O : OrcOk w P wl base (n + 1) o.call) (O2 : OrcOk w P wl base n o.call2) (hm : noSet eb = true) (ha : PE X ea (tE w ax W o a)) (hb : PE X eb (tE w ax W o b)) : PE X (.Compare ea [op] [eb] pos) (tE w ax W o (.cmpo op a b)) := by
  have ea := g.nx rfl
  subst ea
  exact PE.to (pe_cmpR (op_cmpo F C g O O2 op) ha hb (no_marks hm)) fun _ _ _ q => rd_cmpo q
theorem ev_cmpo_bl : ∀ s h v h', evE w.G o (.cmpo op a b) s h = some (.ok v h') → ∃ k, v = .bl k := fun s h v h' e => by
  obtain ⟨x, h1, _, e⟩ := Rb_some e
  obtain ⟨y, h2, _, e⟩ := Rb_some e
  exact cmpoF_bl e
theorem t_cmpo (F : Fac w) (C : w.ClsAll) (g : Good w ax P wl base (n + 1) N sc true X) (O : OrcOk w P wl base (n + 1) o.call) (O2 : OrcOk w P wl base n o.call2) (hm : noSet eb = true) (ha : PE X ea (tE w ax W o a)) (hb : PE X eb (tE w ax W o b)) : PT X (.Compare ea [op] [eb] pos) (tT w ax W o (.val (.cmpo op a b))) := by
  have ea := g.nx rfl
  subst ea
  exact PT.to (pt_cmpR (op_cmpo F C g O O2 op) ha hb (no_marks hm)) fun _ _ _ q => rd_cmpo (rd_tst ev_cmpo_bl q)
end
end Dv

set_option linter.all false
set_option autoImplicit false
set_option maxRecDepth 100000
set_option maxHeartbeats 1000000
namespace Dv
open PySem L2 PySem.Spec PyProof.Rows
section
variable {w : Wd} {ax : Ax} {W : WX} {o : Orc} {P : Program} {wl : World} {base : Heap} {n : Nat} {N : List Str} {sc : Scope} {cm : Bool} {X : Cx} {a b c : Ex} {ea eb ec : Expr} {pos : Pos} {f : Str} {m : Mp} {h : VH} {H : Hp}
theorem fld_some {G : Tx} {c f : Str} (e : fldOf G c f = true) : ∃ k, G.cls c = some k ∧ k.exc = none ∧ k.flds.contains f = true := by
  unfold fldOf at e
  split at e
  · rename_i k hk
    rw [Bool.and_eq_true] at e
    exact ⟨k, hk, Option.isNone_iff_eq_none.mp e.1, e.2⟩
  · cases e
theorem fldX_some {G : Tx} {c f : Str} (e : fldX G c f = true) : ∃ k, G.cls c = some k ∧ k.exc ≠ none ∧ k.flds.contains f = true := by
  unfold fldX at e
  split at e
  · rename_i k hk
    rw [Bool.and_eq_true] at e
    exact ⟨k, hk, fun z => (by rw [z] at e; cases e.1), e.2⟩
  · cases e
theorem prop_some {G : Tx} {c f k : Str} (e : propOf G c f = some k) : ∃ kc, G.cls c = some kc ∧ kc.exc = none ∧ kc.props.lookup f = some k := by
  obtain ⟨kc, k1, k2⟩ := Option.bind_eq_some_iff.mp e
  split at k2
  · rename_i h
    exact ⟨kc, k1, Option.isNone_iff_eq_none.mp h, k2⟩
  · cases k2
theorem run_prop {pins : List (Addr × Obj)} {s : Shared} {σ : L2.St} {Q : VK} {v r : Vv} {h1 : VH} {E' : Value → Shared → Prop} {bb : Bool} {C pa a : Addr} {k : Str} {j : Nat} {dx : Addr} {gs : List (Str × V)} (g : Good w ax P wl base (j + 1) N sc cm X) (hd : X.A.handled = none) (O : OrcOk w P wl base j o.call2) (cl : Cls w.K C) (hp : PropOf w.K C f pa (w.D.fa k))
    (I : Inv X pins σ H s) (ea : H a = some (.ins C dx gs)) (rv : R w.D m v (.ref a)) (sm : SimW w none m h H) (e : o.call2 k [v] h = some (.ok r h1)) (p : PRr w none (R w.D) (fun _ _ _ => False) m Q (.ok r h1)) :
    wpAny (model X.prog X.w) X.A (getAttr (.ref a) f bb) (EP X pins σ Q) E' s := by
  obtain ⟨mA, O1, _, _, _, _⟩ := ins_get I.hok ea
  obtain ⟨od, J, _⟩ := O1.look
  obtain ⟨rest, hrec⟩ := hp.rec_
  have I1 := I.tok (s.toks + 1)
  have kin : w.K.In s.heap := by rw [← g.hK]; exact I.kIn
  have hc : (PySem.W.clsIn w.K C).isSome = true := by
    obtain ⟨cd, h1, _⟩ := PySem.W.any_some cl.hd
    rw [h1]; rfl
  refine PySem.W.get_bind kin J (PySem.W.plainGet_of (cl.get f)).1 (PySem.W.findObj_data hc hp.at_ hp.get hp.tak) (PySem.W.plainGet_of (cl.get f)).2 (wpAny_call (PySem.W.prop_get (s := { s with toks := s.toks + 1 }) kin hrec ?_))
  refine run_at (pins := pins) (σ := σ) (Q := Q) (E := fun _ _ _ => False) g.hP g.hw g.hK g.hm g.hB O g.hr.in1 hd I1.env0.in1 I1.kIn (vs := [.ref a]) (.cons rfl .nil) (.cons rv .nil) sm e p fun r s' hq => ?_
  cases r with
  | error er =>
    obtain ⟨_, _, _, _, _, _, _, _, _, _, _, _, z⟩ := hq
    exact z.elim
  | ok fl =>
    cases fl with
    | ret u =>
      obtain ⟨v, H', I3, rv, q3⟩ := I1.after hq
      show wpAny _ _ (handedOut u) _ _ _
      rw [PySem.W.handedOut_of (handed_of rv)]
      exact wpAny_pure ⟨v, H', I3, rv, q3⟩
    | next => exact False.elim hq
    | brk => exact False.elim hq
    | cont => exact False.elim hq
/-- e.f -/
theorem e_attr {j : Nat} (F : Fac w) (C : w.ClsAll) (g : Good w ax P wl base (j + 1) N sc cm X) (O : OrcOk w P wl base j o.call2) (hsu : noSuper ea = true) (hpr : cm = false → ∀ c, propOf w.G c f = none) (ho : PE X ea (tE w ax W o a)) : PE X (.Attribute ea f pos) (tE w ax W o (.attr a f)) := by
  refine ⟨fun pins s σ H Q I ⟨m, s', h, r, hs, sm, ev, q⟩ => ?_⟩
  refine attr_of (attr_base hsu) (thn (ho.run pins s σ H (fun x H1 => ∃ m h v, R w.D m v x ∧ SimW w ax m h H1 ∧ getattr w.G o v f h = some r ∧ PRr w ax (R w.D) (ExW W σ) m Q r) I ?_) fun u s1 ⟨x, H1, I1, rx, m, h, v, rv, sm, ev, q⟩ => ?_)
  · exact tE_of hs sm ev q fun x h1 m1 H1 x' e1 l1 s1 rx hs1 p1 => ⟨m1, h1, x, rx, s1, e1, p1⟩
  · unfold getattr at ev
    split at ev
    · rename_i cn fs ob
      cases v with
      | ref i =>
        obtain ⟨p, rfl, _, dx, gs, h1, h2⟩ := sm.ref rv ob
        obtain rfl : u = Value.ref p := rx
        split at ev
        · rename_i hf
          obtain ⟨vv, k1, k2⟩ := Option.bind_eq_some_iff.mp ev
          cases k2
          obtain ⟨kc, hk, hx, hf⟩ := fld_some hf
          have CC := C cn kc hk
          obtain ⟨z, k3, k4⟩ := RF.lookup h2 k1
          exact getattr_ok I1 h1 (by rw [g.hK]; exact CC.cl hx) (by rw [g.hK]; exact CC.fl f hf) k3 fun u' s2 I2 ru => ⟨z, H1, I2, ru, q m H1 z (Le.refl _) sm k4⟩
        · split at ev
          · rename_i k hk
            split at ev
            · rename_i r1 h3 q1
              cases ev
              cases cm with
              | false => rw [hpr rfl cn] at hk; cases hk
              | true =>
                have eax := g.nx rfl
                subst eax
                obtain ⟨kc, k1, hx, k2⟩ := prop_some hk
                have CC := C cn kc k1
                obtain ⟨pa, hp⟩ := CC.pr f k k2
                exact run_prop g (g.hd rfl) O (CC.cl hx) hp I1 h1 rv sm q1 q
            · cases ev
          · cases ev
      | con k =>
        obtain ⟨xs, ys, e, _⟩ := F.con.only k _ ob
        cases e
      | _ => cases ob
    · rename_i cn fs ob
      cases v with
      | ref i =>
        obtain ⟨p, rfl, _, kk, dd, gs, h0, h1, h2⟩ := sm.ref rv ob
        obtain rfl : u = Value.ref p := rx
        split at ev
        · rename_i hf
          obtain ⟨vv, k1, k2⟩ := Option.bind_eq_some_iff.mp ev
          cases k2
          · obtain ⟨kc, hk, hx0, hf⟩ := fldX_some hf
            have CC := C cn kc hk
            obtain ⟨z, k3, k4⟩ := RF.lookup h2 k1
            obtain ⟨oe, hpn, hz, vs, hd⟩ := g.pin kk p _ _ h0
            obtain ⟨ha, _⟩ := I1.pin (p, oe) (List.mem_append_left _ hpn)
            have hx : ObjOk X.prog X.w H1 s1.heap dd (.xd gs) := I1.hok dd _ h1
            obtain ⟨mA, hns, hr⟩ := hx
            obtain ⟨od, ho', hl⟩ := lookIn_ns hns
            obtain ⟨u, hu, ru⟩ := RelO.some_of (v := z) (o := mA f) (by rw [← k3]; exact hr f)
            have J : PySem.W.InstAt s1.heap p oe (w.D.ca cn) (some od) := ⟨ha, hz.1, by unfold PySem.W.notCls; rw [hd] <;> rfl, by rw [hz.2]; exact ho'⟩
            have T := CC.xf hx0
            have kin : w.K.In s1.heap := by rw [← g.hK]; exact I1.kIn
            exact HandSPX.exc_get kin J T.ga T.gg T.exC (PySem.W.findObj_own T.hdC (CC.fl f hf) rfl (by rw [hl, hu])) (handed_of ru) ⟨z, H1, I1.tok _, ru, q m H1 z (Le.refl _) sm k4⟩
        · cases ev
      | con k =>
        obtain ⟨xs, ys, e, _⟩ := F.con.only k _ ob
        cases e
      | _ => cases ob
    · cases ev
end
end Dv

set_option linter.all false
set_option autoImplicit false
set_option maxRecDepth 100000
set_option maxHeartbeats 1000000
namespace Dv
open PySem L2 PySem.Spec PyProof.Rows
def Mf.name : Mf → Str
  | .append => "append" | .split => "split" | .join => "join" | .pop => "pop" | .extend => "extend" | .get => "get" | .items => "items" | .keys => "keys" | .values => "values" | .setdefault => "setdefault" | .index => "index" | .find => "find" | .startswith => "startswith" | .endswith => "endswith"
def rMt (w : Wd) (ax : Ax) (f : Vv → List Vv → VH → Option (Re Vv)) : V → List V → Hp → VK → Prop := fun x xs H Q => ∃ m h v vs c h', R w.D m v x ∧ RL w.D m vs xs ∧ SimW w ax m h H ∧ f v vs h = some (.ok c h') ∧ PV w ax m Q c h'
section
variable {w : Wd} {ax : Ax} {W : WX} {o : Orc} {P : Program} {wl : World} {base : Heap} {n : Nat} {N : List Str} {sc : Scope} {cm : Bool} {X : Cx} {a b c : Ex} {ea eb ec : Expr} {pos : Pos} {f : Str} {m : Mp} {h : VH} {H : Hp}
theorem bmeth_ne {G : Tx} {x : Vv} {k : Mf} {vs : List Vv} {e : Xv} {h' : VH} : bmeth G x k vs h = some (.ex e h') → False := by
  unfold bmeth ok1 new
  intro q
  split at q
  · split at q
    · split at q <;> cases q
    · cases q
  · split at q <;> cases q
  · obtain ⟨b, _, q⟩ := Option.bind_eq_some_iff.mp q
    obtain ⟨b, _, q⟩ := Option.bind_eq_some_iff.mp q
    split at q <;> cases q
  · cases q
theorem Paired.upds {α β : Type} {F : α → β → Prop} {xs : List α} {ys : List β} {x : α} {y : β} (p : Paired F xs ys) (q : F x y) : Paired F (xs ++ [x]) (ys ++ [y]) := Paired.app p (.cons q .nil)
theorem mt_app (hK : X.K = w.K) (F : Fac w) : MtR X "list.append" (rMt w ax fun x vs h => bmeth w.G x .append vs h) := by
  intro pins s σ H x xs v us Q I rx rs ⟨m, h, vv, vs, c, h', rv, rl, sm, e, post⟩
  have e : bmeth w.G vv .append vs h = some (.ok c h') := e
  unfold bmeth at e
  split at e
  · rename_i i u q1
    split at e
    · rename_i ys q2
      split at e
      · rename_i hz
        cases e
        obtain ⟨p, rfl, hm, zs, h1, h2⟩ := sm.ref rv q2
        obtain ⟨y, rfl, ry⟩ := rl1 rl
        refine mt_append pins s σ H _ _ v us Q I rx rs ⟨p, zs, y, rfl, rfl, h1, by rw [← h2.length, ← sz_eq]; exact hz, ?_⟩
        refine post m _ _ (Le.refl m) (sm.set q2 rfl rfl hm ⟨_, upd_same, Paired.upds h2 ry⟩) rfl
      · cases e
    · cases e
  · rename_i k _ _ hk; cases hk
  · rename_i hk; cases hk
  · cases e
theorem mt_spl (hK : X.K = w.K) (F : Fac w) : MtR X "str.split" (rMt w ax fun x vs h => bmeth w.G x .split vs h) := by
  intro pins s σ H x xs v us Q I rx rs ⟨m, h, vv, vs, c, h', rv, rl, sm, e, post⟩
  have e : bmeth w.G vv .split vs h = some (.ok c h') := e
  unfold bmeth at e
  split at e
  · contradiction
  · rename_i a b _ _
    split at e
    · rename_i hz
      cases e
      obtain ⟨y, rfl, ry⟩ := rl1 rl
      cases rv
      cases ry
      refine mt_split pins s σ H _ _ v us Q I rx rs ⟨a, b, rfl, rfl, hz.1, by rw [← sz_eq]; exact hz.2, fun p hp => post.new sm hp ⟨_, upd_same, ?_⟩⟩
      exact (Paired.mapL (F := fun (x y : Str) => x = y) (xs := Txt.split a b) (ys := Txt.split a b) (by induction Txt.split a b with | nil => exact .nil | cons x r ih => exact .cons rfl ih) fun x y z => by cases z; rfl)
    · cases e
  · contradiction
  · cases e
theorem mt_joi (hK : X.K = w.K) (F : Fac w) : MtR X "str.join" (rMt w ax fun x vs h => bmeth w.G x .join vs h) := by
  intro pins s σ H x xs v us Q I rx rs ⟨m, h, vv, vs, c, h', rv, rl, sm, e, post⟩
  have e : bmeth w.G vv .join vs h = some (.ok c h') := e
  unfold bmeth at e
  split at e
  · rename_i hk; cases hk
  · rename_i hk; cases hk
  · rename_i a y _ _
    obtain ⟨xs1, e1, e⟩ := Option.bind_eq_some_iff.mp e
    obtain ⟨ys, e2, e⟩ := Option.bind_eq_some_iff.mp e
    split at e
    · rename_i hz
      cases e
      obtain ⟨y', rfl, ry⟩ := rl1 rl
      cases rv
      obtain ⟨p, zs, rfl, h1, h2⟩ := seq_ok F.con sm ry e1
      have e3 := txts_ok h2 e2
      subst e3
      exact mt_join pins s σ H _ _ v us Q I rx rs ⟨a, p, ys, rfl, rfl, by rw [hK]; exact h1, hz, post.here sm rfl⟩
    · cases e
  · cases e
/-- o.m(..), m of a built-in type -/
def Mf.here : Mf → Bool
  | .append => true
  | .split => true
  | .join => true
  | _ => false
theorem e_bm {e : Expr} {es : List Expr} {apos : Pos} {k : Mf} {as : Exs} (hk : k.here = true) (F : Fac w) (hK : X.K = w.K) (hl : (apos.endLine == pos.line) = true) (hsu : noSuper ea = true) (hn : (e :: es).all notStar = true) (hlen : decide ((e :: es).length < 30) = true) (ho : PE X ea (tE w ax W o a)) (ha : PA X (e :: es) (tEs w ax W o as)) :
    PE X (.Call (.Attribute ea k.name apos) (e :: es) [] pos) (tE w ax W o (.bm a k as)) := by
  have hfew : ((backTo pos (starEach (e :: es) X.env)).all (fun x => !x.1) && (backToKw pos (keywordEach [] X.env)).all (fun x => x.1.isSome)
      && decide ((e :: es).length + ([] : List Keyword).length + (if ([] : List Keyword).isEmpty then 0 else 1) < 30)) = true := by
    rw [star_few hn]
    exact hlen
  have hs := star_cons (es := es) (env := X.env) (by rw [List.all_cons, Bool.and_eq_true] at hn; exact hn.1)
  have hp : (backTo pos (starEach es X.env)).any (·.1) = false := star_plain (by rw [List.all_cons, Bool.and_eq_true] at hn; exact hn.2)
  have key : ∀ {T id : String}, PlainAttrs T → Slot T k.name id → typeOf (.builtin id) = pure (.type "method_descriptor") → MtR X id (rMt w ax fun x vs h => bmeth w.G x k vs h) → (∀ x h m H y, brecv x k h = true → R w.D m x y → SimW w ax m h H → tyV X.K T y H) →
      PE X (.Call (.Attribute ea k.name apos) (e :: es) [] pos) (tE w ax W o (.bm a k as)) := fun {T id} pa sl ty mt hr => by
    refine PE.to (pe_bm pa sl ty mt ho ha (attr_base hsu) hfew hl hs hp) fun σ H Q ⟨m, s, h, r, hs, sm, ev, p⟩ => ?_
    refine tE_of hs sm ev p fun x h1 m1 H1 x' e1 l1 s1 rx hs1 p1 => ?_
    split at e1
    · rename_i hb
      refine ⟨hr _ _ _ _ _ hb rx s1, ?_⟩
      refine tEs_of hs1 s1 e1 p1 fun ys h2 m2 H2 ys' e2 l2 s2 ry hs2 p2 => ?_
      cases r with
      | ok v h3 => exact ⟨m2, h2, x, ys, v, h3, rx.mono l2, ry, s2, e2, p2⟩
      | ex x h3 => exact (bmeth_ne e2).elim
    · cases e1
  have str : ∀ (x : Vv) h m H y, (match x with | .str _ => true | _ => false) = true → R w.D m x y → SimW w ax m h H → tyV X.K "str" y H := fun x h m H y hb r _ => by
    cases x with
    | str z => cases r; rfl
    | _ => cases hb
  cases k with
  | append =>
    refine key PySem.F.plainAttrs_list PySem.F.slot_list_append PySem.F.type_list_append (mt_app hK F) fun x h m H y hb r sm => ?_
    cases x with
    | ref i =>
      unfold brecv at hb
      dsimp only at hb
      split at hb
      · rename_i xs q
        obtain ⟨p, rfl, _, ys, h1, h2⟩ := sm.ref r q
        exact .inl ⟨rfl, ys, by exact SqL.of h1⟩
      · cases hb
    | _ => cases hb
  | split => exact key PySem.F.plainAttrs_str PySem.F.slot_str_split PySem.F.type_str_split (mt_spl hK F) fun x h m H y hb r sm => str x h m H y (by cases x <;> first | rfl | cases hb) r sm
  | join => exact key PySem.F.plainAttrs_str PySem.F.slot_str_join PySem.F.type_str_join (mt_joi hK F) fun x h m H y hb r sm => str x h m H y (by cases x <;> first | rfl | cases hb) r sm
  | _ => cases hk
def rSl (w : Wd) (ax : Ax) : V → Option Int → Option Int → Hp → VK → Prop := fun x lo hi H Q => ∃ m h v c h', R w.D m v x ∧ SimW w ax m h H ∧ slice v lo hi h = some (.ok c h') ∧ PV w ax m Q c h'
theorem slice_ne {x : Vv} {lo hi : Option Int} {e : Xv} {h' : VH} : slice x lo hi h = some (.ex e h') → False := by
  unfold slice ok1 new
  intro q
  repeat' split at q
  all_goals first | cases q | contradiction
theorem Paired.cut {α β : Type} {F : α → β → Prop} {xs : List α} {ys : List β} (p : Paired F xs ys) (lo hi : Option Int) : Paired F (cut xs lo hi) (cut ys lo hi) := by
  unfold Dv.cut
  rw [p.length]
  exact Paired.takeP _ (Paired.dropP _ p)
theorem sl_D (hK : X.K = w.K) : L2.SlR X (rSl w ax) := by
  intro pins s σ H x v vl vu lo hi sl Q I rx hs pl pu ⟨m, h, vv, c, h', rv, sm, e, post⟩
  unfold slice at e
  split at e
  · rename_i z
    split at e
    · rename_i hz
      cases e
      cases rv
      exact sl_str pins s σ H _ v vl vu lo hi sl Q I rx hs pl pu ⟨z, rfl, by rw [← sz_eq]; exact hz, post.here sm (by unfold R cut cutS; rw [Array.length_toList]; rfl)⟩
    · cases e
  · rename_i i
    split at e
    · rename_i xs q
      cases e
      obtain ⟨p, rfl, _, ys, h1, h2⟩ := sm.ref rv q
      exact sl_list pins s σ H _ v vl vu lo hi sl Q I rx hs pl pu ⟨p, ys, rfl, SqL.of h1, fun q hq => post.new sm hq ⟨_, upd_same, Paired.cut (h2.mono (sm.le q)) lo hi⟩⟩
    · cases e
  · cases e
/-- a bound as written -/
def partO : Option Expr → Ex → Bool
  | none, .noe => true
  | none, _ => false
  | some _, .noe => false
  | some _, _ => true
def tP (w : Wd) (ax : Ax) (W : WX) (o : Orc) (a : Ex) : TO := fun σ H Q => tE w ax W o a σ H fun x H1 => (a = .noe ∧ Q none H1) ∨ (a ≠ .noe ∧ ∃ i, x = .int i ∧ Q (some i) H1)
theorem part_none : PO X none (tP w ax W o .noe) := by
  refine ⟨fun pins s σ H Q I ⟨m, s', h, r, hs, sm, e, p⟩ => po_none.run pins s σ H Q I ?_⟩
  cases e
  rcases p m H _ (Le.refl m) sm rfl with ⟨_, q⟩ | ⟨q, _⟩
  · exact q
  · exact (q rfl).elim
theorem tE_imp {σ : L2.St} {Q Q' : VK} (t : tE w ax W o a σ H Q) (k : ∀ x H, Q x H → Q' x H) : tE w ax W o a σ H Q' := by
  obtain ⟨m, s, h, r, hs, sm, e, p⟩ := t
  refine ⟨m, s, h, r, hs, sm, e, ?_⟩
  cases r with
  | ok v h => exact fun m' H' x l s r => k _ _ (p m' H' x l s r)
  | ex x h => exact p
theorem part_some (ha : PE X ea (tE w ax W o a)) (hn : a ≠ .noe) : PO X (some ea) (tP w ax W o a) := by
  refine ⟨fun pins s σ H Q I t => (po_some ha).run pins s σ H Q I (tE_imp t fun x H q => ?_)⟩
  rcases q with ⟨z, _⟩ | ⟨_, q⟩
  · exact (hn z).elim
  · exact q
theorem bnd_ok {v : Vv} {x : V} {k : Option Int} (e : bnd a v = some k) (r : R w.D m v x) {Q : Option Int → Hp → Prop} (q : Q k H) : (a = .noe ∧ Q none H) ∨ (a ≠ .noe ∧ ∃ i, x = .int i ∧ Q (some i) H) := by
  unfold bnd at e
  split at e
  · cases e; exact .inl ⟨rfl, q⟩
  · rename_i i hn
    cases e
    cases r
    exact .inr ⟨hn, i, rfl, q⟩
  · cases e
theorem e_slc {lo hi : Option Expr} {p2 : Pos} {l u : Ex} (hK : X.K = w.K) (ha : PE X ea (tE w ax W o a)) (hl : PO X lo (tP w ax W o l)) (hu : PO X hi (tP w ax W o u)) : PE X (.Subscript ea (.Slice lo hi none p2) pos) (tE w ax W o (.slc a l u)) := by
  refine PE.to (pe_slice (sl_D (ax := ax) hK) ha hl hu) fun σ H Q ⟨m, s, h, r, hs, sm, ev, p⟩ => ?_
  refine tE_of hs sm ev p fun x h1 m1 H1 x' e1 l1 s1 rx hs1 p1 => ?_
  refine tE_of hs1 s1 e1 p1 fun y h2 m2 H2 y' e2 l2 s2 ry hs2 p2 => ?_
  split at e2
  · cases e2
  · rename_i i1 q1
    refine bnd_ok q1 ry (Q := fun i H => tP w ax W o u σ H fun i2 H3 => rSl w ax x' i i2 H3 Q) ?_
    refine tE_of hs2 s2 e2 p2 fun z h3 m3 H3 z' e3 l3 s3 rz hs3 p3 => ?_
    split at e3
    · cases e3
    · rename_i i2 q2
      refine bnd_ok q2 rz (Q := fun i H => rSl w ax x' i1 i H Q) ?_
      cases r with
      | ok v h4 => exact ⟨m3, h3, x, v, h4, (rx.mono l2).mono l3, s3, e3, p3⟩
      | ex x h4 => exact (slice_ne e3).elim
end
end Dv

set_option linter.all false
set_option autoImplicit false
set_option maxRecDepth 100000
set_option maxHeartbeats 1000000
namespace Dv
open PySem L2 PySem.Spec PyProof.Rows
def gT : List Nat → TGs
  | [] => gNil
  | i :: r => gCons (gName i) (gT r)
def gTg (K : PySem.W.Frag) (tg : List Nat) : TG := match tg with
  | [i] => gName i
  | _ => gTup K tg.length (gT tg)
/-- an item as it comes -/
def ItR (w : Wd) (m : Mp) (H : Hp) (n : Nat) (it : List Vv) (x : V) : Prop := if n = 1 then ∃ v, it = [v] ∧ R w.D m v x else ∃ a xs, x = .ref a ∧ SqT w.K H a xs ∧ RL w.D m it xs
/-- an iterator serves a source -/
structure JOk (w : Wd) (ax : Ax) (n : Nat) (S : Src) (J : L2.It) (m0 : Mp) : Prop where
  go : ∀ i m h H, Le m0 m → SimW w ax m h H → keeps w.G S h = true → i < S.items.length → J.go i H
  stop : ∀ i m h H, Le m0 m → SimW w ax m h H → keeps w.G S h = true → S.items.length ≤ i → J.stop i H
  yld : ∀ i m h H x H' it, Le m0 m → SimW w ax m h H → keeps w.G S h = true → S.items[i]? = some it → J.yld i H x H' → SimW w ax m h H' ∧ ItR w m H' n it x
def tI (w : Wd) (ax : Ax) (W : WX) (o : Orc) (n : Nat) (e : It) : TI := fun σ H Q => ∃ m s h r, SlR w.D m s σ ∧ SimW w ax m h H ∧ evI w.G o e n s h = some r ∧ PRr w ax (fun m S J => JOk w ax n S J m) (ExW W σ) m Q r
section
variable {w : Wd} {ax : Ax} {W : WX} {o : Orc} {P : Program} {wl : World} {base : Heap} {n : Nat} {N : List Str} {sc : Scope} {cm : Bool} {X : Cx} {a b c : Ex} {ea eb ec tg : Expr} {pos : Pos} {f : Str} {m : Mp} {h : VH} {H : Hp} {s : Sl} {σ : L2.St}
theorem gT_ok : ∀ {tg : List Nat} {it : List Vv} {xs : List V} {s s1 : Sl} {σ : L2.St} {vs : List Nat} {Q : L2.St → Hp → Prop}, SlR w.D m s σ → setT tg s it = some s1 → RL w.D m it xs → (∀ i ∈ tg, i ∈ vs) → (∀ σ1, SlR w.D m s1 σ1 → wipe σ1 vs = wipe σ vs → Q σ1 H) → gT tg xs σ H Q
  | [], it, xs, s, s1, σ, vs, Q, hs, e, rl, hv, k => by
    cases it with
    | nil => cases e; cases rl; exact ⟨rfl, k σ hs rfl⟩
    | cons v r => cases e
  | i :: tr, it, xs, s, s1, σ, vs, Q, hs, e, rl, hv, k => by
    cases it with
    | nil => cases e
    | cons v r =>
      cases rl with
      | cons rv rr =>
        refine ⟨_, _, rfl, gT_ok (vs := vs) (hs.set i rv) e rr (fun j hj => hv j (List.mem_cons_of_mem _ hj)) fun σ1 h1 h2 => k σ1 h1 (h2.trans ?_)⟩
        exact wipe_at (hv i List.mem_cons_self)
where
  wipe_at {σ : L2.St} {i : Nat} {x : Option V} : ∀ {vs : List Nat}, i ∈ vs → wipe (σ.set i x) vs = wipe σ vs
  | [], h => by cases h
  | v :: vs, h => by
    show (wipe (σ.set i x) vs).set v none = (wipe σ vs).set v none
    by_cases hv : i ∈ vs
    · rw [wipe_at hv]
    · have e : i = v := by
        rcases List.mem_cons.mp h with z | z
        · exact z
        · exact (hv z).elim
      subst e
      have c : ∀ {us : List Nat}, (wipe (σ.set i x) us).set i none = (wipe σ us).set i none := fun {us} => by
        induction us with
        | nil => exact List.set_set ..
        | cons u us ih =>
          show (((wipe (σ.set i x) us).set u none).set i none) = ((wipe σ us).set u none).set i none
          by_cases hu : u = i
          · subst hu
            rw [List.set_set, List.set_set, ih]
          · rw [List.set_comm _ _ hu, ih, List.set_comm _ _ (Ne.symm hu)]
      exact c
theorem tg_ok {tg : List Nat} {it : List Vv} {x : V} {s1 : Sl} {vs : List Nat} {Q : L2.St → Hp → Prop} (hs : SlR w.D m s σ) (e : setT tg s it = some s1) (r : ItR w m H tg.length it x) (hv : ∀ i ∈ tg, i ∈ vs) (k : ∀ σ1, SlR w.D m s1 σ1 → wipe σ1 vs = wipe σ vs → Q σ1 H) : gTg w.K tg x σ H Q := by
  have len : ∀ {tg : List Nat} {s : Sl} {it : List Vv} {s1 : Sl}, setT tg s it = some s1 → it.length = tg.length := fun {tg} => by
    induction tg with
    | nil => intro s it s1 e; cases it with
      | nil => rfl
      | cons _ _ => cases e
    | cons i r ih => intro s it s1 e; cases it with
      | nil => cases e
      | cons v t => exact congrArg (· + 1) (ih e)
  unfold gTg
  split
  · rename_i i
    unfold ItR at r
    rw [if_pos (show [i].length = 1 from rfl)] at r
    obtain ⟨v, rfl, rv⟩ := r
    have e' : some (s.set i (some v)) = some s1 := e
    cases e'
    exact k _ (hs.set i rv) (gT_ok.wipe_at (hv i List.mem_cons_self))
  · rename_i hn
    unfold ItR at r
    rw [if_neg (by intro z; match tg, z with | [i], _ => exact hn i rfl)] at r
    obtain ⟨p, xs, rfl, h1, rl⟩ := r
    exact ⟨p, xs, rfl, h1, by rw [← rl.length]; exact len e, gT_ok hs e rl hv k⟩
theorem untup_at : ∀ {h : VH} {xs : List Vv} {its : List (List Vv)} {i : Nat} {it : List Vv}, untup w.G h xs = some its → its[i]? = some it → ∃ v, xs[i]? = some v ∧ obj w.G h v = some (.tup it)
  | h, [], its, i, it, e, q => by cases e; simp at q
  | h, v :: r, its, i, it, e, q => by
    unfold untup at e
    split at e
    · rename_i ys q1
      obtain ⟨its', e1, rfl⟩ := Option.map_eq_some_iff.mp e
      cases i with
      | zero => simp at q; subst q; exact ⟨v, rfl, q1⟩
      | succ j => simpa using untup_at e1 (by simpa using q)
    · cases e
theorem untup_len : ∀ {h : VH} {xs : List Vv} {its : List (List Vv)}, untup w.G h xs = some its → its.length = xs.length
  | h, [], its, e => by cases e; rfl
  | h, v :: r, its, e => by
    unfold untup at e
    split at e
    · obtain ⟨its', e1, rfl⟩ := Option.map_eq_some_iff.mp e
      exact congrArg (· + 1) (untup_len e1)
    · cases e
/-- a sequence of a kind -/
theorem seq_kind (g : w.ConOk) (sm : SimW w ax m h H) {v : Vv} {x : V} (r : R w.D m v x) {xs : List Vv} (e : seqOf w.G h v = some xs) : ∃ p ys, x = .ref p ∧ (isL w.G h v = true → SqL w.K H p ys) ∧ (isL w.G h v = false → SqT w.K H p ys) ∧ RL w.D m xs ys := by
  unfold seqOf at e
  unfold isL
  cases v with
  | ref i =>
    simp only [obj] at e ⊢
    cases q : h[i]? with
    | none => rw [q] at e; cases e
    | some o =>
      rw [q] at e
      obtain ⟨a, rfl, h1, h2⟩ := sm.ref r q
      cases o with
      | lst ys => cases e; obtain ⟨zs, h3, h4⟩ := h2; exact ⟨a, zs, rfl, fun _ => SqL.of h3, (fun z => by cases z), h4⟩
      | tup ys => cases e; obtain ⟨zs, h3, h4⟩ := h2; exact ⟨a, zs, rfl, (fun z => by cases z), fun _ => SqT.of h3, h4⟩
      | rol ys =>
        cases e
        obtain ⟨zs, h3, h4⟩ := h2
        refine ⟨a, zs, rfl, fun _ => ?_, (fun z => by cases z), h3⟩
        rcases h4 with ⟨o, h4⟩ | h4
        · exact .inl (.inr ⟨o, h4⟩)
        · exact h4 H
      | _ => cases e
  | con k =>
    simp only [obj] at e ⊢
    cases q : w.G.cons k with
    | none => rw [q] at e; cases e
    | some o =>
      rw [q] at e
      obtain ⟨zs, ys, rfl, h1, h2⟩ := g.only k o q
      cases e
      exact ⟨_, ys, r, (fun z => by cases z), fun _ => h1 H, h2 m⟩
  | _ => cases e
theorem tup_at (g : w.ConOk) (sm : SimW w ax m h H) {v : Vv} {x : V} (r : R w.D m v x) {it : List Vv} (e : obj w.G h v = some (.tup it)) : ∃ p ys, x = .ref p ∧ SqT w.K H p ys ∧ RL w.D m it ys := by
  have e1 : seqOf w.G h v = some it := by unfold seqOf; rw [e]
  have e2 : isL w.G h v = false := by unfold isL; rw [e]
  obtain ⟨p, ys, h1, _, h2, h3⟩ := seq_kind g sm r e1
  exact ⟨p, ys, h1, h2 e2, h3⟩
theorem keeps_at {S : Src} {v : Vv} (hv : S.at_ = some v) (k : keeps w.G S h = true) : seqOf w.G h v = some S.seq ∧ isL w.G h v = S.lst ∧ (S.prs = true → untup w.G h S.seq = some S.items) := by
  unfold keeps at k
  rw [hv] at k
  simp only [Bool.and_eq_true, decide_eq_true_eq, beq_iff_eq, Bool.or_eq_true, Bool.not_eq_true'] at k
  refine ⟨k.1.1, k.1.2, fun z => ?_⟩
  rcases k.2 with q | q
  · rw [z] at q; cases q
  · exact q
/-- the items of a source that walks a value's own -/
def SrcV (w : Wd) (n : Nat) (S : Src) : Prop := S.items.length = S.seq.length ∧ ((S.prs = false ∧ n = 1 ∧ S.items = S.seq.map fun v => [v]) ∨ (S.prs = true ∧ n ≠ 1))
theorem item_V (g : w.ConOk) (sm : SimW w ax m h H) {S : Src} {v : Vv} (hv : S.at_ = some v) (sv : SrcV w n S) (k : keeps w.G S h = true) {i : Nat} {it : List Vv} (hi : S.items[i]? = some it) {ys : List V} (rl : RL w.D m S.seq ys) {x : V} (hx : ys[i]? = some x) : ItR w m H n it x := by
  obtain ⟨k1, k2, k3⟩ := keeps_at hv k
  unfold ItR
  rcases sv.2 with ⟨p1, rfl, p3⟩ | ⟨p1, p2⟩
  · rw [if_pos rfl]
    rw [p3, List.getElem?_map] at hi
    obtain ⟨u, h1, rfl⟩ := Option.map_eq_some_iff.mp hi
    obtain ⟨y, h2, h3⟩ := Paired.get rl h1
    rw [hx] at h2; cases h2
    exact ⟨u, rfl, h3⟩
  · rw [if_neg p2]
    obtain ⟨u, h1, h4⟩ := untup_at (k3 p1) hi
    obtain ⟨y, h2, h3⟩ := Paired.get rl h1
    rw [hx] at h2; cases h2
    exact tup_at g sm h3 h4
theorem JOk_list (g : w.ConOk) {S : Src} {v : Vv} {p : Addr} (hv : S.at_ = some v) (sv : SrcV w n S) (hl : S.lst = true) (r : R w.D m v (.ref p)) : JOk w ax n S (Itl w.K p) m where
  go := fun i m' h H l sm k hi => by
    obtain ⟨k1, k2, _⟩ := keeps_at hv k
    obtain ⟨q, ys, e, h1, _, h3⟩ := seq_kind g sm (r.mono l) k1
    cases e
    have hlt : i < ys.length := by rw [← h3.length, ← sv.1]; exact hi
    exact ⟨ys, ys[i], h1 (k2.trans hl), List.getElem?_eq_getElem hlt⟩
  stop := fun i m' h H l sm k hi => by
    obtain ⟨k1, k2, _⟩ := keeps_at hv k
    obtain ⟨q, ys, e, h1, _, h3⟩ := seq_kind g sm (r.mono l) k1
    cases e
    exact ⟨ys, h1 (k2.trans hl), by rw [← h3.length, ← sv.1]; exact hi⟩
  yld := fun i m' h H x H' it l sm k hi y => by
    obtain ⟨k1, k2, _⟩ := keeps_at hv k
    obtain ⟨q, ys, e, h1, _, h3⟩ := seq_kind g sm (r.mono l) k1
    cases e
    obtain ⟨rfl, y2⟩ := y
    exact ⟨sm, item_V g sm hv sv k hi h3 (y2 ys (h1 (k2.trans hl)))⟩
theorem JOk_tup (g : w.ConOk) {S : Src} {v : Vv} {p : Addr} (hv : S.at_ = some v) (sv : SrcV w n S) (hl : S.lst = false) (r : R w.D m v (.ref p)) : JOk w ax n S (Itt w.K p) m where
  go := fun i m' h H l sm k hi => by
    obtain ⟨k1, k2, _⟩ := keeps_at hv k
    obtain ⟨q, ys, e, _, h1, h3⟩ := seq_kind g sm (r.mono l) k1
    cases e
    have hlt : i < ys.length := by rw [← h3.length, ← sv.1]; exact hi
    exact ⟨ys, ys[i], h1 (k2.trans hl), List.getElem?_eq_getElem hlt⟩
  stop := fun i m' h H l sm k hi => by
    obtain ⟨k1, k2, _⟩ := keeps_at hv k
    obtain ⟨q, ys, e, _, h1, h3⟩ := seq_kind g sm (r.mono l) k1
    cases e
    exact ⟨ys, h1 (k2.trans hl), by rw [← h3.length, ← sv.1]; exact hi⟩
  yld := fun i m' h H x H' it l sm k hi y => by
    obtain ⟨k1, k2, _⟩ := keeps_at hv k
    obtain ⟨q, ys, e, _, h1, h3⟩ := seq_kind g sm (r.mono l) k1
    cases e
    obtain ⟨rfl, y2⟩ := y
    exact ⟨sm, item_V g sm hv sv k hi h3 (y2 ys (h1 (k2.trans hl)))⟩
theorem JOk_str {z : Str} : JOk w ax 1 ⟨z.cps.toList.map fun c => [.str ⟨#[c]⟩], none, [], false, false⟩ (Its z) m where
  go := fun i m' h H l sm k hi => show i < z.cps.size by simpa using hi
  stop := fun i m' h H l sm k hi => show z.cps.size ≤ i by simpa using hi
  yld := fun i m' h H x H' it l sm k hi y => by
    obtain ⟨rfl, c, hc, rfl⟩ := y
    refine ⟨sm, ?_⟩
    unfold ItR
    rw [if_pos rfl]
    rw [List.getElem?_map] at hi
    obtain ⟨d, h1, rfl⟩ := Option.map_eq_some_iff.mp hi
    rw [Array.getElem?_toList, hc] at h1
    cases h1
    exact ⟨_, rfl, rfl⟩
/-- the iterator of a value -/
theorem it_src (g : w.ConOk) (hK : X.K = w.K) {pins : List (Addr × Obj)} {s' : Shared} {v : Vv} {x : V} {u : Value} {S : Src} {E : Value → Shared → Prop} {Q : L2.It → Hp → Prop} (I : Inv X pins σ H s') (rx : RelV x u) (rv : R w.D m v x) (sm : SimW w ax m h H) (e : srcOf w.G n v h = some S) (k : ∀ J, JOk w ax n S J m → Q J H) :
    wpAny (model X.prog X.w) X.A (pyIter u) (PIE X pins σ tg Q) E s' := by
  have fromSeq : ∀ {xs : List Vv}, seqOf w.G h v = some xs → S.at_ = some v → S.seq = xs → S.lst = isL w.G h v → SrcV w n S → wpAny (model X.prog X.w) X.A (pyIter u) (PIE X pins σ tg Q) E s' := fun {xs} e1 hv hs hl sv => by
    obtain ⟨p, ys, rfl, h1, h2, h3⟩ := seq_kind g sm rv e1
    cases rx
    cases hb : isL w.G h v with
    | true =>
      have hq := h1 hb
      rw [← hK] at hq
      obtain ⟨its, ri, pl, hz⟩ := I.list hq
      refine wpAny_pyIter_list pl.isList ?_
      exact pi_one (tk := s'.toks) I _ (turn_list p _) ⟨_, Heap.get?_push_size _ rfl, rfl, rfl⟩ (by rw [hK]; exact k _ (JOk_list g hv sv (hl.trans hb) rv))
    | false =>
      have hq := h2 hb
      rw [← hK] at hq
      obtain ⟨its, ri, pl, hz⟩ := I.tuple hq
      refine wpAny_pyIter_tuple (show s'.heap.IsTuple p its.toArray from pl) ?_
      exact pi_one (tk := s'.toks) I _ (turn_tuple p _) ⟨_, Heap.get?_push_size _ rfl, rfl, rfl⟩ (by rw [hK]; exact k _ (JOk_tup g hv sv (hl.trans hb) rv))
  unfold srcOf at e
  split at e
  · rename_i hn
    split at e
    · rename_i z
      cases e
      subst hn
      cases rv
      obtain ⟨t, rfl⟩ := rx
      have q := k _ (JOk_str (z := z))
      cases ha : z.cps.all (· < 128)
      · exact wpAny_pyIter_wide ha (pi_one (tk := s'.toks) I _ (turn_str _ z t "str_iterator" (.inr rfl)) ⟨_, Heap.get?_push_size _ rfl, rfl, rfl⟩ q)
      · exact wpAny_pyIter_ascii ha (pi_one (tk := s'.toks) I _ (turn_str _ z t "str_ascii_iterator" (.inl rfl)) ⟨_, Heap.get?_push_size _ rfl, rfl, rfl⟩ q)
    · obtain ⟨xs, e1, rfl⟩ := Option.map_eq_some_iff.mp e
      exact fromSeq e1 rfl rfl rfl ⟨by simp, .inl ⟨rfl, hn, rfl⟩⟩
  · rename_i hn
    obtain ⟨xs, e1, e2⟩ := Option.bind_eq_some_iff.mp e
    obtain ⟨its, e3, rfl⟩ := Option.map_eq_some_iff.mp e2
    exact fromSeq e1 rfl rfl rfl ⟨untup_len e3, .inr ⟨rfl, hn⟩⟩
theorem i_val (F : Fac w) (hK : X.K = w.K) (ha : PE X ea (tE w ax W o a)) : PI X tg ea (tI w ax W o n (.val a)) := by
  refine ⟨fun pins s' σ H Q I ⟨m, s, h, r, hs, sm, e, p⟩ => ?_⟩
  simp only [evI] at e
  refine thn (ha.run pins s' σ H (fun x H1 => ∃ m h v S, R w.D m v x ∧ SimW w ax m h H1 ∧ srcOf w.G n v h = some S ∧ ∀ J, JOk w ax n S J m → Q J H1) I ?_) fun u s1 ⟨x, H1, I1, rx, m, h, v, S, rv, sm, e, k⟩ => it_src F.con hK I1 rx rv sm e k
  refine tE_of hs sm e p fun x h1 m1 H1 x' e1 l1 s1 rx hs1 p1 => ?_
  obtain ⟨S, e2, rfl⟩ := Option.map_eq_some_iff.mp e1
  exact ⟨m1, h1, x, S, rx, s1, e2, fun J j => p1 m1 H1 J (Le.refl _) s1 j⟩
theorem JOk_range {lo c : Int} {k : Nat} {its : List (List Vv)} {J : L2.It} (hi : its = (List.range k).map fun (i : Nat) => [.int (lo + (i : Int) * c)]) (hg : ∀ i H, J.go i H ↔ i < k) (hs : ∀ i H, J.stop i H ↔ k ≤ i) (hy : ∀ i H x H', J.yld i H x H' → H' = H ∧ x = .int (lo + (i : Int) * c)) : JOk w ax 1 ⟨its, none, [], false, false⟩ J m where
  go := fun i m' h H l sm _ q => (hg i H).mpr (by simpa [hi] using q)
  stop := fun i m' h H l sm _ q => (hs i H).mpr (by simpa [hi] using q)
  yld := fun i m' h H x H' it l sm _ q y => by
    obtain ⟨rfl, rfl⟩ := hy i H x H' y
    refine ⟨sm, ?_⟩
    unfold ItR
    rw [if_pos rfl]
    subst hi
    rw [List.getElem?_map] at q
    obtain ⟨d, h1, rfl⟩ := Option.map_eq_some_iff.mp q
    rw [List.getElem?_range (by have := (List.getElem?_eq_some_iff.mp h1).1; simpa using this)] at h1
    cases h1
    exact ⟨_, rfl, rfl⟩
theorem rng_up (a b : Int) : rngItems a b 1 = (List.range (b - a).toNat).map fun (i : Nat) => [.int (a + (i : Int) * 1)] := by
  unfold rngItems
  rw [if_pos (by decide), Int.ediv_one]
  congr 3
  omega
theorem rng_down (a b : Int) : rngItems a b (-1) = (List.range (a - b).toNat).map fun (i : Nat) => [.int (a + (i : Int) * (-1))] := by
  unfold rngItems
  rw [if_neg (by decide)]
  have e : (a - b - -1 - 1) / (- -1 : Int) = a - b := by
    rw [show (- -1 : Int) = 1 by decide, Int.ediv_one]; omega
  rw [e]
theorem JOk_up {lo hi : Int} : JOk w ax 1 ⟨rngItems lo hi 1, none, [], false, false⟩ (Itr lo (hi - lo).toNat) m :=
  JOk_range (lo := lo) (c := 1) (k := (hi - lo).toNat) (rng_up lo hi) (fun _ _ => Iff.rfl) (fun _ _ => Iff.rfl) fun i H x H' y => ⟨y.1, by rw [y.2, Int.mul_one]⟩
theorem JOk_down {lo hi : Int} : JOk w ax 1 ⟨rngItems lo hi (-1), none, [], false, false⟩ (Itc lo (-1) (lo - hi).toNat) m :=
  JOk_range (lo := lo) (c := -1) (k := (lo - hi).toNat) (rng_down lo hi) (fun _ _ => Iff.rfl) (fun _ _ => Iff.rfl) fun i H x H' y => ⟨y.1, y.2⟩
def Exs.len : Exs → Nat
  | .nil => 0
  | .cons _ r => r.len + 1
theorem exs_len : ∀ {as : Exs} {s : Sl} {h : VH} {vs : List Vv} {h' : VH}, evEs w.G o as s h = some (.ok vs h') → vs.length = as.len
  | .nil, s, h, vs, h', e => by cases e; rfl
  | .cons a r, s, h, vs, h', e => by
    obtain ⟨x, h1, _, e1⟩ := Rb_some e
    obtain ⟨y, h2, e2, e3⟩ := Rb_some e1
    cases e3
    exact congrArg (· + 1) (exs_len e2)
theorem rd_rng {as : Exs} {Q : L2.It → Hp → Prop} (q : tI w ax W o n (.rng as) σ H Q) : tEs w ax W o as σ H fun ys H1 => ∃ m h vs S, n = 1 ∧ vs.length = as.len ∧ RL w.D m vs ys ∧ SimW w ax m h H1 ∧ rngOf vs = some S ∧ ∀ J, JOk w ax n S J m → Q J H1 := by
  obtain ⟨m, s, h, r, hs, sm, e, p⟩ := q
  simp only [evI] at e
  split at e
  · rename_i hn
    cases q : evEs w.G o as s h with
    | none => rw [q] at e; cases e
    | some r0 =>
      rw [q] at e
      refine ⟨m, s, h, r0, hs, sm, q, ?_⟩
      cases r0 with
      | ok vs h1 =>
        obtain ⟨S, e2, rfl⟩ := Option.map_eq_some_iff.mp (show (rngOf vs).map _ = some r from e)
        exact fun m1 H1 x l s1 r1 => ⟨m1, h1, vs, S, hn, exs_len q, r1, s1, e2, fun J j => p m1 H1 J l s1 j⟩
      | ex x h1 => cases e; exact p
  · cases e
theorem tEs_imp {as : Exs} {Q Q' : List V → Hp → Prop} (t : tEs w ax W o as σ H Q) (k : ∀ x H, Q x H → Q' x H) : tEs w ax W o as σ H Q' := by
  obtain ⟨m, s, h, r, hs, sm, e, p⟩ := t
  refine ⟨m, s, h, r, hs, sm, e, ?_⟩
  cases r with
  | ok v h => exact fun m' H' x l s r => k _ _ (p m' H' x l s r)
  | ex x h => exact p
theorem PI.to {X : Cx} {e : Expr} {t t' : TI} (p : PI X tg e t) (k : ∀ σ H Q, t' σ H Q → t σ H Q) : PI X tg e t' := ⟨fun pins s σ H Q I h => p.run pins s σ H Q I (k _ _ _ h)⟩
theorem i_rng1 {e1 : Expr} {a1 : Ex} {p : Pos} (hg : Gl X "range") (hm : X.mg "range" = none) (hn : notStar e1 = true) (ha : PA X [e1] (tEs w ax W o (.cons a1 .nil))) : PI X tg (.Call (.Name "range" p) [e1] [] pos) (tI w ax W o n (.rng (.cons a1 .nil))) := by
  refine PI.to (pi_range1 hg hm ha (hs := star_cons hn)) fun σ H Q q => tEs_imp (rd_rng q) fun ys H1 ⟨m, h, vs, S, hn, hl, rl, sm, e, k⟩ => ?_
  subst hn
  unfold rngOf at e
  split at e
  · rename_i j
    split at e
    · rename_i hb
      cases e
      obtain ⟨y, rfl, ry⟩ := rl1 rl
      cases ry
      refine ⟨j, rfl, hb.1, hb.2, k _ ?_⟩
      have := JOk_up (w := w) (ax := ax) (m := m) (lo := 0) (hi := j)
      rwa [Int.sub_zero] at this
    · cases e
  · cases hl
  · cases hl
  · cases e
theorem i_rng2 {e1 e2 : Expr} {a1 a2 : Ex} {p : Pos} (hg : Gl X "range") (hm : X.mg "range" = none) (hn : notStar e1 = true) (hn2 : notStar e2 = true) (ha : PA X [e1, e2] (tEs w ax W o (.cons a1 (.cons a2 .nil)))) : PI X tg (.Call (.Name "range" p) [e1, e2] [] pos) (tI w ax W o n (.rng (.cons a1 (.cons a2 .nil)))) := by
  refine PI.to (pi_range2 hg hm ha (hs := by rw [star_cons hn, star_cons hn2]; rfl) (hs2 := star_cons hn2)) fun σ H Q q => tEs_imp (rd_rng q) fun ys H1 ⟨m, h, vs, S, hn, hl, rl, sm, e, k⟩ => ?_
  subst hn
  unfold rngOf at e
  split at e
  · cases hl
  · rename_i i j
    split at e
    · rename_i hb
      cases e
      obtain ⟨y, z, rfl, ry, rz⟩ := rl2 rl
      cases ry
      cases rz
      exact ⟨i, j, rfl, hb, k _ JOk_up⟩
    · cases e
  · cases hl
  · cases e
theorem i_rng3 {e1 e2 e3 : Expr} {a1 a2 a3 : Ex} {p : Pos} (hg : Gl X "range") (hm : X.mg "range" = none) (hn : notStar e1 = true) (hn2 : [e2, e3].all notStar = true) (ha : PA X [e1, e2, e3] (tEs w ax W o (.cons a1 (.cons a2 (.cons a3 .nil))))) :
    PI X tg (.Call (.Name "range" p) [e1, e2, e3] [] pos) (tI w ax W o n (.rng (.cons a1 (.cons a2 (.cons a3 .nil))))) := by
  refine PI.to (pi_range3 hg hm ha (hs := star_cons hn) (hpl := star_plain hn2)) fun σ H Q q => tEs_imp (rd_rng q) fun ys H1 ⟨m, h, vs, S, hn, hl, rl, sm, e, k⟩ => ?_
  subst hn
  unfold rngOf at e
  split at e
  · cases hl
  · cases hl
  · rename_i i j c
    split at e
    · rename_i hb
      cases e
      obtain ⟨b1, b2, b3, b4, rfl⟩ := hb
      cases rl with
      | cons r1 rl =>
        obtain ⟨y, z, rfl, ry, rz⟩ := rl2 rl
        cases r1
        cases ry
        cases rz
        exact ⟨i, j, -1, (i - j).toNat, rfl, RgC.neg b1 b2 b3 b4, k _ JOk_down⟩
    · cases e
  · cases e
theorem JOk_enum (g : w.ConOk) {xs : List Vv} {i : Nat} {p : Addr} (r : R w.D m (.ref i) (.ref p)) : JOk w ax 2 ⟨xs.mapIdx fun (j : Nat) v => [.int j, v], some (.ref i), xs, true, false⟩ (Ite w.K p) m where
  go := fun i m' h H l sm k hi => by
    obtain ⟨k1, k2, _⟩ := keeps_at rfl k
    obtain ⟨q, ys, e, h1, _, h3⟩ := seq_kind g sm (r.mono l) k1
    cases e
    have hlt : i < ys.length := by rw [← h3.length]; simpa using hi
    exact ⟨ys, ys[i], h1 k2, List.getElem?_eq_getElem hlt⟩
  stop := fun i m' h H l sm k hi => by
    obtain ⟨k1, k2, _⟩ := keeps_at rfl k
    obtain ⟨q, ys, e, h1, _, h3⟩ := seq_kind g sm (r.mono l) k1
    cases e
    exact ⟨ys, h1 k2, by rw [← h3.length]; simpa using hi⟩
  yld := fun j m' h H x H' it l sm k hi y => by
    obtain ⟨k1, k2, _⟩ := keeps_at rfl k
    obtain ⟨q, ys, e, h1, _, h3⟩ := seq_kind g sm (r.mono l) k1
    cases e
    obtain ⟨T, x', rfl, hT, rfl, hy⟩ := y
    refine ⟨sm.fresh hT, ?_⟩
    unfold ItR
    rw [if_neg (by decide)]
    rw [List.getElem?_mapIdx] at hi
    obtain ⟨u, h4, rfl⟩ := Option.map_eq_some_iff.mp hi
    obtain ⟨y', h5, h6⟩ := Paired.get h3 h4
    have := hy ys (h1 k2)
    rw [h5] at this
    cases this
    exact ⟨T, _, rfl, SqT.of upd_same, .cons rfl (.cons h6 .nil)⟩
theorem i_enm {e1 : Expr} {p tpos : Pos} {elts : List Expr} {kk : Nat} (F : Fac w) (hK : X.K = w.K) (hg : Gl X "enumerate") (hm : X.mg "enumerate" = none) (hn : notStar e1 = true) (ha : PE X e1 (tE w ax W o a)) : PI X (.Tuple elts kk tpos) (.Call (.Name "enumerate" p) [e1] [] pos) (tI w ax W o n (.enm a)) := by
  refine PI.to (pi_enum hg hm (pa_cons ha pa_nil (star_cons hn)) (hs := star_cons hn)) fun σ H Q ⟨m, s, h, r, hs, sm, e, p⟩ => ?_
  simp only [evI] at e
  split at e
  · rename_i hn2
    subst hn2
    refine tE_of hs sm e p fun x h1 m1 H1 x' e1 l1 s1 rx hs1 p1 => ?_
    obtain ⟨S, e2, rfl⟩ := Option.map_eq_some_iff.mp e1
    unfold enumOf at e2
    split at e2
    · rename_i i
      have key : ∀ {xs : List Vv}, seqOf w.G h1 (.ref i) = some xs → isL w.G h1 (.ref i) = true → S = ⟨xs.mapIdx fun (j : Nat) v => [.int j, v], some (.ref i), xs, true, false⟩ → ∃ a ys, [x'] = [V.ref a] ∧ SqL X.K H1 a ys ∧ Q (Ite X.K a) H1 := fun {xs} q1 q2 q3 => by
        obtain ⟨q, ys, rfl, k1, _, k3⟩ := seq_kind F.con s1 rx q1
        refine ⟨q, ys, rfl, by rw [hK]; exact k1 q2, ?_⟩
        rw [hK]
        refine p1 m1 H1 _ (Le.refl _) s1 ?_
        subst q3
        exact JOk_enum F.con rx
      split at e2
      · rename_i xs q
        cases e2
        exact key (by unfold seqOf obj; dsimp only; rw [q]) (by unfold isL obj; dsimp only; rw [q]) rfl
      · rename_i xs q
        cases e2
        exact key (by unfold seqOf obj; dsimp only; rw [q]) (by unfold isL obj; dsimp only; rw [q]) rfl
      · cases e2
    · cases e2
  · cases e
end
end Dv

set_option linter.all false
set_option autoImplicit false
set_option maxRecDepth 100000
set_option maxHeartbeats 1000000
namespace Dv
open PySem L2 PySem.Spec PyProof.Rows
/-- nothing is raised -/
abbrev WF : WX := fun _ _ _ _ => False
/-- any block of a context -/
def blkX (X : Cx) (scope : Scope) (Y : Cx) : Prop := ∃ (s : Shared) (H : Hp) (C : Addr) (cl : List (Str × Addr)) (fp : List Addr), Y = X.blk s H scope (compEnvC scope cl C X.env) fp
def noSetI : Expr → Bool
  | .Set _ _ _ => false
  | _ => true
section
variable {w : Wd} {ax : Ax} {W : WX} {o : Orc} {P : Program} {wl : World} {base : Heap} {n : Nat} {N : List Str} {sc scope : Scope} {cm : Bool} {X : Cx} {a b c : Ex} {ea eb ec tg : Expr} {pos : Pos} {f : Str} {m : Mp} {h : VH} {H : Hp} {s : Sl} {σ : L2.St}
theorem Good.blk {Y : Cx} (g : Good w ax P wl base n N sc true X) (hy : blkX X scope Y) : Good w none P wl base n N (relS scope sc) true Y := by
  obtain ⟨s, H, C, cl, fp, rfl⟩ := hy
  exact ⟨g.hP, g.hw, g.hK, g.hm, g.hB, g.hN, g.nd, by rw [← g.hs]; rfl, g.hr, g.hd, g.hc, fun _ => rfl, fun _ _ _ _ z => by cases z⟩
theorem takes_blk {Y : Cx} (hy : blkX X scope Y) : Takes Y WF := fun _ _ ⟨_, _, _, _, _, _, _, _, _, _, _, _, _, _, _, _, w⟩ => w.elim
theorem fold_ok {e : Expr} (h : noSetI e = true) {env : Env} : ∀ x, foldedSetIterable e env x = pure x := fun x => by
  unfold foldedSetIterable
  cases e <;> first | rfl | cases h
theorem wipe_wipe : ∀ {vs us : List Nat}, (∀ i ∈ us, i ∈ vs) → wipe (wipe σ us) vs = wipe σ vs
  | vs, [], _ => rfl
  | vs, u :: us, h => by
    show wipe ((wipe σ us).set u none) vs = wipe σ vs
    rw [gT_ok.wipe_at (h u List.mem_cons_self)]
    exact wipe_wipe fun i hi => h i (List.mem_cons_of_mem _ hi)
theorem lcF_ne {e : Sl → VH → Option (Re Vv)} {cd : Sl → VH → Option (Re Bool)} {tgl : List Nat} {kp : VH → Bool} {d : Nat} : ∀ {its : List (List Vv)} {h : VH} {x : Xv} {h' : VH}, lcF e cd s tgl kp d its h = some (.ex x h') → False
  | [], h, x, h', q => by unfold lcF at q; split at q <;> cases q
  | it :: r, h, x, h', q => by
    unfold lcF at q
    split at q
    · split at q
      · split at q
        · split at q
          · split at q
            · split at q
              · exact lcF_ne q
              · cases q
            · cases q
          · cases q
        · exact lcF_ne q
        · cases q
      · cases q
    · cases q
theorem lcF_ref {e : Sl → VH → Option (Re Vv)} {cd : Sl → VH → Option (Re Bool)} {tgl : List Nat} {kp : VH → Bool} {d : Nat} {v : Vv} : ∀ {its : List (List Vv)} {h : VH} {h' : VH}, lcF e cd s tgl kp d its h = some (.ok v h') → v = .ref d
  | [], h, h', q => by
    unfold lcF at q
    split at q
    · cases q; rfl
    · cases q
  | it :: r, h, h', q => by
    unfold lcF at q
    split at q
    · split at q
      · split at q
        · split at q
          · split at q
            · split at q
              · exact lcF_ref q
              · cases q
            · cases q
          · cases q
        · exact lcF_ref q
        · cases q
      · cases q
    · cases q
/-- the reading of a comprehension -/
theorem rd_lc {e cd : _} {own tgl : List Nat} {it : It} {Q : VK} (htg : ∀ i ∈ tgl, i ∈ own) (q : tE w none W o (.lc e own tgl it cd) σ H Q) :
    tLc (tI w none W o tgl.length it) (gTg w.K tgl) (tT w none WF o cd) (tE w none WF o e) own σ H Q := by
  obtain ⟨m, s, h, r, hs, sm, ev, p⟩ := q
  simp only [evE] at ev
  cases q0 : evI w.G o it tgl.length s h with
  | none => rw [q0] at ev; cases ev
  | some r0 =>
    rw [q0] at ev
    refine ⟨m, s, h, r0, hs, sm, q0, ?_⟩
    cases r0 with
    | ex x h1 => cases ev; exact p
    | ok S h1 =>
      intro m1 H1 J l1 s1 jo D hD
      have ev : lcF (evE w.G o e) (evT w.G o cd) (wipeV s own) tgl (keeps w.G S) h1.length S.items (h1 ++ [.lst []]) = some r := ev
      refine ⟨fun i k H => k = S.items.length - i ∧ i ≤ S.items.length ∧ ∃ m h, Le m1 m ∧ SimW w none m h H ∧ m h1.length = some D ∧ lcF (evE w.G o e) (evT w.G o cd) (wipeV s own) tgl (keeps w.G S) h1.length (S.items.drop i) h = some r,
        ⟨_, rfl, Nat.zero_le _, _, _, s1.le D, s1.new (o := .lst []) hD ⟨_, upd_same, .nil⟩, ext_same, ev⟩, ?_⟩
      rintro i k H2 ⟨rfl, hi, m2, h2, l2, s2, hd, e2⟩
      by_cases hlt : i < S.items.length
      · rw [List.drop_eq_getElem_cons hlt] at e2
        generalize hit : S.items[i] = itm at e2
        have hit : S.items[i]? = some itm := by rw [List.getElem?_eq_getElem hlt, hit]
        unfold lcF at e2
        split at e2
        · rename_i kp
          split at e2
          · rename_i sl1 q1
            refine .inr ⟨jo.go i m2 h2 H2 l2 s2 kp hlt, fun H3 => ∃ m h, Le m1 m ∧ SimW w none m h H3 ∧ m h1.length = some D ∧ lcF (evE w.G o e) (evT w.G o cd) (wipeV s own) tgl (keeps w.G S) h1.length (S.items.drop (i + 1)) h = some r,
              fun H3 q3 => ⟨S.items.length - (i + 1), by omega, rfl, hlt, q3⟩, fun x H3 y => ?_⟩
            obtain ⟨s3, ir⟩ := jo.yld i m2 h2 H2 x H3 itm l2 s2 kp hit y
            refine tg_ok ((hs.mono (l1.trans l2)).wipe own) q1 ir htg fun σ2 hs2 hw2 => ⟨hw2.trans (wipe_wipe fun _ z => z), ?_⟩
            split at e2
            · rename_i h3 q4
              refine ⟨m2, sl1, h2, _, hs2, s3, q4, fun m4 H4 b l4 s4 rb => ?_⟩
              subst rb
              rw [if_pos rfl]
              split at e2
              · rename_i v h5 q5
                refine ⟨m4, sl1, h3, _, hs2.mono l4, s4, q5, fun m5 H5 y l5 s5 ry => ?_⟩
                split at e2
                · rename_i acc q6
                  obtain ⟨p6, hp6, hr6⟩ := s5.at_ _ _ q6
                  have hd5 := l5 _ _ (l4 _ _ hd)
                  rw [hd5] at hp6
                  cases hp6
                  obtain ⟨ys, k6, k7⟩ := hr6
                  split at e2
                  · rename_i hz
                    refine ⟨ys, k6, by rw [← k7.length, ← sz_eq]; exact hz, m5, _, (l2.trans l4).trans l5, s5.set (o' := .lst (acc ++ [v])) q6 rfl rfl hd5 ⟨_, upd_same, Paired.upds k7 ry⟩, hd5, e2⟩
                  · cases e2
                · cases e2
              · cases e2
            · rename_i h3 q4
              refine ⟨m2, sl1, h2, _, hs2, s3, q4, fun m4 H4 b l4 s4 rb => ?_⟩
              subst rb
              rw [if_neg Bool.false_ne_true]
              exact ⟨m4, h3, l2.trans l4, s4, l4 _ _ hd, e2⟩
            · cases e2
          · cases e2
        · cases e2
      · have he : i = S.items.length := by omega
        subst he
        rw [List.drop_length] at e2
        unfold lcF at e2
        split at e2
        · rename_i kp
          cases e2
          exact .inl ⟨jo.stop _ m2 h2 H2 l2 s2 kp (Nat.le_refl _), p m2 H2 _ (l1.trans l2) s2 ⟨D, hd, rfl⟩⟩
        · cases e2
theorem e_lc {e : Ex} {cd : Tt} {elt iter : Expr} {ifs : List Expr} {own : List (Str × Nat)} {tgl : List Nat} {it : It} (g : Good w ax P wl base n N sc true X) (hb : blkC N sc scope own = true) (htg : ∀ i ∈ tgl, i ∈ own.map (·.2)) (hn : noSetI iter = true) (hi : PI X tg iter (tI w ax W o tgl.length it))
    (hg : ∀ Y, blkX X scope Y → PG Y tg (gTg w.K tgl)) (ht : ∀ Y, blkX X scope Y → PTs Y ifs (tT w none WF o cd)) (he : ∀ Y, blkX X scope Y → PE Y elt (tE w none WF o e)) :
    PE X (.ListComp elt [⟨tg, iter, ifs, 0⟩] scope pos) (tE w ax W o (.lc e (own.map (·.2)) tgl it cd)) := by
  have ea := g.nx rfl
  subst ea
  have hN := g.hN
  have hs := g.hs
  subst hN hs
  exact PE.to (pe_lc (g.hc rfl) g.nd hi (blkOk_by hb) (fun s H C cl fp => hg _ ⟨s, H, C, cl, fp, rfl⟩) (fun s H C cl fp => ht _ ⟨s, H, C, cl, fp, rfl⟩) (fun s H C cl fp => he _ ⟨s, H, C, cl, fp, rfl⟩) (fold_ok hn)) fun σ H Q q => rd_lc htg q
end
end Dv

set_option linter.all false
set_option autoImplicit false
set_option maxRecDepth 100000
set_option maxHeartbeats 1000000
namespace Dv
open PySem L2 PySem.Spec PyProof.Rows
/-- behind a statement's result -/
def PSr (w : Wd) (ax : Ax) (W : WX) (m : Mp) (D : Ends) : Sr → Prop
  | .nx s h => ∀ m' H' σ', Le m m' → SimW w ax m' h H' → SlR w.D m' s σ' → D.nx σ' H'
  | .rt v h => ∀ m' H' x, Le m m' → SimW w ax m' h H' → R w.D m' v x → D.rt x H'
  | .bk s h => ∀ m' H' σ', Le m m' → SimW w ax m' h H' → SlR w.D m' s σ' → D.bk σ' H'
  | .ct s h => ∀ m' H' σ', Le m m' → SimW w ax m' h H' → SlR w.D m' s σ' → D.ct σ' H'
  | .ex x s h => ∀ m' H' σ' dd gs, Le m m' → SimW w ax m' h H' → SlR w.D m' s σ' → H' dd = some (.xd gs) → RF w.D m' x.fs gs → W (.ref (w.D.ca x.c)) (some dd) σ' H'
def tS (w : Wd) (ax : Ax) (W : WX) (o : Orc) (st : St) : TS := fun D σ H => ∃ m s h r, SlR w.D m s σ ∧ SimW w ax m h H ∧ evS w.G o st s h = some r ∧ PSr w ax W m D r
section
variable {w : Wd} {ax : Ax} {W : WX} {o : Orc} {P : Program} {wl : World} {base : Heap} {n : Nat} {N : List Str} {sc scope : Scope} {cm : Bool} {X : Cx} {a b c : Ex} {ea eb ec tg : Expr} {pos : Pos} {f : Str} {m m1 : Mp} {h : VH} {H : Hp} {s : Sl} {σ : L2.St} {D : Ends} {r : Sr}
theorem PSr.mono (p : PSr w ax W m D r) (l : Le m m1) : PSr w ax W m1 D r := by
  cases r with
  | nx s h => exact fun m' H' σ' k => p m' H' σ' (l.trans k)
  | rt v h => exact fun m' H' x k => p m' H' x (l.trans k)
  | bk s h => exact fun m' H' σ' k => p m' H' σ' (l.trans k)
  | ct s h => exact fun m' H' σ' k => p m' H' σ' (l.trans k)
  | ex x s h => exact fun m' H' σ' dd gs k => p m' H' σ' dd gs (l.trans k)
theorem ex_of {α β : Type} {rel : Mp → α → β → Prop} {Q : β → Hp → Prop} {x : Xv} {h1 : VH} (hs : SlR w.D m s σ) (p : PSr w ax W m D (.ex x s h1)) : PRr w ax rel (ExW W σ) m Q (.ex x h1) :=
  fun m' H' dd gs l sm hd rf => p m' H' σ dd gs l sm (hs.mono l) hd rf
theorem sE_of {a : Ex} {k : Vv → VH → Option Sr} {Q0 : VK} (hs : SlR w.D m s σ) (sm : SimW w ax m h H) (e : Sb (evE w.G o a s h) s k = some r) (p : PSr w ax W m D r)
    (c : ∀ v h1 m1 H1 x, k v h1 = some r → Le m m1 → SimW w ax m1 h1 H1 → R w.D m1 v x → SlR w.D m1 s σ → PSr w ax W m1 D r → Q0 x H1) : tE w ax W o a σ H Q0 := by
  cases q : evE w.G o a s h with
  | none => rw [q] at e; cases e
  | some r0 =>
    rw [q] at e
    refine ⟨m, s, h, r0, hs, sm, q, ?_⟩
    cases r0 with
    | ok v h1 => exact fun m1 H1 x l s1 r1 => c v h1 m1 H1 x e l s1 r1 (hs.mono l) (p.mono l)
    | ex x h1 => cases e; exact ex_of hs p
theorem sT_of {a : Tt} {k : Bool → VH → Option Sr} {Q0 : Bool → Hp → Prop} (hs : SlR w.D m s σ) (sm : SimW w ax m h H) (e : Sb (evT w.G o a s h) s k = some r) (p : PSr w ax W m D r)
    (c : ∀ v h1 m1 H1, k v h1 = some r → Le m m1 → SimW w ax m1 h1 H1 → SlR w.D m1 s σ → PSr w ax W m1 D r → Q0 v H1) : tT w ax W o a σ H Q0 := by
  cases q : evT w.G o a s h with
  | none => rw [q] at e; cases e
  | some r0 =>
    rw [q] at e
    refine ⟨m, s, h, r0, hs, sm, q, ?_⟩
    cases r0 with
    | ok v h1 => intro m1 H1 x l s1 r1; cases r1; exact c v h1 m1 H1 e l s1 (hs.mono l) (p.mono l)
    | ex x h1 => cases e; exact ex_of hs p
theorem sEs_of {a : Exs} {k : List Vv → VH → Option Sr} {Q0 : List V → Hp → Prop} (hs : SlR w.D m s σ) (sm : SimW w ax m h H) (e : Sb (evEs w.G o a s h) s k = some r) (p : PSr w ax W m D r)
    (c : ∀ v h1 m1 H1 x, k v h1 = some r → Le m m1 → SimW w ax m1 h1 H1 → RL w.D m1 v x → SlR w.D m1 s σ → PSr w ax W m1 D r → Q0 x H1) : tEs w ax W o a σ H Q0 := by
  cases q : evEs w.G o a s h with
  | none => rw [q] at e; cases e
  | some r0 =>
    rw [q] at e
    refine ⟨m, s, h, r0, hs, sm, q, ?_⟩
    cases r0 with
    | ok v h1 => exact fun m1 H1 x l s1 r1 => c v h1 m1 H1 x e l s1 r1 (hs.mono l) (p.mono l)
    | ex x h1 => cases e; exact ex_of hs p
theorem sI_of {a : It} {j : Nat} {k : Src → VH → Option Sr} {Q0 : L2.It → Hp → Prop} (hs : SlR w.D m s σ) (sm : SimW w ax m h H) (e : Sb (evI w.G o a j s h) s k = some r) (p : PSr w ax W m D r)
    (c : ∀ S h1 m1 H1 J, k S h1 = some r → Le m m1 → SimW w ax m1 h1 H1 → JOk w ax j S J m1 → SlR w.D m1 s σ → PSr w ax W m1 D r → Q0 J H1) : tI w ax W o j a σ H Q0 := by
  cases q : evI w.G o a j s h with
  | none => rw [q] at e; cases e
  | some r0 =>
    rw [q] at e
    refine ⟨m, s, h, r0, hs, sm, q, ?_⟩
    cases r0 with
    | ok v h1 => exact fun m1 H1 x l s1 r1 => c v h1 m1 H1 x e l s1 r1 (hs.mono l) (p.mono l)
    | ex x h1 => cases e; exact ex_of hs p
theorem st_nil : PSs X [] (tS w ax W o .skip) := by
  refine PSs.to pss_nil fun D σ H ⟨m, s, h, r, hs, sm, e, p⟩ => ?_
  cases e
  exact p m H σ (Le.refl m) sm hs
theorem st_cons {st : Stmt} {rest : List Stmt} {a b : St} (h1 : PS X st (tS w ax W o a)) (h2 : PSs X rest (tS w ax W o b)) : PSs X (st :: rest) (tS w ax W o (.seq a b)) := by
  refine PSs.to (pss_cons h1 h2) fun D σ H ⟨m, s, h, r, hs, sm, e, p⟩ => ?_
  simp only [evS] at e
  cases q : evS w.G o a s h with
  | none => rw [q] at e; cases e
  | some r0 =>
    rw [q] at e
    refine ⟨m, s, h, r0, hs, sm, q, ?_⟩
    cases r0 with
    | nx s1 h1 => exact fun m' H' σ' l sm' hs' => ⟨m', s1, h1, r, hs', sm', e, p.mono l⟩
    | rt v h1 => cases e; exact p
    | bk s1 h1 => cases e; exact p
    | ct s1 h1 => cases e; exact p
    | ex x s1 h1 => cases e; exact p
theorem st_pass : PS X (.Pass pos) (tS w ax W o .skip) := by
  refine PS.to ps_pass fun D σ H ⟨m, s, h, r, hs, sm, e, p⟩ => ?_
  cases e
  exact p m H σ (Le.refl m) sm hs
theorem st_doc {x : Str} {j : _} {p0 pos' : Pos} : PS X (.Expr (.Constant (.str x) j p0) pos') (tS w ax W o .skip) := by
  refine PS.to ps_doc fun D σ H ⟨m, s, h, r, hs, sm, e, p⟩ => ?_
  cases e
  exact p m H σ (Le.refl m) sm hs
/-- no comprehension -/
def noComp : Expr → Bool
  | .ListComp _ _ _ _ => false
  | .SetComp _ _ _ _ => false
  | .DictComp _ _ _ _ _ => false
  | _ => true
theorem no_swap {e : Expr} {t : Option Expr} {l : Nat} {env : Env} (h : noComp e = true) : swapsWith e t l env = pure false := by
  cases e <;> first | rfl | cases h
theorem st_expr (hn : noComp ea = true) (ha : PE X ea (tE w ax W o a)) : PS X (.Expr ea pos) (tS w ax W o (.expr a)) := by
  refine PS.to (ps_expr ha (no_swap hn)) fun D σ H ⟨m, s, h, r, hs, sm, e, p⟩ => ?_
  refine sE_of hs sm e p fun x h1 m1 H1 x' e1 l1 s1 rx hs1 p1 => ?_
  cases e1
  exact p1 m1 H1 σ (Le.refl _) s1 hs1
theorem st_ret (ha : PE X ea (tE w ax W o a)) : PS X (.Return (some ea) pos) (tS w ax W o (.ret a)) := by
  refine PS.to (ps_ret ha) fun D σ H ⟨m, s, h, r, hs, sm, e, p⟩ => ?_
  refine sE_of hs sm e p fun x h1 m1 H1 x' e1 l1 s1 rx hs1 p1 => ?_
  cases e1
  exact p1 m1 H1 x' (Le.refl _) s1 rx
theorem st_retN : PS X (.Return none pos) (tS w ax W o (.ret (.cst .non))) := by
  refine PS.to ps_retN fun D σ H ⟨m, s, h, r, hs, sm, e, p⟩ => ?_
  cases e
  exact p m H _ (Le.refl m) sm rfl
theorem st_if {t : Tt} {xs ys : List Stmt} {b1 b2 : St} (hc : PT X ec (tT w ax W o t)) (ha : PSs X xs (tS w ax W o b1)) (hb : PSs X ys (tS w ax W o b2)) : PS X (.If ec xs ys pos) (tS w ax W o (.ifs t b1 b2)) := by
  refine PS.to (ps_if hc ha hb) fun D σ H ⟨m, s, h, r, hs, sm, e, p⟩ => ?_
  refine sT_of hs sm e p fun k h1 m1 H1 e1 l1 s1 hs1 p1 => ?_
  cases k with
  | true => rw [if_pos rfl]; exact ⟨m1, s, h1, r, hs1, s1, e1, p1⟩
  | false => rw [if_neg Bool.false_ne_true]; exact ⟨m1, s, h1, r, hs1, s1, e1, p1⟩
theorem st_brk : PS X (.Break pos) (tS w ax W o .brk) := by
  refine PS.to ps_break fun D σ H ⟨m, s, h, r, hs, sm, e, p⟩ => ?_
  cases e
  exact p m H σ (Le.refl m) sm hs
theorem st_cnt : PS X (.Continue pos) (tS w ax W o .cnt) := by
  refine PS.to ps_continue fun D σ H ⟨m, s, h, r, hs, sm, e, p⟩ => ?_
  cases e
  exact p m H σ (Le.refl m) sm hs
theorem st_set {i : Nat} {x : Str} {p' : Pos} (hN : X.N.Nodup) (hi : X.N[i]? = some x) (hx : Loc X.env.scope x) (hf : X.fn x = true ∨ X.env.scope.names.lookup x = some .local) (hn : swapsWith ea (some (.Name x p')) pos.line X.env = pure false) (ha : PE X ea (tE w ax W o a)) : PS X (.Assign [.Name x p'] ea pos) (tS w ax W o (.asg (.one i) a)) := by
  refine PS.to (ps_set hN hi hx ha hn hf) fun D σ H ⟨m, s, h, r, hs, sm, e, p⟩ => ?_
  refine sE_of hs sm e p fun x h1 m1 H1 x' e1 l1 s1 rx hs1 p1 => ?_
  cases e1
  exact p1 m1 H1 _ (Le.refl _) s1 (hs1.set i rx)
/-- .. a comprehension on one line, the name a local that the block does not have -/
theorem st_setLc {i : Nat} {x : Str} {p' : Pos} {e : Ex} {cd : Tt} {elt iter : Expr} {ifs : List Expr} {own : List (Str × Nat)} {tgl : List Nat} {it : It} (g : Good w ax P wl base n N sc true X) (hb : blkC N sc scope own = true) (htg : ∀ i ∈ tgl, i ∈ own.map (·.2)) (hn : noSetI iter = true) (hi : PI X tg iter (tI w ax W o tgl.length it))
    (hg : ∀ Y, blkX X scope Y → PG Y tg (gTg w.K tgl)) (ht : ∀ Y, blkX X scope Y → PTs Y ifs (tT w none WF o cd)) (he : ∀ Y, blkX X scope Y → PE Y elt (tE w none WF o e)) (hy : N[i]? = some x) (hyl : sc.names.lookup x = some .local)
    {p0 : Pos} (hsw : swapsWith (.ListComp elt [⟨tg, iter, ifs, 0⟩] scope p0) (some (.Name x p')) pos.line X.env = pure true) : PS X (.Assign [.Name x p'] (.ListComp elt [⟨tg, iter, ifs, 0⟩] scope p0) pos) (tS w ax W o (.asg (.one i) (.lc e (own.map (·.2)) tgl it cd))) := by
  have ea := g.nx rfl
  subst ea
  have hN := g.hN
  have hs := g.hs
  subst hN hs
  refine PS.to (ps_setLc (i := i) (g.hc rfl) g.nd hy hyl hsw hi (blkOk_by hb) (fun s H C cl fp => hg _ ⟨s, H, C, cl, fp, rfl⟩) (fun s H C cl fp => ht _ ⟨s, H, C, cl, fp, rfl⟩) (fun s H C cl fp => he _ ⟨s, H, C, cl, fp, rfl⟩) (fold_ok hn)) fun D σ H ⟨m, s, h, r, hs, sm, e, p⟩ => ?_
  refine rd_lc (Q := fun x H1 => gName i x σ H1 D.nx) htg (sE_of hs sm e p fun x h1 m1 H1 x' e1 l1 s1 rx hs1 p1 => ?_)
  cases e1
  exact p1 m1 H1 _ (Le.refl _) s1 (hs1.set i rx)
theorem st_many {es : List Expr} {k : Nat} {p' : Pos} {tgl : List Nat} (F : Fac w) (hg : PG X (.Tuple es k p') (gTg w.K tgl)) (hsw : swappedStores [.Tuple es k p'] ea X.env = pure none) (hn : noComp ea = true) (ha : PE X ea (tE w ax W o a)) : PS X (.Assign [.Tuple es k p'] ea pos) (tS w ax W o (.asg (.many tgl) a)) := by
  refine PS.to (ps_asg ha hg (no_swap (l := pos.line) (t := some (.Tuple es k p')) (env := X.env) hn) hsw) fun D σ H ⟨m, s, h, r, hs, sm, e, p⟩ => ?_
  refine sE_of hs sm e p fun x h1 m1 H1 x' e1 l1 s1 rx hs1 p1 => ?_
  have e1 : (if tgl.length = 1 then none else (match obj w.G h1 x with | some (.tup xs) => (setT tgl s xs).map fun s1 => Sr.nx s1 h1 | _ => none)) = some r := e1
  split at e1
  · cases e1
  · rename_i hne
    split at e1
    · rename_i xs q
      obtain ⟨s2, q2, rfl⟩ := Option.map_eq_some_iff.mp e1
      refine tg_ok (vs := tgl) hs1 q2 ?_ (fun _ z => z) fun σ1 h2 _ => p1 m1 H1 σ1 (Le.refl _) s1 h2
      unfold ItR
      rw [if_neg hne]
      obtain ⟨pp, ys, q3, q4, q5⟩ := tup_at F.con s1 rx q
      exact ⟨pp, ys, q3, q4, q5⟩
    · cases e1
theorem st_par2 {i j : Nat} {x y : Str} {px py pt : Pos} {kt k2 : Nat} {pt2 : Pos} {as : Exs} (hc : X.calm = true) (hN : X.N.Nodup) (hi : X.N[i]? = some x) (hj : X.N[j]? = some y) (hij : i ≠ j)
    (hx : X.env.scope.names.lookup x = some .local) (hy : X.env.scope.names.lookup y = some .local) (hw : swappedStores [.Tuple [.Name x px, .Name y py] kt pt] (.Tuple [ea, eb] k2 pt2) X.env = pure (some [x, y])) (ha : PA X [ea, eb] (tEs w ax W o as)) :
    PS X (.Assign [.Tuple [.Name x px, .Name y py] kt pt] (.Tuple [ea, eb] k2 pt2) pos) (tS w ax W o (.par [i, j] as)) := by
  refine PS.to (ps_par hc hN hi hj hij hx hy ha hw) fun D σ H ⟨m, s, h, r, hs, sm, e, p⟩ => ?_
  refine sEs_of hs sm e p fun xs h1 m1 H1 ys e1 l1 s1 rx hs1 p1 => ?_
  obtain ⟨s2, q2, rfl⟩ := Option.map_eq_some_iff.mp e1
  match xs, q2 with
  | [u, v], q2 =>
    obtain ⟨u', v', rfl, ru, rv⟩ := rl2 rx
    cases q2
    exact ⟨u', v', rfl, p1 m1 H1 _ (Le.refl _) s1 ((hs1.set i ru).set j rv)⟩
theorem st_par3 {i j l : Nat} {x y z : Str} {px py pz pt : Pos} {kt k2 : Nat} {pt2 : Pos} {as : Exs} (hc : X.calm = true) (hN : X.N.Nodup) (hi : X.N[i]? = some x) (hj : X.N[j]? = some y) (hl : X.N[l]? = some z) (hij : i ≠ j) (hil : i ≠ l) (hjl : j ≠ l)
    (hx : X.env.scope.names.lookup x = some .local) (hy : X.env.scope.names.lookup y = some .local) (hz : X.env.scope.names.lookup z = some .local) (hw : swappedStores [.Tuple [.Name x px, .Name y py, .Name z pz] kt pt] (.Tuple [ea, eb, ec] k2 pt2) X.env = pure (some [x, y, z])) (ha : PA X [ea, eb, ec] (tEs w ax W o as)) :
    PS X (.Assign [.Tuple [.Name x px, .Name y py, .Name z pz] kt pt] (.Tuple [ea, eb, ec] k2 pt2) pos) (tS w ax W o (.par [i, j, l] as)) := by
  refine PS.to (ps_par3 hc hN hi hj hl hij hil hjl hx hy hz ha hw) fun D σ H ⟨m, s, h, r, hs, sm, e, p⟩ => ?_
  refine sEs_of hs sm e p fun xs h1 m1 H1 ys e1 l1 s1 rx hs1 p1 => ?_
  obtain ⟨s2, q2, rfl⟩ := Option.map_eq_some_iff.mp e1
  match xs, q2 with
  | [u, v, t], q2 =>
    cases rx with
    | cons ru rx =>
      obtain ⟨v', t', rfl, rv, rt⟩ := rl2 rx
      cases q2
      exact ⟨_, v', t', rfl, p1 m1 H1 _ (Le.refl _) s1 (((hs1.set i ru).set j rv).set l rt)⟩
/-- what a pair's store does, by its syntax -/
def swA (sc : Scope) (ts vs : List Expr) : Bool := !(ts.length == 2 || ts.length == 3) || vs.length != ts.length || (if sc.kind.isAnnotationScope then ScopeKind.function else sc.kind) != .function
def swB (sc : Scope) (t v : Expr) : Option (Option (List Str)) := match t, v with
  | .Tuple ts _ _, .Tuple vs _ _ =>
    if swA sc ts vs then some none
    else if (vs.any fun | .Starred .. => true | _ => false) then some none
    else
      let line := (ts.head?.map (·.pos.line)).getD 0
      let names := ts.filterMap fun
        | .Name id pos => if sc.names.lookup id == some .local && pos.line == line then some id else none
        | _ => none
      if names.length != ts.length || names.eraseDups.length != names.length then some none
      else if vs.all (foldedForSure 8) then some none
      else if vs.all (constantsAlone 8) then none
      else some (some names)
  | .Tuple _ _ _, _ => some none
  | _, _ => none
theorem sw_ok {t v : Expr} {env : Env} {z : Option (List Str)} (h : swB env.scope t v = some z) : swappedStores [t] v env = pure z := by
  unfold swB at h
  split at h
  · rename_i ts k1 p1 vs k2 p2
    unfold swappedStores
    dsimp only
    split at h
    · rename_i h1
      cases h
      rw [if_pos (by exact h1)]
    · rename_i h1
      rw [if_neg (by exact h1)]
      split at h
      · rename_i h2
        cases h
        rw [if_pos (by exact h2)]
      · rename_i h2
        rw [if_neg (by exact h2)]
        dsimp only at h
        split at h
        · rename_i h3
          cases h
          rw [if_pos (by exact h3)]
        · rename_i h3
          rw [if_neg (by exact h3)]
          split at h
          · rename_i h4
            cases h
            rw [if_pos (by exact h4)]
          · rename_i h4
            rw [if_neg (by exact h4)]
            split at h
            · cases h
            · rename_i h5
              cases h
              rw [if_neg (by exact h5)]
              rfl
  · rename_i hn
    cases h
    cases v <;> first | rfl | exact (hn _ _ _ rfl).elim
  · cases h
theorem RF.put {D : Ad} {v : Vv} {x : V} (r : R D m v x) : ∀ {fs : List (Str × Vv)} {gs : List (Str × V)}, RF D m fs gs → RF D m (Dv.putF f v fs) (L2.putF f x gs)
  | _, _, .nil => .cons ⟨rfl, r⟩ .nil
  | (g, u) :: fs, (g', y) :: gs, .cons ⟨h1, h2⟩ t => by
    dsimp only at h1 h2
    subst h1
    unfold Dv.putF L2.putF
    by_cases hg : g = f
    · rw [if_pos hg, if_pos hg]; exact .cons ⟨rfl, r⟩ t
    · rw [if_neg hg, if_neg hg]; exact .cons ⟨rfl, h2⟩ (RF.put r t)
theorem st_fld {p' : Pos} (C : w.ClsAll) (hK : X.K = w.K) (hn : noComp ea = true) (ho : PE X eb (tE w ax W o b)) (ha : PE X ea (tE w ax W o a)) : PS X (.Assign [.Attribute eb f p'] ea pos) (tS w ax W o (.fld b f a)) := by
  refine PS.to (ps_fld ho ha (no_swap hn)) fun D σ H ⟨m, s, h, r, hs, sm, e, p⟩ => ?_
  refine sE_of hs sm e p fun x h1 m1 H1 x' e1 l1 s1 rx hs1 p1 => ?_
  refine sE_of hs1 s1 e1 p1 fun y h2 m2 H2 y' e2 l2 s2 ry hs2 p2 => ?_
  split at e2
  · rename_i i
    split at e2
    · rename_i cn fs q
      split at e2
      · rename_i hb
        cases e2
        obtain ⟨pp, rfl, hm, dx, gs, k1, k2⟩ := s2.ref ry q
        obtain ⟨kc, c1, c2, c3⟩ := fld_some hb.2
        have CC := C cn kc c1
        refine ⟨pp, _, dx, gs, rfl, k1, by rw [hK]; exact CC.cl c2, by rw [hK]; exact CC.fl f c3, by rw [← k2.length]; omega, ?_⟩
        exact p2 m2 _ σ (Le.refl _) (s2.set (o' := .ins cn (Dv.putF f x fs)) q rfl rfl hm ⟨dx, _, upd_same, RF.put (rx.mono l2) k2⟩) hs2
      · cases e2
    · cases e2
  · cases e2
end
end Dv

set_option linter.all false
set_option autoImplicit false
set_option maxRecDepth 100000
set_option maxHeartbeats 1000000
namespace Dv
open PySem L2 PySem.Spec PyProof.Rows
section
variable {w : Wd} {ax : Ax} {W : WX} {o : Orc} {P : Program} {wl : World} {base : Heap} {n : Nat} {N : List Str} {sc scope : Scope} {cm : Bool} {X : Cx} {a b c : Ex} {ea eb ec tg : Expr} {pos : Pos} {f : Str} {m m1 : Mp} {h : VH} {H : Hp} {s : Sl} {σ : L2.St} {D : Ends} {r : Sr}
theorem st_seti {p' : Pos} (hsl : noSlice ec = true) (hn : noComp ea = true) (ho : PE X eb (tE w ax W o b)) (hi : PE X ec (tE w ax W o c)) (ha : PE X ea (tE w ax W o a)) : PS X (.Assign [.Subscript eb ec p'] ea pos) (tS w ax W o (.seti b c a)) := by
  refine PS.to (ps_asg ha (pg_sub ho hi set_list (ha := fun v => by cases ec <;> first | rfl | cases hsl)) (no_swap (l := pos.line) (t := some (.Subscript eb ec p')) (env := X.env) hn)) fun D σ H ⟨m, s, h, r, hs, sm, e, p⟩ => ?_
  refine sE_of hs sm e p fun x h1 m1 H1 x' e1 l1 s1 rx hs1 p1 => ?_
  refine sE_of hs1 s1 e1 p1 fun y h2 m2 H2 y' e2 l2 s2 ry hs2 p2 => ?_
  refine sE_of hs2 s2 e2 p2 fun z h3 m3 H3 z' e3 l3 s3 rz hs3 p3 => ?_
  split at e3
  · rename_i q k
    split at e3
    · rename_i xs q1
      split at e3
      · rename_i j q2
        cases e3
        obtain ⟨pp, rfl, hm, ys, k1, k2⟩ := s3.ref (ry.mono l3) q1
        cases rz
        refine ⟨pp, ys, k, j, rfl, rfl, k1, by rw [← k2.length]; exact q2, ?_⟩
        exact p3 m3 _ σ (Le.refl _) (s3.set (o' := .lst (xs.set j x)) q1 rfl rfl hm ⟨_, upd_same, Paired.setP ((rx.mono l2).mono l3) j k2⟩) hs3
      · cases e3
    · cases e3
  · cases e3
theorem st_aug {i : Nat} {x : Str} {op : Operator} {p' : Pos} (hN : X.N.Nodup) (hi : X.N[i]? = some x) (hx : Loc X.env.scope x) (hf : X.fn x = true ∨ X.env.scope.names.lookup x = some .local) (hop : op = .Add ∨ op = .Sub) (ha : PE X ea (tE w ax W o a)) : PS X (.AugAssign (.Name x p') op ea pos) (tS w ax W o (.aug i op a)) := by
  have key : ∀ {g : Int → Int → Int}, PIp X op (ipI g) → (∀ p q, (match op, Vv.int p, Vv.int q with | .Add, .int a, .int b => some (a + b) | .Sub, .int a, .int b => some (a - b) | _, _, _ => none) = some (g p q)) → PS X (.AugAssign (.Name x p') op ea pos) (tS w ax W o (.aug i op a)) := fun {g} hp hg => by
    refine PS.to (ps_aug hN hi hx ha hp hf) fun D σ H ⟨m, s, h, r, hs, sm, e, p⟩ => ?_
    simp only [evS] at e
    split at e
    · rename_i u q
      obtain ⟨u', h1, h2⟩ := hs.get q
      refine ⟨u', h1, sE_of hs sm e p fun y h1 m1 H1 y' e1 l1 s1 ry hs1 p1 => ?_⟩
      have h2' := h2.mono l1
      split at e1
      · rename_i j k _
        cases e1
        cases h2'
        cases ry
        refine ⟨j, k, rfl, rfl, ?_⟩
        have e5 := Option.some.inj (hg j k)
        rw [← e5]
        exact p1 m1 H1 _ (Le.refl _) s1 (hs1.set i rfl)
      · rename_i j k _
        cases e1
        cases h2'
        cases ry
        refine ⟨j, k, rfl, rfl, ?_⟩
        have e5 := Option.some.inj (hg j k)
        rw [← e5]
        exact p1 m1 H1 _ (Le.refl _) s1 (hs1.set i rfl)
      · cases e1
    · cases e
  rcases hop with rfl | rfl
  · exact key ip_add fun _ _ => rfl
  · exact key ip_sub fun _ _ => rfl
theorem st_augf {p' : Pos} (C : w.ClsAll) (hK : X.K = w.K) (ho : PE X eb (tE w ax W o b)) (ha : PE X ea (tE w ax W o a)) : PS X (.AugAssign (.Attribute eb f p') .Add ea pos) (tS w ax W o (.augf b f .Add a)) := by
  refine PS.to (ps_fldaug ho ha in_add) fun D σ H ⟨m, s, h, r, hs, sm, e, p⟩ => ?_
  refine sE_of hs sm e p fun x h1 m1 H1 x' e1 l1 s1 rx hs1 p1 => ?_
  split at e1
  · rename_i i
    split at e1
    · rename_i cn fs q
      split at e1
      · rename_i hb
        split at e1
        · rename_i v q2
          obtain ⟨pp, rfl, hm, dx, gs, k1, k2⟩ := s1.ref rx q
          obtain ⟨kc, c1, c2, c3⟩ := fld_some hb
          have CC := C cn kc c1
          obtain ⟨y, k3, k4⟩ := RF.lookup k2 q2
          refine ⟨pp, _, dx, gs, y, rfl, k1, by rw [hK]; exact CC.cl c2, by rw [hK]; exact CC.fl f c3, k3, ?_⟩
          refine sE_of hs1 s1 e1 p1 fun z h2 m2 H2 z' e2 l2 s2 rz hs2 p2 => ?_
          split at e2
          · rename_i j k c2' fs2 _ q3
            split at e2
            · rename_i hb2
              cases e2
              obtain ⟨hb3, rfl⟩ := hb2
              cases k4.mono l2
              cases rz
              obtain ⟨pp2, e5, hm2, dx2, gs2, k5, k6⟩ := s2.ref (rx.mono l2) q3
              cases e5
              refine ⟨j, k, rfl, rfl, dx2, gs2, k5, by rw [← k6.length]; omega, ?_⟩
              exact p2 m2 _ σ (Le.refl _) (s2.set (o' := .ins c2' (Dv.putF f (.int (j + k)) fs2)) q3 rfl rfl hm2 ⟨dx2, _, upd_same, RF.put (show R w.D m2 (.int (j + k)) (.int (j + k)) from rfl) k6⟩) hs2
            · cases e2
          · cases e2
        · cases e1
      · cases e1
    · cases e1
  · cases e1
theorem st_whl {t : Tt} {body : List Stmt} {b : St} (hp : PassesOwn (model X.prog X.w) X.A X.env X.xe) (hc : PT X ec (tT w ax W o t)) (hb : PSs X body (tS w ax W o b)) : PS X (.While ec body [] pos) (tS w ax W o (.whl t b)) := by
  refine PS.to (ps_while hp hc hb) fun D σ H ⟨m, s, h, r, hs, sm, e, p⟩ => ?_
  refine ⟨fun k σ H => ∃ m s h, SlR w.D m s σ ∧ SimW w ax m h H ∧ whlF (evT w.G o t) (evS w.G o b) k s h = some r ∧ PSr w ax W m D r, ⟨turns, m, s, h, hs, sm, e, p⟩, ?_⟩
  rintro k σ1 H1 ⟨m1, s1, h1, hs1, sm1, e1, p1⟩
  cases k with
  | zero => cases e1
  | succ k =>
    unfold whlF at e1
    refine sT_of hs1 sm1 e1 p1 fun v h2 m2 H2 e2 l2 sm2 hs2 p2 => ?_
    cases v with
    | true =>
      rw [if_pos rfl]
      refine ⟨fun σ H => ∃ m s h, SlR w.D m s σ ∧ SimW w ax m h H ∧ whlF (evT w.G o t) (evS w.G o b) k s h = some r ∧ PSr w ax W m D r, fun σ' H' q => ⟨k, Nat.lt_succ_self k, q⟩, ?_⟩
      dsimp only at e2
      cases q : evS w.G o b s1 h2 with
      | none => rw [q] at e2; cases e2
      | some r0 =>
        rw [q] at e2
        refine ⟨m2, s1, h2, r0, hs2, sm2, q, ?_⟩
        cases r0 with
        | nx s3 h3 => exact fun m' H' σ' l sm' hs' => ⟨m', s3, h3, hs', sm', e2, p2.mono l⟩
        | ct s3 h3 => exact fun m' H' σ' l sm' hs' => ⟨m', s3, h3, hs', sm', e2, p2.mono l⟩
        | bk s3 h3 => cases e2; exact p2
        | rt v h3 => cases e2; exact p2
        | ex x s3 h3 => cases e2; exact p2
    | false =>
      rw [if_neg Bool.false_ne_true]
      cases e2
      exact p2 m2 H2 σ1 (Le.refl _) sm2 hs2
theorem st_for {it : It} {iter : Expr} {body : List Stmt} {b : St} {tgl : List Nat} (hp : PassesOwn (model X.prog X.w) X.A X.env X.xe) (hc : X.calm = true) (hn : noSetI iter = true) (hi : PI X tg iter (tI w ax W o tgl.length it)) (hg : PG X tg (gTg w.K tgl)) (hb : PSs X body (tS w ax W o b)) : PS X (.For tg iter body [] pos) (tS w ax W o (.for_ tgl it b)) := by
  refine PS.to (ps_for hp hc hi hg hb (fold_ok hn)) fun D σ H ⟨m, s, h, r, hs, sm, e, p⟩ => ?_
  refine sI_of hs sm e p fun S h1 m1 H1 J e1 l1 s1 jo hs1 p1 => ?_
  refine ⟨fun i k σ H => k = S.items.length - i ∧ i ≤ S.items.length ∧ ∃ m s h, Le m1 m ∧ SlR w.D m s σ ∧ SimW w ax m h H ∧ forF (evS w.G o b) tgl (keeps w.G S) (S.items.drop i) s h = some r ∧ PSr w ax W m D r, ⟨_, rfl, Nat.zero_le _, m1, s, h1, Le.refl _, hs1, s1, e1, p1⟩, ?_⟩
  rintro i k σ2 H2 ⟨rfl, hile, m2, sl2, h2, l2, hs2, s2, e2, p2⟩
  by_cases hlt : i < S.items.length
  · rw [List.drop_eq_getElem_cons hlt] at e2
    generalize hit : S.items[i] = itm at e2
    have hit : S.items[i]? = some itm := by rw [List.getElem?_eq_getElem hlt, hit]
    unfold forF at e2
    split at e2
    · rename_i kp
      split at e2
      · rename_i sl1 q1
        refine .inr ⟨jo.go i m2 h2 H2 l2 s2 kp hlt, fun σ H3 => ∃ m s h, Le m1 m ∧ SlR w.D m s σ ∧ SimW w ax m h H3 ∧ forF (evS w.G o b) tgl (keeps w.G S) (S.items.drop (i + 1)) s h = some r ∧ PSr w ax W m D r,
          fun σ' H3 q3 => ⟨S.items.length - (i + 1), by omega, rfl, hlt, q3⟩, fun x H3 y => ?_⟩
        obtain ⟨s3, ir⟩ := jo.yld i m2 h2 H2 x H3 itm l2 s2 kp hit y
        refine tg_ok (vs := tgl) hs2 q1 ir (fun _ z => z) fun σ3 hs3 _ => ?_
        cases q : evS w.G o b sl1 h2 with
        | none => rw [q] at e2; cases e2
        | some r0 =>
          rw [q] at e2
          refine ⟨m2, sl1, h2, r0, hs3, s3, q, ?_⟩
          cases r0 with
          | nx s4 h4 => exact fun m' H' σ' l sm' hs' => ⟨m', s4, h4, l2.trans l, hs', sm', e2, p2.mono l⟩
          | ct s4 h4 => exact fun m' H' σ' l sm' hs' => ⟨m', s4, h4, l2.trans l, hs', sm', e2, p2.mono l⟩
          | bk s4 h4 => cases e2; exact p2
          | rt v h4 => cases e2; exact p2
          | ex x s4 h4 => cases e2; exact p2
      · cases e2
    · cases e2
  · have he : i = S.items.length := by omega
    subst he
    rw [List.drop_length] at e2
    unfold forF at e2
    split at e2
    · rename_i kp
      cases e2
      exact .inl ⟨jo.stop _ m2 h2 H2 l2 s2 kp (Nat.le_refl _), p2 m2 H2 σ2 (Le.refl _) s2 hs2⟩
    · cases e2
end
end Dv

set_option linter.all false
set_option autoImplicit false
set_option maxRecDepth 100000
set_option maxHeartbeats 2000000
namespace Dv
open PySem PySem.W PySem.Calls PyProof.Rows PySem.HandSPX L2
def ownArgs (f : Option Str) (p : Nat → Pos) : Arguments := { posonlyargs := [], args := { arg := "self", annotation := none, pos := p 10 } :: (match f with | none => [] | some x => [{ arg := x, annotation := none, pos := p 11 }]), vararg := none, kwonlyargs := [], kw_defaults := [], kwarg := none, defaults := [] }
def supLine (txt : Str) (k : Nat) (p : Nat → Pos) : Stmt := .Expr (.Call (.Attribute (.Call (.Name "super" (p 0)) [] [] (p 1)) "__init__" (p 2)) [.Constant (.str txt) k (p 3)] [] (p 4)) (p 5)
def ownBody (txt : Str) (k : Nat) (f : Option Str) (p : Nat → Pos) : List Stmt := supLine txt k p :: (match f with | none => [] | some x => [.Assign [.Attribute (.Name "self" (p 6)) x (p 7)] (.Name x (p 8)) (p 9)])
def ownScope (f : Option Str) : Scope := { kind := .function, names := (PySem.Str.ofString "self", .local) :: (match f with | none => [] | some x => [(x, .local)]) ++ [(PySem.Str.ofString "__class__", .free), (PySem.Str.ofString "super", .globalImplicit)], isGenerator := false, isCoroutine := false, more := [] }
/-- what the written part says of such a class, at C, and of its __init__, at fI; ctor: the class's field, if there is one -/
structure OwnTx (prog : Program) (K : Frag) (C fI : Addr) (f : Option Str) : Prop where
  cls : ∃ nm q N bs bm sn sub ab col dd k0 k1 k2 k3 k5, K.lookup C = some (excClassObj nm q C N bs bm true sn sub ab col dd k0 k1 k2 k3 k5 "ValueError.__new__") ∧ refsVE bm = true
  sa : findIn K (.ref C) "__setattr__" = some (some (.builtin "object.__setattr__"))
  iC : findIn K (.ref C) "__init__" = some (some (.ref fI))
  tC : typeIn K (.ref fI) = some (.type "function")
  kC : keepIn K (.ref C) = true
  exC : subIn K (.ref C) (.type "BaseException") = some true
  tyC : typeIn K (.ref C) = some (.type "type")
  hdC : hasDictIn K C = true
  sup : ks_superIn K C C "__init__" = some (some (.builtin "ValueError.__init__"))
  isB : subIn K (.ref C) (.type "ValueError") = some true
  slf : mroIn K C (.ref C) = some true
  opq : nsIn K cStatics "thirdparty.any" = some none
  top : (prog.main.scope.names.lookup ("super" : Str)).isSome = false
  noF : ∀ x, f = some x → findIn K (.ref C) x = some none ∧ (x == ("__debug__" : Str)) = false ∧ (ownScope f).names.lookup x = some .local ∧ x ≠ ("self" : Str)
  sc : (ownScope f).names.lookup ("super" : Str) = some .globalImplicit ∧ (ownScope f).names.lookup ("__class__" : Str) = some .free ∧ (ownScope f).names.lookup ("self" : Str) = some .local ∧ (∀ x ∈ (ownScope f).names, x.2 ≠ .cell)
  fn : ∃ (oc : Value) (od : Option Addr) (qual : Str) (doc pm : Value) (an : Option Addr) (cda : Addr) (ct : Value) (cc : Addr) (osl : Array (Option Value)) (txt : Str) (k : Nat) (p : Nat → Pos)
    (ccl cl : Value) (cdd cld : Option Addr) (ccs csl : Array (Option Value)) (vs : Array Value) (file : Str) (tf : Tok),
    K.lookup fI = some ⟨oc, od, .func (ksFn "__init__" qual (ownArgs f p) (ownBody txt k f p) (ownScope f) .none .none doc pm an (.ref cda) ct cc), osl⟩ ∧ codeIn K (.ref cda) qual = true ∧ (∀ fld, f = some fld → ∀ u v : Value, bindArgs (ksFn "__init__" qual (ownArgs f p) (ownBody txt k f p) (ownScope f) .none .none doc pm an (.ref cda) ct cc) ⟨[u, v], []⟩ = pure [(("self" : Str), u), (fld, v)]) ∧
    ((p 2).endLine == (p 4).line) = true ∧ K.lookup cda = some ⟨ccl, cdd, .fields vs, ccs⟩ ∧ vs[2]? = some (.str file tf) ∧ ((prog.main.file : Str) == file) = true ∧ K.lookup cc = some ⟨cl, cld, .cell (some (.ref C)), csl⟩
theorem bind_cong {α β : Type} {x : Sem α} {f g : α → Sem β} (h : ∀ a, f a = g a) : (x >>= f) = (x >>= g) := congrArg _ (funext h)
section
variable {prog : Program} {w : World} {A : Around} {E : Value → Shared → Prop} {R : Result → Shared → Prop} {s : Shared} {K : Frag} {mg mb : Str → Option Value} {C fI : Addr} {f : Option Str}
/-- the bound __init__ of the base called -/
theorem mw_call {t u x : Addr} {rest : List Value} {Q : Value → Shared → Prop} {h : Heap} {g : Array GenState} {d : Drawn} {tk : Nat} {os : OsState} {nm q : Str} {N : Addr} {bs bm : List Value} {hdct : Bool} {sn : List Str} {sub : List Value} {ab : Bool} {col : Option Bool} {dd : Option Addr} {k0 k1 k2 k3 k5 : Option Value}
    (hC : h.get? C = some (excClassObj nm q C N bs bm hdct sn sub ab col dd k0 k1 k2 k3 k5 "ValueError.__new__")) (hu : h.get? u = some (kxs_mw "ValueError.__init__" x)) (he : h.get? x = some (excO C t)) (hz : rest.length ≤ sizeLine)
    (hq : ∀ h' t', (∀ b o, b ≠ x → h.get? b = some o → h'.get? b = some o) → h'.get? x = some (excO C t') → Q .none ⟨h', g, d, tk, os⟩) : wpAny (model prog w) A (call (.ref u) rest) Q E ⟨h, g, d, tk, os⟩ := by
  have FB := PySem.F.excBase_ValueError
  refine wpAny_call (codeAny_of_tree ?_)
  show wpAny _ A.in1 (callAny (.ref u) ⟨rest, []⟩) _ _ _
  simp only [callAny]
  refine wpAny_bind (wpAny_load hu ?_)
  simp only [kxs_mw, show (Value.type "method-wrapper" == Value.type "method" || Value.type "method-wrapper" == Value.type "builtin_function_or_method" || Value.type "method-wrapper" == Value.type "method-wrapper") = true by decide, if_true]
  refine KFB.if_so (by decide) ?_
  refine wpAny_bind (check_bound_init FB.toExcCallFacts hC he rfl ?_)
  refine wpAny_bind (wpAny_pure (wpAny_pure ?_))
  refine ⟨plainId_quiet FB.init.plain _, codeAny_builtin FB.initEntry ?_⟩
  exact exc_init_tree (cls := .ref C) (t0 := t) (dv := none) (c2 := .none) (c3 := .none) (b4 := .bool false) he hz fun h' k1 k2 _ => hq h' _ k1 k2
theorem sup_line (T : OwnTx prog K C fI f) {qual : Str} {cda cc x t0 L : Addr} {txt : Str} {k : Nat} {p : Nat → Pos} {oc ccl cl : Value} {od cdd cld : Option Addr} {osl ccs csl : Array (Option Value)} {fd : FuncData} {vs : Array Value} {file : Str} {tf : Tok} {body : List Stmt} {m : Str → Option Value} {Q : Flow → Shared → Prop}
    (hl : ((p 2).endLine == (p 4).line) = true) (hf : K.lookup fI = some ⟨oc, od, .func fd, osl⟩) (hp : (fd.params.posonlyargs ++ fd.params.args).head?.map (·.arg) = some ("self" : Str)) (hcode : K.lookup cda = some ⟨ccl, cdd, .fields vs, ccs⟩) (hvs : vs[2]? = some (.str file tf)) (hfile : ((prog.main.file : Str) == file) = true) (hcell : K.lookup cc = some ⟨cl, cld, .cell (some (.ref C)), csl⟩)
    (X : K.In s.heap) (hn : s.heap.Ns L m) (hm : m "self" = some (.ref x)) (hx : s.heap.get? x = some (excO C t0)) (hG : s.heap.Ns mainGlobals mg) (hG2 : mg "super" = none) (hB : s.heap.Ns builtinsNs mb) (hB2 : mb "super" = some (.type "super"))
    (hq : ∀ h' tk t', (∀ b o, b ≠ x → s.heap.get? b = some o → h'.get? b = some o) → h'.get? x = some (excO C t') → Q .next { s with heap := h', toks := tk }) :
    _root_.PySem.wpAt (model prog w) A (.func body (ksEnv qual (ownScope f) L fI (.ref cda) cc)) (exec (supLine txt k p) (ksEnv qual (ownScope f) L fI (.ref cda) cc)) Q E s := by
  obtain ⟨nm, q, N, bs, bm, sn, sub, ab, col, dd, k0, k1, k2, k3, k5, hC, hbm⟩ := T.cls
  obtain ⟨hks, hkc, hka, _⟩ := T.sc
  have hcd : clsIn K C = some { name := nm, bases := bs, mro := .ref C :: bm, ns := N, qualname := q, hasDict := true, slotNames := sn, subclasses := sub, abstract := ab, collection := col, hasDel := false } := by unfold clsIn; rw [hC] <;> rfl
  obtain ⟨ar, ha1, ha2⟩ := Option.map_eq_some_iff.mp hp
  have ha2 : ar.arg = ("self" : Str) := ha2
  obtain ⟨hh, g, d, t, os⟩ := s
  have I : InstAt hh x (excO C t0) C none := ⟨hx, rfl, rfl, trivial⟩
  have hkf : (ownScope f).kind = .function := rfl
  refine ks_wpAt_Expr_any ?_
  refine ks_wpAt_MethodCall (pl := plainOf (.Call (.Name "super" (p 0)) [] [] (p 1)) (ksEnv qual (ownScope f) L fI (.ref cda) cc)) ?_ (by
    rw [show eval (.Call (.Attribute (.Call (.Name "super" (p 0)) [] [] (p 1)) "__init__" (p 2)) [.Constant (.str txt) k (p 3)] [] (p 4)) (ksEnv qual (ownScope f) L fI (.ref cda) cc) = (do
      let ov ← attributeBase (.Call (.Name "super" (p 0)) [] [] (p 1)) "__init__" (ksEnv qual (ownScope f) L fI (.ref cda) cc) (eval (.Call (.Name "super" (p 0)) [] [] (p 1)) (ksEnv qual (ownScope f) L fI (.ref cda) cc))
      standAt (p 2).atName
      methodCall (.Call (.Name "super" (p 0)) [] [] (p 1)) "__init__" (p 2) (p 4) (ksEnv qual (ownScope f) L fI (.ref cda) cc) ov ([Expr.Constant (.str txt) k (p 3)].length + ([] : List Keyword).length) (backTo (p 4) (starEach [Expr.Constant (.str txt) k (p 3)] (ksEnv qual (ownScope f) L fI (.ref cda) cc))) (backToKw (p 4) (keywordEach [] (ksEnv qual (ownScope f) L fI (.ref cda) cc)))) from rfl]
    exact bind_cong fun ov => bind_cong fun _ => mcall_line rfl hl)
  refine ks_wpAt_super_base (env := ksEnv qual (ownScope f) L fI (.ref cda) cc) hks hkc (by decide) rfl (X _ _ hf) rfl ha1 rfl (X _ _ hcode) rfl hvs hfile T.top ?_
  refine ks_loadName_global hkf hks (loadGlobal_builtin (env := ksEnv qual (ownScope f) L fI (.ref cda) cc) hG hG2 hB hB2 ⟨rfl, ?_⟩)
  refine wpAny_loadName_free hkf hkc rfl ⟨_, X _ _ hcell, rfl⟩ ?_
  rw [ha2]
  refine wpAny_loadName_local hkf hka hn hm ?_
  refine ks_wpAny_isType_cls (X _ _ hC) rfl ⟨rfl, ?_⟩
  refine ks_wpAny_call_super (X _ _ hC) rfl I.at_ I.cls (fun c e => by cases e) (looks_mroIn X T.slf) (fun h2 e2 k2' => ?_)
  have X2 : K.In h2 := X.keeps k2'
  have hI : Looks (model prog w) h2 (isInstance (.ref x) (.type "ValueError")) true := (show InstAt h2 x (excO C t0) C none from ⟨k2' _ _ hx, rfl, rfl, trivial⟩).type.andThen (looks_subIn X2 T.isB)
  have hm' := T.sup
  unfold ks_superIn at hm'
  rw [hcd] at hm'
  refine kxs_getMethod kxs_ValueError e2 (looks_opaque X2 T.opq) (l₀ := .ref C :: bm) ?_ rfl X2 hm' hI (ks_ne X I hcd) (by decide) ?_
  · exact fun A Q E s k q => wpAny_bind ((looks_clsIn X2 hcd) A _ E s k (wpAny_pure q))
  have k3' : ∀ b o, h2.get? b = some o → (h2.push (kxs_mw "ValueError.__init__" x)).get? b = some o := fun b o e => Heap.get?_push_of_some _ e
  have hu : (h2.push (kxs_mw "ValueError.__init__" x)).get? h2.objs.size = some (kxs_mw "ValueError.__init__" x) := Heap.get?_push_at rfl rfl
  refine kxs_callWith (i := "ValueError.__init__") (x := x) rfl (evalArgs_plain ?_)
  show wpAny _ _ (spliced [(false, eval (.Constant (.str txt) k (p 3)) (ksEnv qual (ownScope f) L fI (.ref cda) cc))]) _ _ _
  refine spliced_cons (Calls.Constant_str (spliced_nil ⟨hu, ?_⟩))
  refine mw_call (t := t0) (X.keeps (fun b o e => k3' b o (k2' b o e)) _ _ hC) hu (k3' _ _ (k2' _ _ hx)) (by show 1 ≤ sizeLine; rw [sizeLine_eq]; decide) fun h4 t4 k4 hx4 => ?_
  exact hq h4 _ t4 (fun b o hb e => k4 b o hb (k3' b o (k2' b o e))) hx4
/-- what __init__ leaves of a fresh error at x: its args laid anew, its dict, if it has a field -/
structure IniEnd (h h' : Heap) (x C dx t1 : Addr) (fld : Str) (v : Value) : Prop where
  keep : ∀ b o, b ≠ x → h.get? b = some o → h'.get? b = some o
  obj : h'.get? x = some { cls := .ref C, dict := some dx, data := .fields #[.ref t1, .none, .none, .none, .bool false, .none] }
  dbig : h.objs.size ≤ dx
  dne : dx ≠ x
  ns : h'.Ns1 dx (fun y => if y = fld then some v else none)
theorem kept_x {h h' : Heap} {x : Addr} (X : K.In h) (hx : K.lookup x = none) (k : ∀ b o, b ≠ x → h.get? b = some o → h'.get? b = some o) : K.In h' := fun a o e =>
  k a o (fun z => by rw [z, hx] at e; cases e) (X a o e)
theorem own_init1 {fld : Str} (T : OwnTx prog K C fI (some fld)) {x t0 : Addr} {v : Value} (X : K.In s.heap) (hlim : s.heap.NoLimit) (hx : s.heap.get? x = some (excO C t0)) (hnx : K.lookup x = none) (hroom : A.depth < recursionLimit)
    (hG : s.heap.Ns mainGlobals mg) (hG2 : mg "super" = none) (hB : s.heap.Ns builtinsNs mb) (hB2 : mb "super" = some (.type "super"))
    (hq : ∀ h' tk dx t1, IniEnd s.heap h' x C dx t1 fld v → R (.ok (.ret .none)) { s with heap := h', toks := tk }) :
    codeAny (model prog w) A (.call (.ref fI) ⟨[.ref x, v], []⟩) R s := by
  obtain ⟨oc, od, qual, doc, pm, an, cda, ct, cc, osl, txt, k, p, ccl, cl, cdd, cld, ccs, csl, vs, file, tf, ho, hcd, hbi, hl, hcode, hvs, hfile, hcell⟩ := T.fn
  obtain ⟨nm, q, N, bs, bm, sn, sub, ab, col, dd, k0, k1, k2, k3, k5, hC, hbm⟩ := T.cls
  have hcl : clsIn K C = some { name := nm, bases := bs, mro := .ref C :: bm, ns := N, qualname := q, hasDict := true, slotNames := sn, subclasses := sub, abstract := ab, collection := col, hasDel := false } := by unfold clsIn; rw [hC] <;> rfl
  obtain ⟨hno, hdb, hloc, hne⟩ := T.noF fld rfl
  obtain ⟨_, _, hself, hnc⟩ := T.sc
  refine ks_codeAny_call_defAt (fd := ksFn "__init__" qual (ownArgs (some fld) p) (ownBody txt k (some fld) p) (ownScope (some fld)) .none .none doc pm an (.ref cda) ct cc) (body := ownBody txt k (some fld) p) (binds := [("self", .ref x), (fld, v)]) hroom (X _ _ ho) rfl hlim (codeRec_of X hcd) rfl
    (BindsTo.of_eq (hbi fld rfl _ _)) hnc (fun y hy => ?_) (fun h₁ hn k₁ => ?_) rfl rfl rfl
  · rcases List.mem_cons.mp hy with rfl | hy
    · exact hself
    · rcases List.mem_cons.mp hy with rfl | hy
      · exact hloc
      · cases hy
  have hxL : s.heap.objs.size ≠ x := Nat.ne_of_gt (Heap.lt_size hx)
  have hx₁ := k₁ _ _ hx
  have hs : (fun y => ([("self", Value.ref x), (fld, v)] : List (Str × Value)).reverse.lookup y) "self" = some (.ref x) := by
    show List.lookup ("self" : Str) [(fld, v), ("self", .ref x)] = _
    rw [List.lookup_cons]
    have : (("self" : Str) == fld) = false := by simpa using Ne.symm hne
    rw [this]
    rfl
  have hv : (fun y => ([("self", Value.ref x), (fld, v)] : List (Str × Value)).reverse.lookup y) fld = some v := by
    show List.lookup fld [(fld, v), ("self", .ref x)] = _
    rw [List.lookup_cons]
    have : (fld == fld) = true := by simp
    rw [this]
  refine ks_wpAt_execs_cons (sup_line T (s := { s with heap := h₁, toks := _ }) hl ho rfl hcode hvs hfile hcell (X.keeps k₁) hn hs hx₁ (hG.keeps k₁) hG2 (hB.keeps k₁) hB2 fun h₂ tk₂ t₁ k₂ hx₂ => ?_)
  have hn₂ : h₂.Ns s.heap.objs.size (fun y => ([("self", Value.ref x), (fld, v)] : List (Str × Value)).reverse.lookup y) := by
    obtain ⟨oL, es, ep, hL, r⟩ := hn
    exact ⟨oL, es, ep, k₂ _ _ hxL hL, r⟩
  have X₂ : K.In h₂ := kept_x (X.keeps k₁) hnx k₂
  refine wpAt_of_wpAny ?_
  show wpAny _ _ (execs [.Assign [.Attribute (.Name "self" (p 6)) fld (p 7)] (.Name fld (p 8)) (p 9)] (ksEnv qual (ownScope (some fld)) s.heap.objs.size fI (.ref cda) cc)) _ _ _
  refine wpAny_execs_cons (plainObj_wpAny_Assign_Attribute ?_)
  refine wpAny_Name (wpAny_loadName_local (show (ownScope (some fld)).kind = .function from rfl) hloc hn₂ hv (wpAny_Name (wpAny_loadName_local (show (ownScope (some fld)).kind = .function from rfl) hself hn₂ hs ?_) (by decide))) hdb
  refine set_plain X₂ (ox := excO C t₁) (od := none) ⟨hx₂, rfl, rfl, trivial⟩ T.sa ?_
  refine exc_osa X₂ hx₂ hcl (show refsVE (.ref C :: bm) = true from hbm) rfl hno (fun h₃ tk₃ dx k₃ dn dne hx₃ hn₃ => ?_)
  show wpAny _ _ (execs _ _) _ _ _
  have z : s.heap.objs.size < h₂.objs.size := hn₂.lt
  exact wpAny_execs_nil (hq h₃ tk₃ dx t₁ ⟨fun b o hb e => k₃ b o hb (k₂ b o hb (k₁ b o e)), hx₃, Nat.le_of_lt (Nat.lt_of_lt_of_le z dn), dne, hn₃⟩)
theorem own_init0 (T : OwnTx prog K C fI none) {x t0 : Addr} (X : K.In s.heap) (hlim : s.heap.NoLimit) (hx : s.heap.get? x = some (excO C t0)) (hroom : A.depth < recursionLimit)
    (hG : s.heap.Ns mainGlobals mg) (hG2 : mg "super" = none) (hB : s.heap.Ns builtinsNs mb) (hB2 : mb "super" = some (.type "super"))
    (hq : ∀ h' tk t1, (∀ b o, b ≠ x → s.heap.get? b = some o → h'.get? b = some o) → h'.get? x = some (excO C t1) → R (.ok (.ret .none)) { s with heap := h', toks := tk }) :
    codeAny (model prog w) A (.call (.ref fI) ⟨[.ref x], []⟩) R s := by
  obtain ⟨oc, od, qual, doc, pm, an, cda, ct, cc, osl, txt, k, p, ccl, cl, cdd, cld, ccs, csl, vs, file, tf, ho, hcd, hbi, hl, hcode, hvs, hfile, hcell⟩ := T.fn
  obtain ⟨_, _, hself, hnc⟩ := T.sc
  refine ks_codeAny_call_defAt (fd := ksFn "__init__" qual (ownArgs none p) (ownBody txt k none p) (ownScope none) .none .none doc pm an (.ref cda) ct cc) (body := ownBody txt k none p) (binds := [("self", .ref x)]) hroom (X _ _ ho) rfl hlim (codeRec_of X hcd) rfl
    (BindsTo.of_eq (by first | rfl | with_unfolding_all rfl)) hnc (fun y hy => ?_) (fun h₁ hn k₁ => ?_) rfl rfl rfl
  · rcases List.mem_cons.mp hy with rfl | hy
    · exact hself
    · cases hy
  refine ks_wpAt_execs_cons (sup_line T (s := { s with heap := h₁, toks := _ }) hl ho rfl hcode hvs hfile hcell (X.keeps k₁) hn rfl (k₁ _ _ hx) (hG.keeps k₁) hG2 (hB.keeps k₁) hB2 fun h₂ tk₂ t₁ k₂ hx₂ => ?_)
  refine wpAt_of_wpAny ?_
  show wpAny _ _ (execs [] _) _ _ _
  exact wpAny_execs_nil (hq h₂ tk₂ t₁ (fun b o hb e => k₂ b o hb (k₁ b o e)) hx₂)
end
end Dv

set_option linter.all false
set_option autoImplicit false
set_option maxRecDepth 100000
set_option maxHeartbeats 2000000
namespace Dv
open PySem PySem.W PySem.Calls PyProof.Rows PySem.HandSPX L2
/-- an own error just made -/
structure ErrMade (h h' : Heap) (e C d : Addr) (fld : Str) (v : Value) : Prop where
  keep : ∀ b o, h.get? b = some o → h'.get? b = some o
  new : h.objs.size ≤ e
  obj : ∃ oe vs, h'.get? e = some oe ∧ oe.cls = .ref C ∧ oe.dict = some d ∧ oe.data = .fields vs ∧ vs[1]? = some .none
  dbig : h.objs.size ≤ d
  dne : d ≠ e
  ns : h'.Ns1 d (fun y => if y = fld then some v else none)
section
variable {prog : Program} {w : World} {A : Around} {E : Value → Shared → Prop} {R : Result → Shared → Prop} {s : Shared} {K : Frag} {mg mb : Str → Option Value} {C fI : Addr} {fld : Str}
theorem own_made1 (T : OwnTx prog K C fI (some fld)) {v : Value} (X : K.In s.heap) (hlim : s.heap.NoLimit) (hroom : A.depth + 1 < recursionLimit)
    (hG : s.heap.Ns mainGlobals mg) (hG2 : mg "super" = none) (hB : s.heap.Ns builtinsNs mb) (hB2 : mb "super" = some (.type "super"))
    (hq : ∀ h' tk e d, ErrMade s.heap h' e C d fld v → R (.ok (.ret (.ref e))) { s with heap := h', toks := tk }) :
    codeAny (model prog w) A (.call (.ref C) ⟨[v], []⟩) R s := by
  obtain ⟨nm, q, N, bs, bm, sn, sub, ab, col, dd, k0, k1, k2, k3, k5, hC, hbm⟩ := T.cls
  obtain ⟨hp, g, dr, tk, os⟩ := s
  have k : ∀ b o, hp.get? b = some o → ((hp.push (kdv_tup [v])).push (excO C hp.objs.size)).get? b = some o := fun b o e => Heap.get?_push_of_some _ (Heap.get?_push_of_some _ e)
  have hget : ((hp.push (kdv_tup [v])).push (excO C hp.objs.size)).get? (hp.objs.size + 1) = some (excO C hp.objs.size) := by heap_get
  have hnx : K.lookup (hp.objs.size + 1) = none := by
    cases e : K.lookup (hp.objs.size + 1) with
    | none => rfl
    | some o => exact absurd (Nat.lt_of_succ_lt (Heap.lt_size (X _ _ e))) (Nat.lt_irrefl _)
  have hz : [v].length ≤ sizeLine := by show 1 ≤ sizeLine; rw [sizeLine_eq]; decide
  refine call_own PySem.F.excBase_ValueError (fun Y => refsVE_contains Y bm hbm) (X _ _ hC) (looks_findIn X T.iC) (fun self => bind_fn X self T.tC) hz ?_
  refine own_init1 (mg := mg) (mb := mb) (s := ⟨(hp.push (kdv_tup [v])).push (excO C hp.objs.size), g, dr, tk, os⟩) T (X.keeps k) (hlim.keeps k) hget hnx ?_ (hG.keeps k) hG2 (hB.keeps k) hB2 fun h' tk' dx t1 M => ?_
  · show A.depth + 1 < recursionLimit
    exact hroom
  · have old : ∀ b o, hp.get? b = some o → h'.get? b = some o := fun b o e => M.keep b o (Nat.ne_of_lt (Nat.lt_succ_of_lt (Heap.lt_size e))) (k b o e)
    have z : hp.objs.size + 1 + 1 ≤ dx := by
      have q := M.dbig
      first
        | exact q
        | (simpa only [Heap.size_push] using q)
    exact ⟨rfl, hq h' tk' (hp.objs.size + 1) dx ⟨old, Nat.le_succ _, ⟨_, _, M.obj, rfl, rfl, rfl, rfl⟩, Nat.le_trans (Nat.le_trans (Nat.le_succ _) (Nat.le_succ _)) z, M.dne, M.ns⟩⟩
end
theorem relO_fld {x : V} {v' : Value} (r : RelV x v') (fld f : Str) : RelO (List.lookup f [(fld, x)]) (if f = fld then some v' else none) := by
  rw [List.lookup_cons]
  by_cases hw : f = fld
  · subst hw
    rw [if_pos rfl]
    have : (f == f) = true := by simp
    rw [this]
    exact r
  · rw [if_neg hw]
    have : (f == fld) = false := by simpa using hw
    rw [this]
    trivial
/-- C(e) -/
def tMkOwn (C : Addr) (fld : Str) (ta : TA) : L2.St → Hp → XK → Prop := fun σ H Q => ta σ H fun vs H1 => ∃ v, vs = [v] ∧ ∀ d, H1 d = none → Q (.ref C) (some d) (upd H1 d (.xd [(fld, v)]))
theorem pmk_own {X : Cx} {C fI : Addr} {fld cn : Str} {a : Expr} {ta : TA} {p pos : Pos} (T : OwnTx X.prog X.K C fI (some fld)) (hr : X.A.depth + 1 < recursionLimit) (hS : X.mg "super" = none) (ha : PA X [a] ta) (hg : Gl X cn) (hm : X.mg cn = some (.ref C)) (hdb : (cn == ("__debug__" : Str)) = false) (hn : notStar a = true) :
    PMk X (.Call (.Name cn p) [a] [] pos) (tMkOwn C fld ta) := by
  intro pins s σ H Q I h
  refine wpAny_Call_Name_kw (ld_glob I hg hm ?_ hdb)
  refine PySem.W.callWith_K (h₀ := X.base) I.ok.mod.kin T.kC (thn (ha.run pos pins s σ H _ I h) fun us s1 hh => ?_) (star_cons hn) rfl
  obtain ⟨vs, H1, I1, r1, v, ev, q1⟩ := hh
  subst ev
  refine ⟨I1.kIn, ?_⟩
  cases r1 with
  | cons rv rn =>
    rename_i v' us'
    cases rn
    show wpAny _ _ (call (.ref C) [v']) _ _ _
    have hlim := I1.nolimit
    obtain ⟨mb, hb1, hb2⟩ := I1.ok.mod.blt
    have hG := I1.ok.mod.glob.keeps I1.bk
    have hB := hb1.keeps I1.bk
    have hB2 : mb "super" = some (.type "super") := (hb2 "super" (by decide)).trans (by decide +kernel)
    obtain ⟨hp, g, dr, tk, os⟩ := s1
    refine wpAny_call (own_made1 (mg := X.mg) (mb := mb) T I1.kIn hlim hr hG hS hB hB2 fun h' tk' e d M => ?_)
    show MkP X pins σ Q (.ref e) ⟨h', g, dr, tk', os⟩
    obtain ⟨oe, fv, hoe, hc, hd, hdat, h1⟩ := M.obj
    have hns := M.ns
    obtain ⟨G', g1, g2⟩ := restrict h' fun b => decide (b ≠ e)
    have gk : ∀ b, b ≠ e → G'.get? b = h'.get? b := fun b hb => g1 b (decide_eq_true hb)
    have ge : G'.get? e = none := g2 e (by simp)
    have old : ∀ b o, hp.get? b = some o → G'.get? b = some o := fun b o q => (gk b (Nat.ne_of_lt (Nat.lt_of_lt_of_le (Heap.lt_size q) M.new))).trans (M.keep b o q)
    have ob : ObjOk X.prog X.w (upd H1 d (.xd [(fld, v)])) G' d (.xd [(fld, v)]) :=
      ⟨_, hns.at (fun o q => (gk d M.dne).trans q), fun f => relO_fld rv fld f⟩
    have J : Inv X pins σ (upd H1 d (.xd [(fld, v)])) ⟨G', g, dr, tk', os⟩ := I1.laid (t' := tk') old M.dbig ob
    refine ⟨e, oe, fv, ⟨G', g, dr, tk', os⟩, _, .ref C, some d, rfl, J, fun b o q => ?_, ge, hoe, ⟨hc, hd⟩, hdat, h1, ?_, rfl, I1.bare, raises_own T.exC T.tyC, q1 d (I1.hok.fresh M.dbig)⟩
    · by_cases hb : b = e
      · have q' : G'.get? b = some o := q
        rw [hb, ge] at q'; cases q'
      · exact (gk b hb).symm.trans q
    · rw [upd_ne (Ne.symm M.dne)]
      exact I1.hok.fresh M.new
/-- the errors of the text: each with one field -/
structure ErrOk (w : Wd) (P : Program) (c : Str) (fs : List Str) : Prop where
  own : ∃ fI fld, fs = [fld] ∧ OwnTx P w.K (w.D.ca c) fI (some fld)
def Wd.ErrAll (w : Wd) (P : Program) : Prop := ∀ c k fs, w.G.cls c = some k → k.exc = some fs → ErrOk w P c fs
section
variable {w : Wd} {ax : Ax} {W : WX} {o : Orc} {P : Program} {wl : PySem.World} {base : Heap} {n : Nat} {N : List Str} {sc scope : Scope} {cm : Bool} {X : Cx} {a b c : Ex} {ea eb ec tg : Expr} {pos : Pos}
theorem st_raise {cn : Str} {p pos2 : Pos} (EA : w.ErrAll P) (g : Good w ax P wl base n N sc true X) (tk : Takes X W) (hS : w.mg "super" = none) (hg : Gl X cn) (hm : w.mg cn = some (.ref (w.D.ca cn))) (hdb : (cn == ("__debug__" : Str)) = false) (hn : notStar ea = true) (hx : ((w.G.cls cn).bind (·.exc)).isSome = true) (ha : PE X ea (tE w ax W o a)) :
    PS X (.Raise (some (.Call (.Name cn p) [ea] [] pos)) none pos2) (tS w ax W o (.rais cn (.cons a .nil))) := by
  obtain ⟨fs, hfs⟩ := Option.isSome_iff_exists.mp hx
  obtain ⟨k, hk, hke⟩ := Option.bind_eq_some_iff.mp hfs
  obtain ⟨fI, fld, rfl, T⟩ := (EA cn k fs hk hke).own
  have eax := g.nx rfl
  subst eax
  have hdp := g.hr.dp
  refine PS.to (ps_raise (g.hc rfl) tk (pmk_own (C := w.D.ca cn) (fI := fI) (fld := fld) (by rw [g.hP, g.hK]; exact T) (by omega) (by rw [g.hm]; exact hS) (as_cons hn ha as_nil) hg (by rw [g.hm]; exact hm) hdb hn)) fun D σ H ⟨m, s, h, r, hs, sm, e, p⟩ => ?_
  refine sEs_of hs sm e p fun xs h1 m1 H1 ys e1 l1 s1 rx hs1 p1 => ?_
  rw [hfs] at e1
  have e1 : (if [fld].length = xs.length then some (Sr.ex ⟨cn, [fld].zip xs⟩ s h1) else none) = some r := e1
  split at e1
  · rename_i hl
    match xs, hl with
    | [v], _ =>
      obtain ⟨y, rfl, ry⟩ := rl1 rx
      cases e1
      exact ⟨y, rfl, fun d hd => p1 m1 _ σ d [(fld, y)] (Le.refl _) (s1.fresh hd) hs1 upd_same (.cons ⟨rfl, ry⟩ .nil)⟩
  · cases e1
end
end Dv

set_option linter.all false
set_option autoImplicit false
set_option maxRecDepth 100000
set_option maxHeartbeats 2000000
namespace Dv
open PySem L2 PySem.Spec PyProof.Rows
/-- a clause: the class, the name's slot, what its suite reads -/
structure Clz where
  c : Value
  sl : Option Nat
  ts : Addr → Value → Option Addr → TS
/-- the ends of a suite: the name goes -/
def endsZ (sl : Option Nat) (D : Ends) : Ends := match sl with
  | none => D
  | some i => { nx := fun σ H => D.nx (σ.set i none) H, rt := D.rt, bk := fun σ H => D.bk (σ.set i none) H, ct := fun σ H => D.ct (σ.set i none) H }
def inZ (sl : Option Nat) (a : Addr) (σ : L2.St) : L2.St := match sl with
  | none => σ
  | some i => σ.set i (some (.ref a))
/-- what the clauses wish of an error of the body, one after the other -/
def wMix (K : PySem.W.Frag) (Wo : WX) (D : Ends) : List Clz → WX
  | [] => Wo
  | z :: r => fun cls d σ H => ∃ b, PySem.W.exmOne K cls z.c = some b ∧ (b = true → ∀ a, H a = none → z.ts a cls d (endsZ z.sl D) (inZ z.sl a σ) H) ∧ (b = false → wMix K Wo D r cls d σ H)
def nameZ (X : Cx) : Option Nat → Option Str → Prop
  | none, none => True
  | some i, some n => X.N[i]? = some n ∧ X.env.kindOf n = some .local
  | _, _ => False
inductive MixOk (X : Cx) : List ExceptHandler → List Clz → Prop
  | nil : MixOk X [] []
  | cons {x : Str} {nm : Option Str} {z : Clz} {st : Stmt} {suite : List Stmt} {np p' : Pos} {hs : List ExceptHandler} {l : List Clz} (hc : Names X x z.c) (hn : nameZ X z.sl nm)
      (hsu : ∀ (a : Addr) (oe : Obj) (cls : Value) (d : Option Addr) (pn : List (Addr × Obj)), Zc cls d oe → (∃ vs, oe.data = .fields vs) → PSs (X.suite a ((a, oe) :: pn)) (st :: suite) (z.ts a cls d)) (r : MixOk X hs l) :
      MixOk X (.ExceptHandler (some (.Name x np)) nm (st :: suite) p' :: hs) (z :: l)
section
variable {X : Cx} {body : List Stmt} {h0 : ExceptHandler} {hds : List ExceptHandler} {l : List Clz} {pos : Pos} {tb : WX → TS} {Wo : WX}
theorem ps_mix (hN : X.N.Nodup) (hst : X.stack = X.env :: X.outer) (hfr0 : X.env.frame = some X.env.locals) (tk : Takes X Wo)
    (hb : ∀ (W : WX) (pn : List (Addr × Obj)) (xe : Value → Shared → Prop), Takes (X.tr pn xe) W → PassesOwn (model X.prog X.w) X.A X.env xe → PSs (X.tr pn xe) body (tb W)) (hh : MixOk X (h0 :: hds) l) :
    PS X (.Try body (h0 :: hds) [] [] pos) (fun D σ H => tb (wMix X.K Wo D l) D σ H) := by
  refine ⟨fun pins s σ H D I hw => ?_⟩
  have okX := I.ok
  have frms : X.A.frames = some (X.env :: X.outer) := by rw [okX.frames, hst]
  have goal1 := (hb (wMix X.K Wo D l) (X.pn ++ pins) (fun e s1 => wpAny (model X.prog X.w) X.A (noteFrame e X.env) (fun _ s2 => wpAny (model X.prog X.w) X.A (setFlight e none) (fun _ s3 => wpAny (model X.prog X.w) X.A (handleBy e X.env (h0 :: hds)) (SP X pins D) X.xe s3) X.xe s2) X.xe s1) ?_ PassesOwn.looking).run [] s σ H D (I.toTry _) hw
  · refine wpAny_Try_except (wpAny_mono goal1 (fun fl s1 q => ?_) fun _ _ q => q)
    cases fl with
    | next =>
      obtain ⟨σ1, H1, J, q⟩ := q
      exact wpAny_execs_nil ⟨σ1, H1, J.ofTry okX, q⟩
    | ret u =>
      obtain ⟨v, σ1, H1, J, rv, q⟩ := q
      exact ⟨v, σ1, H1, J.ofTry okX, rv, q⟩
    | brk =>
      obtain ⟨σ1, H1, J, q⟩ := q
      exact ⟨σ1, H1, J.ofTry okX, q⟩
    | cont =>
      obtain ⟨σ1, H1, J, q⟩ := q
      exact ⟨σ1, H1, J.ofTry okX, q⟩
  · -- an error of the body
    intro u s1 xx
    obtain ⟨a, B, sI, pins1, σ1, H1, cls, d, rfl, J1, nb, up, sky, na, os, ag, wish⟩ := xx
    have J : Inv X pins σ1 H1 sI := J1.ofTry okX
    rw [show (X.tr (X.pn ++ pins) (fun e s1 => wpAny (model X.prog X.w) X.A (noteFrame e X.env) (fun _ s2 => wpAny (model X.prog X.w) X.A (setFlight e none) (fun _ s3 => wpAny (model X.prog X.w) X.A (handleBy e X.env (h0 :: hds)) (SP X pins D) X.xe s3) X.xe s2) X.xe s1)).stack = X.env :: X.outer from hst] at sky
    show wpAny (model X.prog X.w) X.A (noteFrame (.ref a) X.env) _ _ _
    refine Sky.land Zc.steady frms hfr0 sky fun h3 fl3 up3 => ?_
    have up13 := up.trans up3
    have J3 : Inv X pins σ1 H1 { s1 with heap := h3 } := J.landed nb fl3.1 up13 os ag
    obtain ⟨oe3, vs3, he3, hz3, hd3⟩ := fl3.there
    have nfr : a ∉ frs (X.env :: X.outer) := fun hm => by
      obtain ⟨_, o', e', hnf⟩ := fl3.2.2.1.mem hm
      rw [he3] at e'; cases e'
      exact hnf _ hd3
    have nL : a ≠ X.env.locals := fun z => nfr (List.mem_filterMap.mpr ⟨X.env, List.mem_cons_self, by rw [hfr0, z]⟩)
    have nF : a ∉ X.fs := fun hm => by
      obtain ⟨e, he, q⟩ := List.mem_filterMap.mp hm
      exact nfr (List.mem_filterMap.mpr ⟨e, List.mem_cons_of_mem _ he, q⟩)
    have S3 := J3.suite he3 hd3 na nL nF
    have onward : ∀ {hs' : List ExceptHandler} {l' : List Clz}, MixOk X hs' l' → wMix X.K Wo D l' cls d σ1 H1 → wpAny (model X.prog X.w) X.A (handleBy (.ref a) X.env hs') (SP X pins D) X.xe { s1 with heap := h3 } := by
      intro hs' l' mk
      induction mk with
      | nil =>
        intro wish
        refine wpAny_handleBy_nil ?_
        obtain ⟨_, _, _, oe, vs, T, oT, ts', he, hz, hd, hT, hr⟩ := id fl3
        unfold PySem.passOn
        refine wpAny_bind (wpAny_field he hd hT ?_)
        rw [if_neg (show ¬ ((Value.ref T == Value.none) = true) from by simp)]
        have fly : wpAny (model X.prog X.w) X.A (setFlight (.ref a) X.env.frame) (fun _ s4 => wpAny (model X.prog X.w) X.A (throw (.ref a) : Sem Flow) (SP X pins D) X.xe s4) X.xe { s1 with heap := h3 } := by
          rw [hfr0]
          refine HandSPX.setFlight_upZ fl3 fun h4 hh4 up4 => wpAny_throw (tk _ _ ?_)
          exact ⟨a, B, sI, pins, σ1, H1, cls, d, rfl, J, nb, up13.trans up4, .inr (.inr (by rw [hst]; exact hh4)), na, os, ag, wish⟩
        first
          | exact wpAny_bind (wpAny_pure (wpAny_bind fly))
          | exact wpAny_bind fly
      | @cons x nm z st suite np p' hs2 l2 hc hn hsu r ih =>
        intro wish
        obtain ⟨b, hb1, hyes, hno⟩ := wish
        refine wpAny_handleBy_cons (codeAny_handlers_test ?_) (by intro q; cases q)
        have LT : PySem.W.Looks (model X.prog X.w) h3 (typeOf (.ref a)) cls := fun A Q E s k q => wpAny_typeOf_ref (k _ _ he3) (by rw [hz3.1]; exact q)
        have LM := PySem.W.exm_one (M := model X.prog X.w) (J3.kIn) LT hb1
        have asked : ∀ {Q : Value → Shared → Prop} {E : Value → Shared → Prop}, Q z.c { s1 with heap := h3 } → wpAny (model X.prog X.w) (X.A.mark (some (.ref a))) (eval (.Name x np) X.env) Q E { s1 with heap := h3 } := fun {Q E} q => by
          obtain ⟨hg, hdbg, hm | ⟨hm, hv, hnn⟩⟩ := hc
          · exact ld_glob (X := X.suite a ((a, oe3) :: (X.pn ++ pins))) S3 hg hm q hdbg
          · exact ld_blt (X := X.suite a ((a, oe3) :: (X.pn ++ pins))) S3 hg hm hv q hnn hdbg
        refine asked (LM.here ?_)
        cases b with
        | false =>
          show wpAny _ X.A (handleBy (.ref a) X.env hs2) _ _ _
          exact ih (hno rfl)
        | true =>
          have run := hyes rfl a na
          cases hsl : z.sl with
          | none =>
            cases nm with
            | some n => rw [hsl] at hn; exact hn.elim
            | none =>
              rw [hsl] at run
              refine codeAny_handlers_suite ?_
              refine HandSPX.lands_againZ fl3 fun h4 fl4 up4 => ?_
              have J4 : Inv X pins σ1 H1 { s1 with heap := h4 } := J.landed nb fl4.1 (up13.trans up4) os ag
              obtain ⟨oe4, vs4, he4, hz4, hd4⟩ := fl4.there
              have S4 := J4.suite he4 hd4 na nL nF
              refine wpAny_mono ((hsu a oe4 cls d (X.pn ++ pins) hz4 ⟨_, hd4⟩).run [] _ _ H1 _ S4 run) (fun fl s6 q => ?_) fun _ _ z => z.elim
              cases fl with
              | next => obtain ⟨σ6, H6, S6, q6⟩ := q; exact ⟨_, _, S6.unsuite okX, q6⟩
              | brk => obtain ⟨σ6, H6, S6, q6⟩ := q; exact ⟨_, _, S6.unsuite okX, q6⟩
              | cont => obtain ⟨σ6, H6, S6, q6⟩ := q; exact ⟨_, _, S6.unsuite okX, q6⟩
              | ret u => obtain ⟨v6, σ6, H6, S6, r6, q6⟩ := q; exact ⟨_, _, _, S6.unsuite okX, r6, q6⟩
          | some i =>
            cases nm with
            | none => rw [hsl] at hn; exact hn.elim
            | some n =>
              rw [hsl] at hn run
              obtain ⟨hi, hln⟩ := hn
              refine codeAny_handlers_suite_as ?_
              refine HandSPX.lands_againZ fl3 fun h4 fl4 up4 => ?_
              have J4 : Inv X pins σ1 H1 { s1 with heap := h4 } := J.landed nb fl4.1 (up13.trans up4) os ag
              obtain ⟨oe4, vs4, he4, hz4, hd4⟩ := fl4.there
              have S4 := J4.suite he4 hd4 na nL nF
              refine store_ok (X := X.suite a ((a, oe4) :: (X.pn ++ pins))) (v := .ref a) S4 hN hi (.inl hln) rfl (fun s5 S5 => ?_) (.inr hln)
              refine wpAny_mono ((hsu a oe4 cls d (X.pn ++ pins) hz4 ⟨_, hd4⟩).run [] s5 _ H1 _ S5 run) (fun fl s6 q => ?_) fun _ _ z => z.elim
              have ending : ∀ {σ6 : L2.St} {H6 : Hp} {Q : Shared → Prop}, Inv (X.suite a ((a, oe4) :: (X.pn ++ pins))) [] σ6 H6 s6 → (∀ s7, Inv X pins (σ6.set i none) H6 s7 → Q s7) →
                  wpAny (model X.prog X.w) X.A (do bindName X.env n .none; unbindBehindTheSuite X.env n p') (fun _ s7 => Q s7) X.xe s6 := fun {σ6 H6 Q} S6 hq => gone_ok (S6.unsuite okX) hN hi hln hq
              cases fl with
              | next => obtain ⟨σ6, H6, S6, q6⟩ := q; exact ending S6 fun s7 J7 => ⟨_, _, J7, q6⟩
              | brk => obtain ⟨σ6, H6, S6, q6⟩ := q; exact ending S6 fun s7 J7 => ⟨_, _, J7, q6⟩
              | cont => obtain ⟨σ6, H6, S6, q6⟩ := q; exact ending S6 fun s7 J7 => ⟨_, _, J7, q6⟩
              | ret u => obtain ⟨v6, σ6, H6, S6, r6, q6⟩ := q; exact ending S6 fun s7 J7 => ⟨_, _, _, J7, r6, q6⟩
    exact onward hh wish
end
end Dv

set_option linter.all false
set_option autoImplicit false
set_option maxRecDepth 100000
set_option maxHeartbeats 2000000
namespace Dv
open PySem L2 PySem.Spec PyProof.Rows
/-- an error's class is a clause's exactly if it is the same -/
def Wd.ExmOk (w : Wd) : Prop := ∀ c c', ((w.G.cls c).bind (·.exc)).isSome = true → ((w.G.cls c').bind (·.exc)).isSome = true → PySem.W.exmOne w.K (.ref (w.D.ca c)) (.ref (w.D.ca c')) = some (decide (c = c'))
def clz (w : Wd) (o : Orc) : St → List Clz
  | .hnd c sl su r => ⟨.ref (w.D.ca c), sl, fun a cls d D σ H => ∃ k, tS w (some (k, a, cls, d)) WF o su D σ H⟩ :: clz w o r
  | _ => []
/-- the clauses' classes are errors of the text -/
def hndOk (G : Tx) : St → Bool
  | .hnd c _ _ r => ((G.cls c).bind (·.exc)).isSome && hndOk G r
  | .hnil => true
  | _ => false
section
variable {w : Wd} {ax ax' : Ax} {W : WX} {o : Orc} {P : Program} {wl : World} {base : Heap} {n : Nat} {N : List Str} {sc scope : Scope} {cm : Bool} {X : Cx} {m m1 : Mp} {h : VH} {H : Hp} {s : Sl} {σ : L2.St} {D : Ends} {r : Sr} {a : Addr} {pos : Pos}
theorem ObjR.other {ob : Ho} (q : ObjR w.D w.K ax m H a ob) (hx : ∀ c fs, ob ≠ .exn c fs) : ObjR w.D w.K ax' m H a ob := by
  cases ob with
  | exn c fs => exact (hx c fs rfl).elim
  | _ => exact q
/-- the error at a comes into the relation, at a new place -/
theorem Sim.caught {cls : Str} {dd : Addr} {fs : List (Str × Vv)} {gs : List (Str × V)} (sm : SimW w none m h H) (hd : H dd = some (.xd gs)) (rf : RF w.D m fs gs) :
    SimW w (some (h.length, a, .ref (w.D.ca cls), some dd)) (ext m h.length a) (h ++ [.exn cls fs]) H := by
  have le := sm.le a
  have old : ∀ {i : Nat} {o1 : Ho}, (h ++ [.exn cls fs])[i]? = some o1 → (i < h.length ∧ h[i]? = some o1) ∨ (i = h.length ∧ o1 = .exn cls fs) := fun {i o1} e => by
    by_cases hi : i < h.length
    · rw [List.getElem?_append_left hi] at e
      exact .inl ⟨hi, e⟩
    · have hi2 : i = h.length := by
        have := (List.getElem?_eq_some_iff.mp e).1
        rw [List.length_append, List.length_singleton] at this
        omega
      subst hi2
      rw [List.getElem?_append_right (Nat.le_refl _), Nat.sub_self] at e
      cases e
      exact .inr ⟨rfl, rfl⟩
  have nox : ∀ {i : Nat} {c : Str} {fs : List (Str × Vv)}, h[i]? = some (.exn c fs) → False := fun {i c fs} e => by
    obtain ⟨z, e⟩ := sm.one i c fs e
    cases e
  have back : ∀ {i : Nat} {b : Addr}, i < h.length → ext m h.length a i = some b → m i = some b := fun {i b} hi q => by
    unfold ext at q
    rw [if_neg (by omega)] at q
    exact q
  refine ⟨fun i o1 e => ?_, fun i b e => ?_, fun i j o1 o2 b e1 e2 w1 w2 q1 q2 => ?_, fun i c fs' e => ?_⟩
  · rcases old e with ⟨hi, e⟩ | ⟨rfl, rfl⟩
    · obtain ⟨b, h1, h2⟩ := sm.at_ i o1 e
      exact ⟨b, le _ _ h1, ObjR.other (ObjR.mono h2 le) fun c fs z => nox (z ▸ e)⟩
    · exact ⟨a, ext_same, _, dd, gs, rfl, hd, rf.mono le⟩
  · rw [List.length_append, List.length_singleton]
    unfold ext at e
    by_cases hi : i = h.length
    · omega
    · rw [if_neg hi] at e
      have := sm.dom i b e
      omega
  · rcases old e1 with ⟨h1, e1⟩ | ⟨rfl, rfl⟩
    · rcases old e2 with ⟨h2, e2⟩ | ⟨rfl, rfl⟩
      · exact sm.inj i j o1 o2 b e1 e2 w1 w2 (back h1 q1) (back h2 q2)
      · cases w2
    · cases w1
  · rcases old e with ⟨_, e⟩ | ⟨rfl, _⟩
    · exact (nox e).elim
    · exact ⟨_, rfl⟩
/-- it goes -/
theorem Sim.gone {k : Nat} {z : Addr × Value × Option Addr} (sm : SimW w (some (k, z)) m h H) : SimW w none m (h.set k .dead) H := by
  have old : ∀ {i : Nat} {o1 : Ho}, (h.set k .dead)[i]? = some o1 → (i = k ∧ o1 = .dead ∧ ∃ o2, h[k]? = some o2) ∨ (i ≠ k ∧ h[i]? = some o1) := fun {i o1} e => by
    by_cases hi : i = k
    · subst hi
      have hl : i < h.length := by
        have := (List.getElem?_eq_some_iff.mp e).1
        rwa [List.length_set] at this
      rw [List.getElem?_set_self hl] at e
      cases e
      exact .inl ⟨rfl, rfl, _, List.getElem?_eq_getElem hl⟩
    · rw [List.getElem?_set_ne (Ne.symm hi)] at e
      exact .inr ⟨hi, e⟩
  refine ⟨fun i o1 e => ?_, fun i b e => by rw [List.length_set]; exact sm.dom i b e, fun i j o1 o2 b e1 e2 w1 w2 q1 q2 => ?_, fun i c fs' e => ?_⟩
  · rcases old e with ⟨rfl, rfl, o2, e⟩ | ⟨hi, e⟩
    · obtain ⟨b, h1, _⟩ := sm.at_ i o2 e
      exact ⟨b, h1, trivial⟩
    · obtain ⟨b, h1, h2⟩ := sm.at_ i o1 e
      refine ⟨b, h1, ObjR.other h2 fun c fs q => ?_⟩
      subst q
      obtain ⟨z', q⟩ := sm.one i c fs e
      cases q
      exact hi rfl
  · rcases old e1 with ⟨rfl, rfl, _⟩ | ⟨h1, e1⟩
    · cases w1
    · rcases old e2 with ⟨rfl, rfl, _⟩ | ⟨h2, e2⟩
      · cases w2
      · exact sm.inj i j o1 o2 b e1 e2 w1 w2 q1 q2
  · rcases old e with ⟨_, q, _⟩ | ⟨hi, e⟩
    · cases q
    · obtain ⟨z', q⟩ := sm.one i c fs' e
      cases q
      exact (hi rfl).elim
def outR (sl : Option Nat) (σ : L2.St) : L2.St := match sl with
  | none => σ
  | some i => σ.set i none
theorem out_R {m : Mp} {s : Sl} {σ : L2.St} : ∀ {sl : Option Nat}, SlR w.D m s σ → SlR w.D m (outS sl s) (outR sl σ)
  | none, q => q
  | some i, q => q.clear i none
theorem caught_ok (EX : w.ExmOk) : ∀ {hs : St} {x : Xv} {s : Sl} {h : VH} {m : Mp} {σ : L2.St} {H : Hp} {dd : Addr} {gs : List (Str × V)}, hndOk w.G hs = true → evS.evH w.G o hs x s h = some r → PSr w none W m D r → SlR w.D m s σ → SimW w none m h H → H dd = some (.xd gs) → RF w.D m x.fs gs →
    wMix w.K W D (clz w o hs) (.ref (w.D.ca x.c)) (some dd) σ H
  | .hnd c sl su rest, x, s, h, m, σ, H, dd, gs, ok, e, p, hs, sm, hd, rf => by
    unfold hndOk at ok
    rw [Bool.and_eq_true] at ok
    simp only [evS.evH] at e
    split at e
    · cases e
    · rename_i hx
      have hx : ((w.G.cls x.c).bind (·.exc)).isSome = true := by cases hh : ((w.G.cls x.c).bind (·.exc)).isSome with | true => rfl | false => exact (hx hh).elim
      refine ⟨decide (x.c = c), EX x.c c hx ok.1, fun hc a ha => ?_, fun hc => ?_⟩
      · have hc : x.c = c := of_decide_eq_true hc
        rw [if_pos hc] at e
        cases q : evS w.G o su (inS sl h.length s) (h ++ [.exn x.c x.fs]) with
        | none => rw [q] at e; cases e
        | some r0 =>
          rw [q] at e
          refine ⟨h.length, ext m h.length a, inS sl h.length s, h ++ [.exn x.c x.fs], r0, ?_, sm.caught hd rf, q, ?_⟩
          · cases sl with
            | none => exact hs.mono (sm.le a)
            | some i => exact (hs.mono (sm.le a)).set i ⟨a, ext_same, rfl⟩
          · have out : ∀ {m' : Mp} {s2 : Sl} {σ' : L2.St}, SlR w.D m' s2 σ' → SlR w.D m' (outS sl s2) (outR sl σ') := fun {m' s2 σ'} k => out_R k
            cases r0 with
            | nx s2 h2 =>
              cases e
              intro m' H' σ' l sm' hs'
              have := p m' H' _ ((sm.le a).trans l) sm'.gone (out hs')
              cases sl <;> exact this
            | rt v h2 =>
              cases e
              intro m' H' x' l sm' rx
              have := p m' H' x' ((sm.le a).trans l) sm'.gone rx
              cases sl <;> exact this
            | bk s2 h2 =>
              cases e
              intro m' H' σ' l sm' hs'
              have := p m' H' _ ((sm.le a).trans l) sm'.gone (out hs')
              cases sl <;> exact this
            | ct s2 h2 =>
              cases e
              intro m' H' σ' l sm' hs'
              have := p m' H' _ ((sm.le a).trans l) sm'.gone (out hs')
              cases sl <;> exact this
            | ex x2 s2 h2 => cases e
      · have hc : ¬ x.c = c := of_decide_eq_false hc
        rw [if_neg hc] at e
        exact caught_ok EX ok.2 e p hs sm hd rf
  | .hnil, x, s, h, m, σ, H, dd, gs, ok, e, p, hs, sm, hd, rf => by
    cases e
    exact p m H σ dd gs (Le.refl m) sm hs hd rf
theorem Good.tr {pn : List (Addr × Obj)} {xe : Value → Shared → Prop} {n : Nat} {N : List Str} {sc : Scope} (g : Good w none P wl base n N sc true X) : Good w none P wl base n N sc true (X.tr pn xe) :=
  ⟨g.hP, g.hw, g.hK, g.hm, g.hB, g.hN, g.nd, g.hs, g.hr, g.hd, g.hc, g.nx, fun _ _ _ _ z => by cases z⟩
theorem Good.suite {n : Nat} {N : List Str} {sc : Scope} {oe : Obj} {cls : Value} {d : Option Addr} {pn : List (Addr × Obj)} {k : Nat} (g : Good w ax P wl base n N sc cm X) (hz : Zc cls d oe) (hf : ∃ vs, oe.data = .fields vs) : Good w (some (k, a, cls, d)) P wl base n N sc false (X.suite a ((a, oe) :: pn)) :=
  ⟨g.hP, g.hw, g.hK, g.hm, g.hB, g.hN, g.nd, g.hs, ⟨g.hr.gu, g.hr.dp, g.hr.un⟩, (fun z => by cases z), (fun z => by cases z), (fun z => by cases z), fun _ _ _ _ z => by cases z; exact ⟨oe, List.mem_cons_self, hz, hf⟩⟩
theorem st_try {body : List Stmt} {h0 : ExceptHandler} {hds : List ExceptHandler} {b hs : St} {n : Nat} {N : List Str} {sc : Scope} (EX : w.ExmOk) (g : Good w ax P wl base n N sc true X) (tk : Takes X W) (hst : X.stack = X.env :: X.outer) (hfr : X.env.frame = some X.env.locals)
    (hb : ∀ (W' : WX) (pn : List (Addr × Obj)) (xe : Value → Shared → Prop), Takes (X.tr pn xe) W' → PassesOwn (model X.prog X.w) X.A X.env xe → PSs (X.tr pn xe) body (tS w none W' o b)) (hh : MixOk X (h0 :: hds) (clz w o hs)) (hok : hndOk w.G hs = true) :
    PS X (.Try body (h0 :: hds) [] [] pos) (tS w ax W o (.try_ b hs)) := by
  have ea := g.nx rfl
  subst ea
  refine PS.to (ps_mix (tb := fun W' => tS w none W' o b) (by rw [g.hN]; exact g.nd) hst hfr tk hb hh) fun D σ H ⟨m, s, h, r, hs1, sm, e, p⟩ => ?_
  simp only [evS] at e
  cases q : evS w.G o b s h with
  | none => rw [q] at e; cases e
  | some r0 =>
    rw [q] at e
    refine ⟨m, s, h, r0, hs1, sm, q, ?_⟩
    cases r0 with
    | nx s1 h1 => cases e; exact p
    | rt v h1 => cases e; exact p
    | bk s1 h1 => cases e; exact p
    | ct s1 h1 => cases e; exact p
    | ex x s1 h1 =>
      intro m' H' σ' dd gs l sm' hs' hd rf
      rw [g.hK]
      exact caught_ok EX hok e (p.mono l) hs' sm' hd rf
end
end Dv

set_option linter.all false
set_option autoImplicit false
set_option maxRecDepth 100000
set_option maxHeartbeats 2000000
namespace Dv
open PySem L2 PySem.Spec PyProof.Rows
/-- global names: defs, classes, constants, built-ins that are not hidden, fields that are no property -/
structure Nm where
  fns : List Str
  cls : List Str
  kon : List (Str × Vv)
  blt : List Str
  npr : List Str
structure Wd.NmOk (w : Wd) (t : Nm) : Prop where
  fn : ∀ f ∈ t.fns, w.mg f = some (.ref (w.D.fa f)) ∧ PySem.W.keepIn w.K (.ref (w.D.fa f)) = true
  cl : ∀ c ∈ t.cls, w.mg c = some (.ref (w.D.ca c))
  kn : ∀ p ∈ t.kon, ∃ u x, w.mg p.1 = some u ∧ RelV x u ∧ ∀ m, R w.D m p.2 x
  bl : ∀ b ∈ t.blt, w.mg b = none
  np : ∀ f ∈ t.npr, ∀ c, propOf w.G c f = none
  sup : w.mg "super" = none
def glB (sc : Scope) (x : Str) : Bool := decide (sc.names.lookup x = some .globalImplicit) && !(x == ("__debug__" : Str))
def visB (sc : Scope) (x : Str) : Bool := (decide (sc.names.lookup x = some .local) || decide (sc.names.lookup x = some .cell) || decide (sc.names.lookup x = some .free)) && !(x == ("__debug__" : Str)) && !(x == ("__classdict__" : Str))
def locB (cl : Bool) (sc : Scope) (x : Str) : Bool := decide (sc.names.lookup x = some .local) || (cl && decide (sc.names.lookup x = some .cell))
def tyN : List (Str × String) := [("int", "int"), ("str", "str"), ("bool", "bool"), ("list", "list"), ("tuple", "tuple"), ("dict", "dict")]
def chkC (t : Nm) (sc : Scope) : Vv → Expr → Bool
  | .non, .Constant .none _ _ => true
  | .bl b, .Constant (.bool b') _ _ => b == b'
  | .int i, .Constant (.int i') _ _ => decide (i = i')
  | .str z, .Constant (.str z') _ _ => decide (z = z')
  | .fn f, .Name x _ => decide (f = x) && t.fns.contains f && glB sc f
  | .cls c, .Name x _ => decide (c = x) && t.cls.contains c && glB sc c
  | .ty n, .Name x _ => glB sc x && t.blt.contains x && decide ((x, n) ∈ tyN)
  | v, .Name x _ => glB sc x && decide ((x, v) ∈ t.kon)
  | _, _ => false
def chkN (cl : Bool) (N : List Str) (sc : Scope) : List Nat → List Expr → Bool
  | [], [] => true
  | i :: is, .Name x _ :: es => decide (N[i]? = some x) && locB cl sc x && chkN cl N sc is es
  | _, _ => false
def chkTg (cl : Bool) (N : List Str) (sc : Scope) (tg : List Nat) : Expr → Bool
  | .Name x _ => match tg with
    | [i] => decide (N[i]? = some x) && locB cl sc x
    | _ => false
  | .Tuple es _ _ => (tg.length != 1) && chkN cl N sc tg es
  | _ => false
def isCmp : Expr → Bool
  | .Compare _ _ _ _ => true
  | _ => false
def isNoe : Ex → Bool
  | .noe => true
  | _ => false
section
variable (t : Nm) (G : Tx) (N : List Str)
mutual
def chkE : Scope → Bool → Ex → Expr → Bool
  | sc, _, .var i, .Name x _ => decide (N[i]? = some x) && visB sc x
  | sc, _, .cst v, e => chkC t sc v e
  | sc, cm, .bin op a b, .BinOp ea op' eb _ => decide (op = op') && chkE sc cm a ea && chkE sc cm b eb
  | sc, cm, .neg a, .UnaryOp .USub ea _ => chkE sc cm a ea
  | sc, cm, .cmp op a b, .Compare ea [op'] [eb] _ => decide (op = op') && noSet eb && chkE sc cm a ea && chkE sc cm b eb
  | sc, cm, .chain op op2 a b c, .Compare ea [op', op2'] [eb, ec] _ => decide (op = op') && decide (op2 = op2') && noSet eb && noSet ec && chkE sc cm a ea && chkE sc cm b eb && chkE sc cm c ec
  | sc, cm, .and a b, .BoolOp .And (ea :: eb :: rest) pos => chkE sc cm a ea && (if rest.isEmpty then chkE sc cm b eb else chkE sc cm b (.BoolOp .And (eb :: rest) pos))
  | sc, cm, .or a b, .BoolOp .Or (ea :: eb :: rest) pos => chkE sc cm a ea && (if rest.isEmpty then chkE sc cm b eb else chkE sc cm b (.BoolOp .Or (eb :: rest) pos))
  | sc, cm, .not a, .UnaryOp .Not ea _ => chkE sc cm a ea
  | sc, cm, .ite c a b, .IfExp ec ea eb _ => chkT sc cm c ec && chkE sc cm a ea && chkE sc cm b eb
  | sc, cm, .attr a f, .Attribute ea f' _ => decide (f = f') && noSuper ea && (cm || t.npr.contains f) && chkE sc cm a ea
  | sc, cm, .idx a b, .Subscript ea eb _ => noSlice eb && chkE sc cm a ea && chkE sc cm b eb
  | sc, cm, .slc a lo hi, .Subscript ea (.Slice elo ehi none _) _ => chkE sc cm a ea && (match elo with | none => isNoe lo | some e1 => !isNoe lo && chkE sc cm lo e1) && (match ehi with | none => isNoe hi | some e1 => !isNoe hi && chkE sc cm hi e1)
  | _, _, .dnew, .Dict [] [] _ => true
  | sc, cm, .tup es, .Tuple xs _ _ => xs.all notStar && chkEs sc cm es xs
  | sc, cm, .lst es, .List xs _ => xs.all notStar && chkEs sc cm es xs
  | sc, cm, .call f es, .Call (.Name x _) xs [] _ => cm && decide (f = x) && glB sc f && t.fns.contains f && xs.all notStar && chkEs sc cm es xs
  | sc, cm, .mk c es, .Call (.Name x _) (x1 :: xs) [] _ => cm && decide (c = x) && glB sc c && t.cls.contains c && (methOf G c "__init__").isSome && (x1 :: xs).all notStar && chkEs sc cm es (x1 :: xs)
  | sc, cm, .meth a m es, .Call (.Attribute ea m' apos) xs [] pos => cm && decide (m = m') && (apos.endLine == pos.line) && noSuper ea && xs.all notStar && decide (xs.length < 20) && chkE sc cm a ea && chkEs sc cm es xs
  | sc, cm, .bf f es, .Call (.Name x _) (x1 :: xs) [] _ => (cm || !f.cold) && decide (x = f.name) && glB sc f.name && t.blt.contains f.name && (x1 :: xs).all notStar && chkEs sc cm es (x1 :: xs)
  | sc, cm, .bm a k es, .Call (.Attribute ea m' apos) (x1 :: xs) [] pos => k.here && decide (m' = k.name) && (apos.endLine == pos.line) && noSuper ea && (x1 :: xs).all notStar && decide ((x1 :: xs).length < 30) && chkE sc cm a ea && chkEs sc cm es (x1 :: xs)
  | sc, cm, .cv i es, .Call (.Name x _) (x1 :: xs) [] _ => cm && decide (N[i]? = some x) && visB sc x && (x1 :: xs).all notStar && chkEs sc cm es (x1 :: xs)
  | sc, cm, .callk f p es ks, .Call (.Name x _) (x1 :: xs) kws _ => cm && decide (f = x) && glB sc f && t.fns.contains f && (x1 :: xs).all notStar && kwNames kws p.ks && chkEs sc cm es (x1 :: xs) && chkKs sc cm ks kws
  | sc, cm, .mkk c p es ks, .Call (.Name x _) (x1 :: xs) kws _ => cm && decide (c = x) && glB sc c && t.cls.contains c && (methOf G c "__init__").isSome && (x1 :: xs).all notStar && kwNames kws p.ks && chkEs sc cm es (x1 :: xs) && chkKs sc cm ks kws
  | sc, cm, .cmpo op a b, .Compare ea [op'] [eb] _ => cm && decide (op = op') && noSet eb && chkE sc cm a ea && chkE sc cm b eb
  | sc, cm, .lc e own tg it cd, .ListComp elt [⟨tgt, iter, ifs, isa⟩] scope _ => decide (isa = 0) && cm && blkC N sc scope (own.map fun i => ((N[i]?).getD "", i)) && tg.all (fun i => own.contains i) && noSetI iter && chkI sc cm it tg.length tgt iter && chkTg false N (relS scope sc) tg tgt &&
      (match ifs with
      | [] => (match cd with | .yes => true | _ => false)
      | [c] => chkT (relS scope sc) cm cd c
      | _ => false) && chkE (relS scope sc) cm e elt
  | _, _, _, _ => false
def chkT : Scope → Bool → Tt → Expr → Bool
  | sc, cm, .val e, ea => (plainT ea || isCmp ea) && chkE sc cm e ea
  | sc, cm, .and a b, .BoolOp .And (ea :: eb :: rest) pos => chkT sc cm a ea && (if rest.isEmpty then chkT sc cm b eb else chkT sc cm b (.BoolOp .And (eb :: rest) pos))
  | sc, cm, .or a b, .BoolOp .Or (ea :: eb :: rest) pos => chkT sc cm a ea && (if rest.isEmpty then chkT sc cm b eb else chkT sc cm b (.BoolOp .Or (eb :: rest) pos))
  | sc, cm, .not a, .UnaryOp .Not ea _ => chkT sc cm a ea
  | _, _, _, _ => false
/-- what is walked: by the number of the target's slots, the target -/
def chkI : Scope → Bool → It → Nat → Expr → Expr → Bool
  | sc, cm, .val e, _, _, ea => chkE sc cm e ea
  | sc, cm, .rng (.cons a .nil), _, _, .Call (.Name x _) [e1] [] _ => decide (x = ("range" : Str)) && glB sc x && t.blt.contains x && notStar e1 && chkE sc cm a e1
  | sc, cm, .rng (.cons a (.cons b .nil)), _, _, .Call (.Name x _) [e1, e2] [] _ => decide (x = ("range" : Str)) && glB sc x && t.blt.contains x && notStar e1 && notStar e2 && chkE sc cm a e1 && chkE sc cm b e2
  | sc, cm, .rng (.cons a (.cons b (.cons c .nil))), _, _, .Call (.Name x _) [e1, e2, e3] [] _ => decide (x = ("range" : Str)) && glB sc x && t.blt.contains x && notStar e1 && notStar e2 && notStar e3 && chkE sc cm a e1 && chkE sc cm b e2 && chkE sc cm c e3
  | sc, cm, .enm a, _, .Tuple _ _ _, .Call (.Name x _) [e1] [] _ => decide (x = ("enumerate" : Str)) && glB sc x && t.blt.contains x && notStar e1 && chkE sc cm a e1
  | _, _, _, _, _, _ => false
def chkEs : Scope → Bool → Exs → List Expr → Bool
  | _, _, .nil, [] => true
  | sc, cm, .cons a as, e :: es => chkE sc cm a e && chkEs sc cm as es
  | _, _, _, _ => false
def chkKs : Scope → Bool → Exs → List Keyword → Bool
  | _, _, .nil, [] => true
  | sc, cm, .cons a as, ⟨_, e, _⟩ :: es => chkE sc cm a e && chkKs sc cm as es
  | _, _, _, _ => false
end
end
end Dv

set_option linter.all false
set_option autoImplicit false
set_option maxRecDepth 100000
set_option maxHeartbeats 4000000
namespace Dv
open PySem L2 PySem.Spec PyProof.Rows
/-- all that the check leans on -/
structure Evd (w : Wd) (t : Nm) (P : Program) (wl : World) (base : Heap) (j : Nat) (o : Orc) : Prop where
  F : Fac w
  C : w.ClsAll
  nm : w.NmOk t
  O1 : OrcOk w P wl base (j + 1) o.call
  O2 : OrcOk w P wl base j o.call2
  K1 : OrcK w P wl base (j + 1) o.callk
  K2 : OrcK w P wl base j o.callk2
theorem no {α : Prop} (h : false = true) : α := Bool.noConfusion h
section
variable {w : Wd} {ax : Ax} {W : WX} {o : Orc} {P : Program} {wl : World} {base : Heap} {j : Nat} {N : List Str} {sc scope : Scope} {cm : Bool} {X : Cx} {t : Nm}
theorem dbg {x : Str} (h : (!(x == ("__debug__" : Str))) = true) : (x == ("__debug__" : Str)) = false := by simpa using h
theorem gl_ok {x : Str} (g : Good w ax P wl base (j + 1) N sc cm X) (h : glB sc x = true) : Gl X x ∧ (x == ("__debug__" : Str)) = false := by
  unfold glB at h
  rw [Bool.and_eq_true] at h
  refine ⟨?_, dbg h.2⟩
  show X.env.scope.names.lookup x = _
  rw [g.hs]
  exact of_decide_eq_true h.1
theorem vis_ok {x : Str} (g : Good w ax P wl base (j + 1) N sc cm X) (h : visB sc x = true) : Vis X.env.scope x ∧ (x == ("__debug__" : Str)) = false ∧ (x == ("__classdict__" : Str)) = false := by
  unfold visB at h
  simp only [Bool.and_eq_true, Bool.or_eq_true, decide_eq_true_eq] at h
  refine ⟨?_, dbg h.1.2, by simpa using h.2⟩
  rw [g.hs]
  rcases h.1.1 with (h | h) | h
  · exact .inl h
  · exact .inr (.inl h)
  · exact .inr (.inr h)
theorem chkC_ok (E : Evd w t P wl base j o) (g : Good w ax P wl base (j + 1) N sc cm X) {v : Vv} {e : Expr} (h : chkC t sc v e = true) : PE X e (tE w ax W o (.cst v)) := by
  have nameK : ∀ {x : Str} {p : Pos}, (glB sc x && decide ((x, v) ∈ t.kon)) = true → PE X (.Name x p) (tE w ax W o (.cst v)) := fun {x p} h => by
    rw [Bool.and_eq_true] at h
    obtain ⟨u, y, h1, h2, h3⟩ := E.nm.kn _ (of_decide_eq_true h.2)
    obtain ⟨h4, h5⟩ := gl_ok g h.1
    exact e_cst (pe_glob h4 (by rw [g.hm]; exact h1) h2 h5) h3
  cases e with
  | Constant k i p =>
    cases v with
    | non => cases k <;> first | exact no h | exact e_cst pe_non fun _ => rfl
    | bl b =>
      cases k with
      | bool b' =>
        have h : (b == b') = true := h
        obtain rfl := beq_iff_eq.mp h
        exact e_cst pe_bl fun _ => rfl
      | _ => exact no h
    | int b =>
      cases k with
      | int b' =>
        have h : decide (b = b') = true := h
        obtain rfl := of_decide_eq_true h
        exact e_cst pe_int fun _ => rfl
      | _ => exact no h
    | str b =>
      cases k with
      | str b' =>
        have h : decide (b = b') = true := h
        obtain rfl := of_decide_eq_true h
        exact e_cst pe_str fun _ => rfl
      | _ => exact no h
    | _ => exact no h
  | Name x p =>
    cases v with
    | fn f =>
      have h : (decide (f = x) && t.fns.contains f && glB sc f) = true := h
      simp only [Bool.and_eq_true, decide_eq_true_eq] at h
      obtain ⟨⟨rfl, h2⟩, h3⟩ := h
      obtain ⟨h4, h5⟩ := gl_ok g h3
      exact e_cst (pe_glob (v := .ref (w.D.fa f)) h4 (by rw [g.hm]; exact (E.nm.fn f (List.contains_iff_mem.mp h2)).1) rfl h5) fun _ => rfl
    | cls f =>
      have h : (decide (f = x) && t.cls.contains f && glB sc f) = true := h
      simp only [Bool.and_eq_true, decide_eq_true_eq] at h
      obtain ⟨⟨rfl, h2⟩, h3⟩ := h
      obtain ⟨h4, h5⟩ := gl_ok g h3
      exact e_cst (pe_glob (v := .ref (w.D.ca f)) h4 (by rw [g.hm]; exact E.nm.cl f (List.contains_iff_mem.mp h2)) rfl h5) fun _ => rfl
    | ty n =>
      have h : (glB sc x && t.blt.contains x && decide ((x, n) ∈ tyN)) = true := h
      simp only [Bool.and_eq_true, decide_eq_true_eq] at h
      obtain ⟨⟨h2, h3⟩, h4⟩ := h
      obtain ⟨h5, h6⟩ := gl_ok g h2
      have hm := E.nm.bl x (List.contains_iff_mem.mp h3)
      have key : ∀ {x : Str} {n : String}, (x, n) ∈ tyN → bootBuiltins x = some (.type n) ∧ x ≠ "__name__" := fun {x n} q => by
        unfold tyN at q
        simp only [List.mem_cons, Prod.mk.injEq, List.not_mem_nil, or_false] at q
        rcases q with ⟨rfl, rfl⟩ | ⟨rfl, rfl⟩ | ⟨rfl, rfl⟩ | ⟨rfl, rfl⟩ | ⟨rfl, rfl⟩ | ⟨rfl, rfl⟩ <;> exact ⟨by decide +kernel, by decide⟩
      obtain ⟨k1, k2⟩ := key h4
      exact e_cst (pe_bltn (v := .ty n) h5 (by rw [g.hm]; exact hm) k1 rfl k2 h6) fun _ => rfl
    | non => exact nameK h
    | bl b => exact nameK h
    | int b => exact nameK h
    | str b => exact nameK h
    | ref b => exact nameK h
    | con b => exact nameK h
  | _ => cases v <;> exact no h
theorem loc_ok {x : Str} {cl : Bool} (hfn : cl = true → ∀ x, sc.names.lookup x = some .cell → X.fn x = true) (hs : X.env.scope = sc) (h : locB cl sc x = true) : Loc X.env.scope x ∧ (X.fn x = true ∨ X.env.scope.names.lookup x = some .local) := by
  unfold locB at h
  rw [hs]
  simp only [Bool.or_eq_true, Bool.and_eq_true, decide_eq_true_eq] at h
  rcases h with h | ⟨h1, h2⟩
  · exact ⟨.inl h, .inr h⟩
  · exact ⟨.inr h2, .inl (hfn h1 x h2)⟩
theorem chkN_ok {cl : Bool} {is : List Nat} {es : List Expr} (hfn : cl = true → ∀ x, sc.names.lookup x = some .cell → X.fn x = true) (g : Good w ax P wl base (j + 1) N sc cm X) (h : chkN cl N sc is es = true) : PGs X es (gT is) ∧ (assignEach es X.env).length = is.length ∧ (assignEach es X.env).findIdx? (·.1) = none := by
  induction is generalizing es with
  | nil => cases es with
    | nil => exact ⟨pgs_nil, rfl, rfl⟩
    | cons e es => exact no h
  | cons i is ih => cases es with
    | nil => exact no h
    | cons e es => cases e with
      | Name x p =>
        have h : (decide (N[i]? = some x) && locB cl sc x && chkN cl N sc is es) = true := h
        simp only [Bool.and_eq_true] at h
        obtain ⟨⟨h1, h2⟩, h3⟩ := h
        obtain ⟨k1, k2, k3⟩ := ih h3
        obtain ⟨l1, l2⟩ := loc_ok hfn g.hs h2
        refine ⟨pgs_cons (pg_name (by rw [g.hN]; exact g.nd) (by rw [g.hN]; exact of_decide_eq_true h1) l1 l2) k1, ?_, ?_⟩
        · show (assignEach es X.env).length + 1 = is.length + 1
          rw [k2]
        · show ((false, assign (.Name x p) X.env) :: assignEach es X.env).findIdx? (·.1) = none
          rw [List.findIdx?_cons]
          simp [k3]
      | _ => exact no h
theorem chkTg_ok {cl : Bool} {tg : List Nat} {e : Expr} (hfn : cl = true → ∀ x, sc.names.lookup x = some .cell → X.fn x = true) (g : Good w ax P wl base (j + 1) N sc true X) (h : chkTg cl N sc tg e = true) : PG X e (gTg w.K tg) := by
  cases e with
  | Name x p =>
    match tg, h with
    | [i], h =>
      have h : (decide (N[i]? = some x) && locB cl sc x) = true := h
      rw [Bool.and_eq_true] at h
      obtain ⟨l1, l2⟩ := loc_ok hfn g.hs h.2
      exact pg_name (by rw [g.hN]; exact g.nd) (by rw [g.hN]; exact of_decide_eq_true h.1) l1 l2
    | [], h => exact no h
    | _ :: _ :: _, h => exact no h
  | Tuple es k p =>
    have h : ((tg.length != 1) && chkN cl N sc tg es) = true := h
    rw [Bool.and_eq_true] at h
    obtain ⟨k1, k2, k3⟩ := chkN_ok hfn g h.2
    have hne : tg.length ≠ 1 := by simpa using h.1
    have e : gTg w.K tg = gTup w.K tg.length (gT tg) := by
      unfold gTg
      split
      · exact (hne rfl).elim
      · rfl
    rw [e, ← g.hK]
    exact pg_tup (g.hc rfl) k1 k2 k3
  | _ => exact no h
end
end Dv

set_option linter.all false
set_option autoImplicit false
set_option maxRecDepth 100000
set_option maxHeartbeats 8000000
namespace Dv
open PySem L2 PySem.Spec PyProof.Rows
def isBop : Expr → Bool
  | .BoolOp _ _ _ => true
  | _ => false
theorem few_ok {es : List Expr} {env : Env} {pos : Pos} (hn : es.all notStar = true) (hl : decide (es.length < 20) = true) : methodCallForm es.length (backTo pos (starEach es env)) (backToKw pos (keywordEach [] env)) = true := by
  unfold methodCallForm
  rw [star_few hn]
  have h : es.length < 20 := of_decide_eq_true hl
  show (true && true && decide (es.length + 0 < 30)) = true
  simp
  omega
section
variable {w : Wd} {o : Orc} {P : Program} {wl : World} {base : Heap} {j : Nat} {N : List Str} {t : Nm}
theorem t_yes {X : Cx} {ax : Ax} {W : WX} : PTs X [] (tT w ax W o .yes) := by
  refine ⟨fun pins s σ H Q I ⟨m, s', h, r, hs, sm, e, p⟩ => pts_nil.run pins s σ H Q I ?_⟩
  cases e
  exact p m H true (Le.refl m) sm rfl
mutual
theorem chkE_ok (E : Evd w t P wl base j o) : ∀ (e : Ex) {ea : Expr} {sc : Scope} {cm : Bool} {ax : Ax} {W : WX} {X : Cx}, Good w ax P wl base (j + 1) N sc cm X → Takes X W → chkE t w.G N sc cm e ea = true → PE X ea (tE w ax W o e)
  | .var i, ea, sc, cm, ax, W, X, g, tk, h => by
    cases ea with
    | Name x p =>
      have h : (decide (N[i]? = some x) && visB sc x) = true := h
      rw [Bool.and_eq_true] at h
      obtain ⟨h1, h2, h3⟩ := vis_ok g h.2
      exact e_var (by rw [g.hN]; exact of_decide_eq_true h.1) h1 h2 h3
    | _ => exact no h
  | .cst v, ea, sc, cm, ax, W, X, g, tk, h => chkC_ok E g (show chkC t sc v ea = true by cases ea <;> exact h)
  | .bin op a b, ea, sc, cm, ax, W, X, g, tk, h => by
    cases ea with
    | BinOp e1 op' e2 p =>
      have h : (decide (op = op') && chkE t w.G N sc cm a e1 && chkE t w.G N sc cm b e2) = true := h
      simp only [Bool.and_eq_true, decide_eq_true_eq] at h
      obtain ⟨⟨rfl, h1⟩, h2⟩ := h
      exact e_bin g.hK (chkE_ok E a g tk h1) (chkE_ok E b g tk h2)
    | _ => exact no h
  | .neg a, ea, sc, cm, ax, W, X, g, tk, h => by
    cases ea with
    | UnaryOp op e1 p => cases op <;> first | exact no h | exact e_neg (chkE_ok E a g tk h)
    | _ => exact no h
  | .cmp op a b, ea, sc, cm, ax, W, X, g, tk, h => by
    cases ea with
    | Compare e1 ops es p =>
      match ops, es, h with
      | [op'], [e2], h =>
        have h : (decide (op = op') && noSet e2 && chkE t w.G N sc cm a e1 && chkE t w.G N sc cm b e2) = true := h
        simp only [Bool.and_eq_true, decide_eq_true_eq] at h
        obtain ⟨⟨⟨rfl, h0⟩, h1⟩, h2⟩ := h
        exact e_cmp E.F g.hK g.hr.units h0 (chkE_ok E a g tk h1) (chkE_ok E b g tk h2)
      | [], _, h => exact no h
      | [_], [], h => exact no h
      | [_], _ :: _ :: _, h => exact no h
      | _ :: _ :: _, _, h => exact no h
    | _ => exact no h
  | .chain op op2 a b c, ea, sc, cm, ax, W, X, g, tk, h => by
    cases ea with
    | Compare e1 ops es p =>
      match ops, es, h with
      | [op', op2'], [e2, e3], h =>
        have h : (decide (op = op') && decide (op2 = op2') && noSet e2 && noSet e3 && chkE t w.G N sc cm a e1 && chkE t w.G N sc cm b e2 && chkE t w.G N sc cm c e3) = true := h
        simp only [Bool.and_eq_true, decide_eq_true_eq] at h
        obtain ⟨⟨⟨⟨⟨⟨rfl, rfl⟩, h0⟩, h3⟩, h1⟩, h2⟩, h4⟩ := h
        exact e_chain E.F g.hK g.hr.units h0 h3 (chkE_ok E a g tk h1) (chkE_ok E b g tk h2) (chkE_ok E c g tk h4)
      | [], _, h => exact no h
      | [_], _, h => exact no h
      | [_, _], [], h => exact no h
      | [_, _], [_], h => exact no h
      | [_, _], _ :: _ :: _ :: _, h => exact no h
      | _ :: _ :: _ :: _, _, h => exact no h
    | _ => exact no h
  | .and a b, ea, sc, cm, ax, W, X, g, tk, h => by
    cases ea with
    | BoolOp op es p =>
      cases op with
      | Or => exact no h
      | And =>
        match es, h with
        | [], h => exact no h
        | [_], h => exact no h
        | e1 :: e2 :: rest, h =>
          have h : (chkE t w.G N sc cm a e1 && (if rest.isEmpty then chkE t w.G N sc cm b e2 else chkE t w.G N sc cm b (.BoolOp .And (e2 :: rest) p))) = true := h
          rw [Bool.and_eq_true] at h
          refine e_and E.F g.hK (chkE_ok E a g tk h.1) ?_
          cases rest with
          | nil => exact pe_one (chkE_ok E b g tk h.2)
          | cons e3 rest => exact chkE_ok E b g tk h.2
    | _ => exact no h
  | .or a b, ea, sc, cm, ax, W, X, g, tk, h => by
    cases ea with
    | BoolOp op es p =>
      cases op with
      | And => exact no h
      | Or =>
        match es, h with
        | [], h => exact no h
        | [_], h => exact no h
        | e1 :: e2 :: rest, h =>
          have h : (chkE t w.G N sc cm a e1 && (if rest.isEmpty then chkE t w.G N sc cm b e2 else chkE t w.G N sc cm b (.BoolOp .Or (e2 :: rest) p))) = true := h
          rw [Bool.and_eq_true] at h
          refine e_or E.F g.hK (chkE_ok E a g tk h.1) ?_
          cases rest with
          | nil => exact pe_one (chkE_ok E b g tk h.2)
          | cons e3 rest => exact chkE_ok E b g tk h.2
    | _ => exact no h
  | .not a, ea, sc, cm, ax, W, X, g, tk, h => by
    cases ea with
    | UnaryOp op e1 p => cases op <;> first | exact no h | exact e_not E.F g.hK (chkE_ok E a g tk h)
    | _ => exact no h
  | .ite c a b, ea, sc, cm, ax, W, X, g, tk, h => by
    cases ea with
    | IfExp e0 e1 e2 p =>
      have h : (chkT t w.G N sc cm c e0 && chkE t w.G N sc cm a e1 && chkE t w.G N sc cm b e2) = true := h
      simp only [Bool.and_eq_true] at h
      exact e_ite (chkT_ok E c g tk h.1.1).1 (chkE_ok E a g tk h.1.2) (chkE_ok E b g tk h.2)
    | _ => exact no h
  | .attr a f, ea, sc, cm, ax, W, X, g, tk, h => by
    cases ea with
    | Attribute e1 f' p =>
      have h : (decide (f = f') && noSuper e1 && (cm || t.npr.contains f) && chkE t w.G N sc cm a e1) = true := h
      simp only [Bool.and_eq_true, decide_eq_true_eq] at h
      obtain ⟨⟨⟨rfl, h1⟩, h2⟩, h3⟩ := h
      refine e_attr E.F E.C g E.O2 h1 (fun hc => ?_) (chkE_ok E a g tk h3)
      rw [hc, Bool.false_or] at h2
      exact E.nm.np f (List.contains_iff_mem.mp h2)
    | _ => exact no h
  | .idx a b, ea, sc, cm, ax, W, X, g, tk, h => by
    cases ea with
    | Subscript e1 e2 p =>
      have h : (noSlice e2 && chkE t w.G N sc cm a e1 && chkE t w.G N sc cm b e2) = true := by cases e2 <;> exact h
      simp only [Bool.and_eq_true] at h
      exact e_idx E.F g.hK h.1.1 (chkE_ok E a g tk h.1.2) (chkE_ok E b g tk h.2)
    | _ => exact no h
  | .slc a lo hi, ea, sc, cm, ax, W, X, g, tk, h => by
    cases ea with
    | Subscript e1 e2 p =>
      cases e2 with
      | Slice l u st p2 =>
        cases st with
        | some _ => exact no h
        | none =>
          have h : (chkE t w.G N sc cm a e1 && (match (generalizing := false) l with | none => isNoe lo | some e1 => !isNoe lo && chkE t w.G N sc cm lo e1) && (match (generalizing := false) u with | none => isNoe hi | some e1 => !isNoe hi && chkE t w.G N sc cm hi e1)) = true := h
          simp only [Bool.and_eq_true] at h
          have part : ∀ {b : Ex} {y : Option Expr}, (∀ e, chkE t w.G N sc cm b e = true → PE X e (tE w ax W o b)) → (match y with | none => isNoe b | some e1 => !isNoe b && chkE t w.G N sc cm b e1) = true → PO X y (tP w ax W o b) := fun {b y} ih q => by
            cases y with
            | none =>
              have q : isNoe b = true := q
              have e : b = .noe := by cases b <;> first | rfl | exact no q
              subst e
              exact part_none
            | some e1 =>
              have q : (!isNoe b && chkE t w.G N sc cm b e1) = true := q
              rw [Bool.and_eq_true] at q
              exact part_some (ih e1 q.2) fun z => by subst z; exact no q.1
          exact e_slc g.hK (chkE_ok E a g tk h.1.1) (part (fun e q => chkE_ok E lo g tk q) h.1.2) (part (fun e q => chkE_ok E hi g tk q) h.2)
      | _ => exact no h
    | _ => exact no h
  | .noe, ea, sc, cm, ax, W, X, g, tk, h => by cases ea <;> exact no h
  | .dnew, ea, sc, cm, ax, W, X, g, tk, h => by
    cases ea with
    | Dict ks vs p =>
      match ks, vs, h with
      | [], [], h => exact e_dnew
      | [], _ :: _, h => exact no h
      | _ :: _, _, h => exact no h
    | _ => exact no h
  | .tup es, ea, sc, cm, ax, W, X, g, tk, h => by
    cases ea with
    | Tuple xs k p =>
      have h : (xs.all notStar && chkEs t w.G N sc cm es xs) = true := h
      rw [Bool.and_eq_true] at h
      exact e_tup (chkEs_ok E es g tk h.1 h.2)
    | _ => exact no h
  | .lst es, ea, sc, cm, ax, W, X, g, tk, h => by
    cases ea with
    | List xs p =>
      have h : (xs.all notStar && chkEs t w.G N sc cm es xs) = true := h
      rw [Bool.and_eq_true] at h
      exact e_lst (chkEs_ok E es g tk h.1 h.2)
    | _ => exact no h
  | .call f es, ea, sc, cm, ax, W, X, g, tk, h => by
    cases ea with
    | Call fn xs kws p =>
      cases kws with
      | cons _ _ => cases fn <;> exact no h
      | nil =>
        cases fn with
        | Name x p2 =>
          have h : (cm && decide (f = x) && glB sc f && t.fns.contains f && xs.all notStar && chkEs t w.G N sc cm es xs) = true := h
          simp only [Bool.and_eq_true, decide_eq_true_eq] at h
          obtain ⟨⟨⟨⟨⟨rfl, rfl⟩, h1⟩, h2⟩, h3⟩, h4⟩ := h
          obtain ⟨k1, k2⟩ := gl_ok g h1
          obtain ⟨k3, k4⟩ := E.nm.fn f (List.contains_iff_mem.mp h2)
          cases xs with
          | nil =>
            cases es with
            | nil => exact e_call0 g E.O1 tk k1 k3 k4 k2
            | cons _ _ => exact no h4
          | cons x1 xs => exact e_call g E.O1 tk k1 k3 k4 k2 h3 (chkEs_ok E es g tk h3 h4)
        | _ => exact no h
    | _ => exact no h
  | .mk c es, ea, sc, cm, ax, W, X, g, tk, h => by
    cases ea with
    | Call fn xs kws p =>
      cases kws with
      | cons _ _ => cases fn <;> first | exact no h | (cases xs <;> exact no h)
      | nil =>
        cases fn with
        | Name x p2 =>
          cases xs with
          | nil => exact no h
          | cons x1 xs =>
            have h : (cm && decide (c = x) && glB sc c && t.cls.contains c && (methOf w.G c "__init__").isSome && (x1 :: xs).all notStar && chkEs t w.G N sc cm es (x1 :: xs)) = true := h
            simp only [Bool.and_eq_true, decide_eq_true_eq] at h
            obtain ⟨⟨⟨⟨⟨⟨rfl, rfl⟩, h1⟩, h2⟩, h5⟩, h3⟩, h4⟩ := h
            have h3 : (x1 :: xs).all notStar = true := by rw [List.all_cons, Bool.and_eq_true]; exact (by simpa using h3)
            obtain ⟨k1, k2⟩ := gl_ok g h1
            exact e_mk E.C g E.O2 tk k1 (E.nm.cl c (List.contains_iff_mem.mp h2)) k2 h3 h5 (chkEs_ok E es g tk h3 h4)
        | _ => exact no h
    | _ => exact no h
  | .meth a m es, ea, sc, cm, ax, W, X, g, tk, h => by
    cases ea with
    | Call fn xs kws p =>
      cases kws with
      | cons _ _ => cases fn <;> exact no h
      | nil =>
        cases fn with
        | Attribute e1 m' p2 =>
          have h : (cm && decide (m = m') && (p2.endLine == p.line) && noSuper e1 && xs.all notStar && decide (xs.length < 20) && chkE t w.G N sc cm a e1 && chkEs t w.G N sc cm es xs) = true := h
          simp only [Bool.and_eq_true] at h
          obtain ⟨⟨⟨⟨⟨⟨⟨h0, h1⟩, h2⟩, h3⟩, h4⟩, h5⟩, h6⟩, h7⟩ := h
          obtain rfl := of_decide_eq_true h1
          subst h0
          cases xs with
          | nil =>
            cases es with
            | nil => exact e_meth0 E.F E.C g E.O1 tk h2 h3 (chkE_ok E a g tk h6)
            | cons _ _ => exact no h7
          | cons x1 xs => exact e_meth E.F E.C g E.O1 tk h2 (few_ok h4 h5) h3 h4 (chkE_ok E a g tk h6) (chkEs_ok E es g tk h4 h7)
        | _ => exact no h
    | _ => exact no h
  | .bf f es, ea, sc, cm, ax, W, X, g, tk, h => by
    cases ea with
    | Call fn xs kws p =>
      cases kws with
      | cons _ _ => cases fn <;> first | exact no h | (cases xs <;> exact no h)
      | nil =>
        cases fn with
        | Name x p2 =>
          cases xs with
          | nil => exact no h
          | cons x1 xs =>
            have h : ((cm || !f.cold) && decide (x = f.name) && glB sc f.name && t.blt.contains f.name && (x1 :: xs).all notStar && chkEs t w.G N sc cm es (x1 :: xs)) = true := h
            rw [Bool.and_eq_true, Bool.and_eq_true, Bool.and_eq_true, Bool.and_eq_true, Bool.and_eq_true] at h
            obtain ⟨⟨⟨⟨⟨h0, h1⟩, h2⟩, h3⟩, h4⟩, h5⟩ := h
            obtain rfl := of_decide_eq_true h1
            obtain ⟨k1, k2⟩ := gl_ok g h2
            refine e_bf E.F g.hK g.hr (fun q => g.hc ?_) k1 (by rw [g.hm]; exact E.nm.bl _ (List.contains_iff_mem.mp h3)) h4 (chkEs_ok E es g tk h4 h5)
            rw [q] at h0
            simpa using h0
        | _ => exact no h
    | _ => exact no h
  | .bm a k es, ea, sc, cm, ax, W, X, g, tk, h => by
    cases ea with
    | Call fn xs kws p =>
      cases kws with
      | cons _ _ => cases fn <;> first | exact no h | (cases xs <;> exact no h)
      | nil =>
        cases fn with
        | Attribute e1 m' p2 =>
          cases xs with
          | nil => exact no h
          | cons x1 xs =>
            have h : (k.here && decide (m' = k.name) && (p2.endLine == p.line) && noSuper e1 && (x1 :: xs).all notStar && decide ((x1 :: xs).length < 30) && chkE t w.G N sc cm a e1 && chkEs t w.G N sc cm es (x1 :: xs)) = true := h
            rw [Bool.and_eq_true, Bool.and_eq_true, Bool.and_eq_true, Bool.and_eq_true, Bool.and_eq_true, Bool.and_eq_true, Bool.and_eq_true] at h
            obtain ⟨⟨⟨⟨⟨⟨⟨h0, h1⟩, h2⟩, h3⟩, h4⟩, h5⟩, h6⟩, h7⟩ := h
            obtain rfl := of_decide_eq_true h1
            exact e_bm h0 E.F g.hK h2 h3 h4 h5 (chkE_ok E a g tk h6) (chkEs_ok E es g tk h4 h7)
        | _ => exact no h
    | _ => exact no h
  | .cv i es, ea, sc, cm, ax, W, X, g, tk, h => by
    cases ea with
    | Call fn xs kws p =>
      cases kws with
      | cons _ _ => cases fn <;> first | exact no h | (cases xs <;> exact no h)
      | nil =>
        cases fn with
        | Name x p2 =>
          cases xs with
          | nil => exact no h
          | cons x1 xs =>
            have h : (cm && decide (N[i]? = some x) && visB sc x && (x1 :: xs).all notStar && chkEs t w.G N sc cm es (x1 :: xs)) = true := h
            rw [Bool.and_eq_true, Bool.and_eq_true, Bool.and_eq_true, Bool.and_eq_true] at h
            obtain ⟨⟨⟨⟨h0, h1⟩, h2⟩, h4⟩, h5⟩ := h
            subst h0
            obtain ⟨k1, k2, k3⟩ := vis_ok g h2
            exact e_cv E.F g E.O1 tk (by rw [g.hN]; exact of_decide_eq_true h1) k1 k2 k3 h4 (chkEs_ok E es g tk h4 h5)
        | _ => exact no h
    | _ => exact no h
  | .lc e own tg it cd, ea, sc, cm, ax, W, X, g, tk, h => by
    cases ea with
    | ListComp elt gens scope p =>
      match gens, h with
      | [], h => exact no h
      | ⟨_, _, _, _⟩ :: _ :: _, h => exact no h
      | [⟨tgt, iter, ifs, isa⟩], h =>
        have h : (decide (isa = 0) && cm && blkC N sc scope (own.map fun i => ((N[i]?).getD "", i)) && tg.all (fun i => own.contains i) && noSetI iter && chkI t w.G N sc cm it tg.length tgt iter && chkTg false N (relS scope sc) tg tgt &&
          (match (generalizing := false) ifs with
          | [] => (match (generalizing := false) cd with | .yes => true | _ => false)
          | [c] => chkT t w.G N (relS scope sc) cm cd c
          | _ => false) && chkE t w.G N (relS scope sc) cm e elt) = true := h
        rw [Bool.and_eq_true, Bool.and_eq_true, Bool.and_eq_true, Bool.and_eq_true, Bool.and_eq_true, Bool.and_eq_true, Bool.and_eq_true, Bool.and_eq_true] at h
        obtain ⟨⟨⟨⟨⟨⟨⟨⟨hz, h0⟩, h1⟩, h2⟩, h3⟩, h4⟩, h5⟩, h6⟩, h7⟩ := h
        obtain rfl := of_decide_eq_true hz
        subst h0
        have hown : (own.map fun i => (((N[i]?).getD "", i) : Str × Nat)).map (·.2) = own := by
          rw [List.map_map]
          exact List.map_id own
        have hts : ∀ Y, blkX X scope Y → PTs Y ifs (tT w none WF o cd) := fun Y hy => by
          cases ifs with
          | nil =>
            have : cd = .yes := by cases cd <;> first | rfl | exact no h6
            subst this
            exact t_yes
          | cons c r =>
            cases r with
            | nil => exact pts_one (chkT_ok E cd (g.blk hy) (takes_blk hy) h6).1
            | cons _ _ => exact no h6
        have z := e_lc (own := own.map fun i => ((N[i]?).getD "", i)) (e := e) (cd := cd) (tgl := tg) (it := it) (pos := p) (elt := elt) (iter := iter) (ifs := ifs) (W := W) (tg := tgt) g h1 (fun i hi => by rw [hown]; exact List.contains_iff_mem.mp (List.all_eq_true.mp h2 i hi)) h3 (chkI_ok E it g tk h4) (fun Y hy => chkTg_ok (fun z => no z) (g.blk hy) h5) hts (fun Y hy => chkE_ok E e (g.blk hy) (takes_blk hy) h7)
        rw [hown] at z
        exact z
    | _ => exact no h
  | .lam k fv, ea, sc, cm, ax, W, X, g, tk, h => by cases ea <;> exact no h
  | .callk f p0 es ks, ea, sc, cm, ax, W, X, g, tk, h => by
    cases ea with
    | Call fn xs kws p =>
      cases fn with
      | Name x p2 =>
        cases xs with
        | nil => exact no h
        | cons x1 xs =>
          have h : (cm && decide (f = x) && glB sc f && t.fns.contains f && (x1 :: xs).all notStar && kwNames kws p0.ks && chkEs t w.G N sc cm es (x1 :: xs) && chkKs t w.G N sc cm ks kws) = true := h
          rw [Bool.and_eq_true, Bool.and_eq_true, Bool.and_eq_true, Bool.and_eq_true, Bool.and_eq_true, Bool.and_eq_true, Bool.and_eq_true] at h
          obtain ⟨⟨⟨⟨⟨⟨⟨h0, h00⟩, h1⟩, h2⟩, h3⟩, h6⟩, h4⟩, h5⟩ := h
          obtain rfl := of_decide_eq_true h00
          subst h0
          obtain ⟨k1, k2⟩ := gl_ok g h1
          obtain ⟨k3, k4⟩ := E.nm.fn f (List.contains_iff_mem.mp h2)
          exact e_callk g E.K1 tk k1 k3 k4 k2 h3 h6 (chkEs_ok E es g tk h3 h4) (chkKs_ok E ks g tk h5)
      | _ => cases xs <;> exact no h
    | _ => exact no h
  | .mkk c p0 es ks, ea, sc, cm, ax, W, X, g, tk, h => by
    cases ea with
    | Call fn xs kws p =>
      cases fn with
      | Name x p2 =>
        cases xs with
        | nil => exact no h
        | cons x1 xs =>
          have h : (cm && decide (c = x) && glB sc c && t.cls.contains c && (methOf w.G c "__init__").isSome && (x1 :: xs).all notStar && kwNames kws p0.ks && chkEs t w.G N sc cm es (x1 :: xs) && chkKs t w.G N sc cm ks kws) = true := h
          rw [Bool.and_eq_true, Bool.and_eq_true, Bool.and_eq_true, Bool.and_eq_true, Bool.and_eq_true, Bool.and_eq_true, Bool.and_eq_true, Bool.and_eq_true] at h
          obtain ⟨⟨⟨⟨⟨⟨⟨⟨h0, h00⟩, h1⟩, h2⟩, h7⟩, h3⟩, h6⟩, h4⟩, h5⟩ := h
          obtain rfl := of_decide_eq_true h00
          subst h0
          obtain ⟨k1, k2⟩ := gl_ok g h1
          exact e_mkk E.C g E.K2 tk k1 (E.nm.cl c (List.contains_iff_mem.mp h2)) k2 h3 h6 h7 (chkEs_ok E es g tk h3 h4) (chkKs_ok E ks g tk h5)
      | _ => cases xs <;> exact no h
    | _ => exact no h
  | .cmpo op a b, ea, sc, cm, ax, W, X, g, tk, h => by
    cases ea with
    | Compare e1 ops es p =>
      match ops, es, h with
      | [op'], [e2], h =>
        have h : (cm && decide (op = op') && noSet e2 && chkE t w.G N sc cm a e1 && chkE t w.G N sc cm b e2) = true := h
        simp only [Bool.and_eq_true, decide_eq_true_eq] at h
        obtain ⟨⟨⟨⟨rfl, rfl⟩, h0⟩, h1⟩, h2⟩ := h
        exact e_cmpo E.F E.C g E.O1 E.O2 h0 (chkE_ok E a g tk h1) (chkE_ok E b g tk h2)
      | [], _, h => exact no h
      | [_], [], h => exact no h
      | [_], _ :: _ :: _, h => exact no h
      | _ :: _ :: _, _, h => exact no h
    | _ => exact no h
theorem chkT_ok (E : Evd w t P wl base j o) : ∀ (e : Tt) {ea : Expr} {sc : Scope} {cm : Bool} {ax : Ax} {W : WX} {X : Cx}, Good w ax P wl base (j + 1) N sc cm X → Takes X W → chkT t w.G N sc cm e ea = true → PT X ea (tT w ax W o e) ∧ (isBop ea = true → PW X ea (tT w ax W o e))
  | .val e, ea, sc, cm, ax, W, X, g, tk, h => by
    have h : ((plainT ea || isCmp ea) && chkE t w.G N sc cm e ea) = true := h
    rw [Bool.and_eq_true] at h
    refine ⟨?_, fun z => by cases ea <;> first | exact no z | exact no h.1⟩
    cases hp : plainT ea with
    | true => exact t_val E.F g.hK hp (chkE_ok E e g tk h.2)
    | false =>
      rw [hp, Bool.false_or] at h
      obtain ⟨hc, h⟩ := h
      cases ea with
      | Compare e1 ops es p =>
        cases e with
        | cmp op a b =>
          match ops, es, h with
          | [op'], [e2], h =>
            have h : (decide (op = op') && noSet e2 && chkE t w.G N sc cm a e1 && chkE t w.G N sc cm b e2) = true := h
            simp only [Bool.and_eq_true, decide_eq_true_eq] at h
            obtain ⟨⟨⟨rfl, h0⟩, h1⟩, h2⟩ := h
            exact t_cmp E.F g.hK g.hr.units h0 (chkE_ok E a g tk h1) (chkE_ok E b g tk h2)
          | [], _, h => exact no h
          | [_], [], h => exact no h
          | [_], _ :: _ :: _, h => exact no h
          | _ :: _ :: _, _, h => exact no h
        | chain op op2 a b c =>
          match ops, es, h with
          | [op', op2'], [e2, e3], h =>
            have h : (decide (op = op') && decide (op2 = op2') && noSet e2 && noSet e3 && chkE t w.G N sc cm a e1 && chkE t w.G N sc cm b e2 && chkE t w.G N sc cm c e3) = true := h
            simp only [Bool.and_eq_true, decide_eq_true_eq] at h
            obtain ⟨⟨⟨⟨⟨⟨rfl, rfl⟩, h0⟩, h3⟩, h1⟩, h2⟩, h4⟩ := h
            exact t_chain E.F g.hK g.hr.units h3 (chkE_ok E a g tk h1) (chkE_ok E b g tk h2) (chkE_ok E c g tk h4)
          | [], _, h => exact no h
          | [_], _, h => exact no h
          | [_, _], [], h => exact no h
          | [_, _], [_], h => exact no h
          | [_, _], _ :: _ :: _ :: _, h => exact no h
          | _ :: _ :: _ :: _, _, h => exact no h
        | cmpo op a b =>
          match ops, es, h with
          | [op'], [e2], h =>
            have h : (cm && decide (op = op') && noSet e2 && chkE t w.G N sc cm a e1 && chkE t w.G N sc cm b e2) = true := h
            simp only [Bool.and_eq_true, decide_eq_true_eq] at h
            obtain ⟨⟨⟨⟨rfl, rfl⟩, h0⟩, h1⟩, h2⟩ := h
            exact t_cmpo E.F E.C g E.O1 E.O2 h0 (chkE_ok E a g tk h1) (chkE_ok E b g tk h2)
          | [], _, h => exact no h
          | [_], [], h => exact no h
          | [_], _ :: _ :: _, h => exact no h
          | _ :: _ :: _, _, h => exact no h
        | cst v => cases v <;> exact no h
        | _ => exact no h
      | _ => exact no hc
  | .yes, ea, sc, cm, ax, W, X, g, tk, h => by cases ea <;> exact no h
  | .and a b, ea, sc, cm, ax, W, X, g, tk, h => by
    cases ea with
    | BoolOp op es p =>
      cases op with
      | Or => exact no h
      | And =>
        match es, h with
        | [], h => exact no h
        | [_], h => exact no h
        | e1 :: e2 :: rest, h =>
          have h : (chkT t w.G N sc cm a e1 && (if rest.isEmpty then chkT t w.G N sc cm b e2 else chkT t w.G N sc cm b (.BoolOp .And (e2 :: rest) p))) = true := h
          rw [Bool.and_eq_true] at h
          have q : PW X (.BoolOp .And (e1 :: e2 :: rest) p) (tT w ax W o (.and a b)) := by
            refine t_and (chkT_ok E a g tk h.1).1 ?_
            cases rest with
            | nil => exact pw_and1 (chkT_ok E b g tk h.2).1
            | cons e3 rest => exact (chkT_ok E b g tk h.2).2 rfl
          exact ⟨q.pt, fun _ => q⟩
    | _ => exact no h
  | .or a b, ea, sc, cm, ax, W, X, g, tk, h => by
    cases ea with
    | BoolOp op es p =>
      cases op with
      | And => exact no h
      | Or =>
        match es, h with
        | [], h => exact no h
        | [_], h => exact no h
        | e1 :: e2 :: rest, h =>
          have h : (chkT t w.G N sc cm a e1 && (if rest.isEmpty then chkT t w.G N sc cm b e2 else chkT t w.G N sc cm b (.BoolOp .Or (e2 :: rest) p))) = true := h
          rw [Bool.and_eq_true] at h
          have q : PW X (.BoolOp .Or (e1 :: e2 :: rest) p) (tT w ax W o (.or a b)) := by
            refine t_or (chkT_ok E a g tk h.1).1 ?_
            cases rest with
            | nil => exact pw_or1 (chkT_ok E b g tk h.2).1
            | cons e3 rest => exact (chkT_ok E b g tk h.2).2 rfl
          exact ⟨q.pt, fun _ => q⟩
    | _ => exact no h
  | .not a, ea, sc, cm, ax, W, X, g, tk, h => by
    cases ea with
    | UnaryOp op e1 p => cases op <;> first | exact no h | exact ⟨t_not (chkT_ok E a g tk h).1, fun z => no z⟩
    | _ => exact no h
theorem chkI_ok (E : Evd w t P wl base j o) : ∀ (it : It) {n : Nat} {tgt ea : Expr} {sc : Scope} {cm : Bool} {ax : Ax} {W : WX} {X : Cx}, Good w ax P wl base (j + 1) N sc cm X → Takes X W → chkI t w.G N sc cm it n tgt ea = true → PI X tgt ea (tI w ax W o n it)
  | .val e, n, tgt, ea, sc, cm, ax, W, X, g, tk, h => i_val E.F g.hK (chkE_ok E e g tk h)
  | .rng .nil, n, tgt, ea, sc, cm, ax, W, X, g, tk, h => no h
  | .rng (.cons a .nil), n, tgt, ea, sc, cm, ax, W, X, g, tk, h => by
    cases ea with
    | Call fn xs kws p =>
      cases fn with
      | Name x p2 =>
        match xs, kws, h with
        | [e1], [], h =>
          have h : (decide (x = ("range" : Str)) && glB sc x && t.blt.contains x && notStar e1 && chkE t w.G N sc cm a e1) = true := h
          simp only [Bool.and_eq_true, decide_eq_true_eq] at h
          obtain ⟨⟨⟨⟨rfl, h1⟩, h2⟩, h3⟩, h4⟩ := h
          exact i_rng1 (gl_ok g h1).1 (by rw [g.hm]; exact E.nm.bl _ (List.contains_iff_mem.mp h2)) h3 (as_cons h3 (chkE_ok E a g tk h4) as_nil)
        | [], _, h => exact no h
        | [_], _ :: _, h => exact no h
        | _ :: _ :: _, _, h => exact no h
      | _ => exact no h
    | _ => exact no h
  | .rng (.cons a (.cons b .nil)), n, tgt, ea, sc, cm, ax, W, X, g, tk, h => by
    cases ea with
    | Call fn xs kws p =>
      cases fn with
      | Name x p2 =>
        match xs, kws, h with
        | [e1, e2], [], h =>
          have h : (decide (x = ("range" : Str)) && glB sc x && t.blt.contains x && notStar e1 && notStar e2 && chkE t w.G N sc cm a e1 && chkE t w.G N sc cm b e2) = true := h
          simp only [Bool.and_eq_true, decide_eq_true_eq] at h
          obtain ⟨⟨⟨⟨⟨⟨rfl, h1⟩, h2⟩, h3⟩, h5⟩, h4⟩, h6⟩ := h
          exact i_rng2 (gl_ok g h1).1 (by rw [g.hm]; exact E.nm.bl _ (List.contains_iff_mem.mp h2)) h3 h5 (as_cons h3 (chkE_ok E a g tk h4) (as_cons h5 (chkE_ok E b g tk h6) as_nil))
        | [], _, h => exact no h
        | [_], _, h => exact no h
        | [_, _], _ :: _, h => exact no h
        | _ :: _ :: _ :: _, _, h => exact no h
      | _ => exact no h
    | _ => exact no h
  | .rng (.cons a (.cons b (.cons c .nil))), n, tgt, ea, sc, cm, ax, W, X, g, tk, h => by
    cases ea with
    | Call fn xs kws p =>
      cases fn with
      | Name x p2 =>
        match xs, kws, h with
        | [e1, e2, e3], [], h =>
          have h : (decide (x = ("range" : Str)) && glB sc x && t.blt.contains x && notStar e1 && notStar e2 && notStar e3 && chkE t w.G N sc cm a e1 && chkE t w.G N sc cm b e2 && chkE t w.G N sc cm c e3) = true := h
          simp only [Bool.and_eq_true, decide_eq_true_eq] at h
          obtain ⟨⟨⟨⟨⟨⟨⟨⟨rfl, h1⟩, h2⟩, h3⟩, h5⟩, h7⟩, h4⟩, h6⟩, h8⟩ := h
          exact i_rng3 (gl_ok g h1).1 (by rw [g.hm]; exact E.nm.bl _ (List.contains_iff_mem.mp h2)) h3 (by simp [h5, h7]) (as_cons h3 (chkE_ok E a g tk h4) (as_cons h5 (chkE_ok E b g tk h6) (as_cons h7 (chkE_ok E c g tk h8) as_nil)))
        | [], _, h => exact no h
        | [_], _, h => exact no h
        | [_, _], _, h => exact no h
        | [_, _, _], _ :: _, h => exact no h
        | _ :: _ :: _ :: _ :: _, _, h => exact no h
      | _ => exact no h
    | _ => exact no h
  | .rng (.cons a (.cons b (.cons c (.cons d es)))), n, tgt, ea, sc, cm, ax, W, X, g, tk, h => no h
  | .enm a, n, tgt, ea, sc, cm, ax, W, X, g, tk, h => by
    cases tgt with
    | Tuple elts k p0 =>
      cases ea with
      | Call fn xs kws p =>
        cases fn with
        | Name x p2 =>
          match xs, kws, h with
          | [e1], [], h =>
            have h : (decide (x = ("enumerate" : Str)) && glB sc x && t.blt.contains x && notStar e1 && chkE t w.G N sc cm a e1) = true := h
            simp only [Bool.and_eq_true, decide_eq_true_eq] at h
            obtain ⟨⟨⟨⟨rfl, h1⟩, h2⟩, h3⟩, h4⟩ := h
            exact i_enm E.F g.hK (gl_ok g h1).1 (by rw [g.hm]; exact E.nm.bl _ (List.contains_iff_mem.mp h2)) h3 (chkE_ok E a g tk h4)
          | [], _, h => exact no h
          | [_], _ :: _, h => exact no h
          | _ :: _ :: _, _, h => exact no h
        | _ => exact no h
      | _ => exact no h
    | _ => exact no h
  | .zp a b, n, tgt, ea, sc, cm, ax, W, X, g, tk, h => no h
theorem chkEs_ok (E : Evd w t P wl base j o) : ∀ (es : Exs) {xs : List Expr} {sc : Scope} {cm : Bool} {ax : Ax} {W : WX} {X : Cx}, Good w ax P wl base (j + 1) N sc cm X → Takes X W → xs.all notStar = true → chkEs t w.G N sc cm es xs = true → PA X xs (tEs w ax W o es)
  | .nil, xs, sc, cm, ax, W, X, g, tk, hn, h => by
    cases xs with
    | nil => exact as_nil
    | cons _ _ => exact no h
  | .cons a as, xs, sc, cm, ax, W, X, g, tk, hn, h => by
    cases xs with
    | nil => exact no h
    | cons x1 xs =>
      have h : (chkE t w.G N sc cm a x1 && chkEs t w.G N sc cm as xs) = true := h
      rw [Bool.and_eq_true] at h
      rw [List.all_cons, Bool.and_eq_true] at hn
      exact as_cons hn.1 (chkE_ok E a g tk h.1) (chkEs_ok E as g tk hn.2 h.2)
theorem chkKs_ok (E : Evd w t P wl base j o) : ∀ (es : Exs) {xs : List Keyword} {sc : Scope} {cm : Bool} {ax : Ax} {W : WX} {X : Cx}, Good w ax P wl base (j + 1) N sc cm X → Takes X W → chkKs t w.G N sc cm es xs = true → PK X xs (tEs w ax W o es)
  | .nil, xs, sc, cm, ax, W, X, g, tk, h => by
    cases xs with
    | nil => exact k_nil
    | cons _ _ => exact no h
  | .cons a as, xs, sc, cm, ax, W, X, g, tk, h => by
    match xs, h with
    | [], h => exact no h
    | ⟨nm, x1, kp⟩ :: xs, h =>
      have h : (chkE t w.G N sc cm a x1 && chkKs t w.G N sc cm as xs) = true := h
      rw [Bool.and_eq_true] at h
      exact k_cons (chkE_ok E a g tk h.1) (chkKs_ok E as g tk h.2)
end
end
end Dv

set_option linter.all false
set_option autoImplicit false
set_option maxRecDepth 100000
set_option maxHeartbeats 4000000
namespace Dv
open PySem L2 PySem.Spec PyProof.Rows
/-- does a stored comprehension swap its name (on one line) -/
def swLc (sc : Scope) (value : Expr) (x : Str) (p : Pos) : Bool := match value with
  | .ListComp _ _ scope _ => ((if sc.kind.isAnnotationScope then ScopeKind.function else sc.kind) == .function) && (sc.names.lookup x == some .local) && (p.line == value.pos.line) && !(scope.names.any fun (n, k) => n == x && (k == .local || k == .cell))
  | _ => false
def notSD : Expr → Bool
  | .SetComp _ _ _ _ => false
  | .DictComp _ _ _ _ _ => false
  | _ => true
def nameB (N : List Str) (sc : Scope) : Option Nat → Option Str → Bool
  | none, none => true
  | some i, some n => decide (N[i]? = some n) && decide (sc.names.lookup n = some .local)
  | _, _ => false
section
variable (t : Nm) (G : Tx) (N : List Str) (sc : Scope)
mutual
def chkS : Bool → St → Stmt → Bool
  | _, .skip, .Pass _ => true
  | _, .skip, .Expr (.Constant (.str _) _ _) _ => true
  | cm, .expr e, .Expr ea _ => noComp ea && chkE t G N sc cm e ea
  | cm, .ret e, .Return (some ea) _ => chkE t G N sc cm e ea
  | _, .ret (.cst .non), .Return none _ => true
  | cm, .ifs c a b, .If ec xs ys _ => chkT t G N sc cm c ec && chkSs cm a xs && chkSs cm b ys
  | cm, .asg (.one i) e, .Assign [.Name x p'] ea _ => decide (N[i]? = some x) && locB true sc x && notSD ea && chkE t G N sc cm e ea
  | cm, .asg (.many is) e, .Assign [.Tuple es k p'] ea _ => cm && (is.length != 1) && chkN true N sc is es && decide (swB sc (.Tuple es k p') ea = some none) && noComp ea && chkE t G N sc cm e ea
  | cm, .par [i, j] as, .Assign [.Tuple [.Name x px, .Name y py] kt pt] (.Tuple [ea, eb] k2 pt2) _ => cm && decide (N[i]? = some x) && decide (N[j]? = some y) && decide (i ≠ j) && decide (sc.names.lookup x = some .local) && decide (sc.names.lookup y = some .local) &&
      decide (swB sc (.Tuple [.Name x px, .Name y py] kt pt) (.Tuple [ea, eb] k2 pt2) = some (some [x, y])) && [ea, eb].all notStar && chkEs t G N sc cm as [ea, eb]
  | cm, .par [i, j, l] as, .Assign [.Tuple [.Name x px, .Name y py, .Name z pz] kt pt] (.Tuple [ea, eb, ec] k2 pt2) _ => cm && decide (N[i]? = some x) && decide (N[j]? = some y) && decide (N[l]? = some z) && decide (i ≠ j) && decide (i ≠ l) && decide (j ≠ l) && decide (sc.names.lookup x = some .local) && decide (sc.names.lookup y = some .local) && decide (sc.names.lookup z = some .local) &&
      decide (swB sc (.Tuple [.Name x px, .Name y py, .Name z pz] kt pt) (.Tuple [ea, eb, ec] k2 pt2) = some (some [x, y, z])) && [ea, eb, ec].all notStar && chkEs t G N sc cm as [ea, eb, ec]
  | cm, .fld b f a, .Assign [.Attribute eb f' _] ea _ => decide (f = f') && noComp ea && chkE t G N sc cm b eb && chkE t G N sc cm a ea
  | cm, .seti b c a, .Assign [.Subscript eb ec _] ea _ => noSlice ec && noComp ea && chkE t G N sc cm b eb && chkE t G N sc cm c ec && chkE t G N sc cm a ea
  | cm, .aug i op a, .AugAssign (.Name x _) op' ea _ => decide (N[i]? = some x) && locB true sc x && decide (op = op') && (decide (op = .Add) || decide (op = .Sub)) && chkE t G N sc cm a ea
  | cm, .augf b f .Add a, .AugAssign (.Attribute eb f' _) .Add ea _ => decide (f = f') && chkE t G N sc cm b eb && chkE t G N sc cm a ea
  | cm, .for_ tg it b, .For tgt iter body [] _ => cm && noSetI iter && chkI t G N sc cm it tg.length tgt iter && chkTg true N sc tg tgt && chkSs cm b body
  | cm, .whl c b, .While ec body [] _ => chkT t G N sc cm c ec && chkSs cm b body
  | _, .brk, .Break _ => true
  | _, .cnt, .Continue _ => true
  | cm, .rais c (.cons a .nil), .Raise (some (.Call (.Name x _) [ea] [] _)) none _ => cm && decide (c = x) && glB sc c && t.cls.contains c && ((G.cls c).bind (·.exc)).isSome && notStar ea && chkE t G N sc cm a ea
  | cm, .try_ b hs, .Try body (h0 :: hds) [] [] _ => cm && chkSs cm b body && hndOk G hs && chkH hs (h0 :: hds)
  | _, _, _ => false
def chkSs : Bool → St → List Stmt → Bool
  | _, .skip, [] => true
  | cm, .seq a b, st :: rest => chkS cm a st && chkSs cm b rest
  | _, _, _ => false
def chkH : St → List ExceptHandler → Bool
  | .hnil, [] => true
  | .hnd c sl su rest, .ExceptHandler (some (.Name x _)) nm (st :: suite) _ :: hs => decide (c = x) && glB sc c && t.cls.contains c && nameB N sc sl nm && chkSs false su (st :: suite) && chkH rest hs
  | _, _ => false
end
end
end Dv

set_option linter.all false
set_option autoImplicit false
set_option maxRecDepth 100000
set_option maxHeartbeats 8000000
namespace Dv
open PySem L2 PySem.Spec PyProof.Rows
structure SGood (X : Cx) : Prop where
  st : X.stack = X.env :: X.outer
  fr : X.env.frame = some X.env.locals
  po : PassesOwn (model X.prog X.w) X.A X.env X.xe
  fn : ∀ x, X.fn x = true
section
variable {w : Wd} {o : Orc} {P : Program} {wl : World} {base : Heap} {j : Nat} {N : List Str} {t : Nm} {sc : Scope}
theorem sw_lc {ea : Expr} {x : Str} {p' : Pos} {l : Nat} {env : Env} (hs : env.scope = sc) (hn : notSD ea = true) : swapsWith ea (some (.Name x p')) l env = pure (swLc sc ea x p') := by
  subst hs
  cases ea <;> first | rfl | exact no hn
theorem lc_parts (E : Evd w t P wl base j o) {e : Ex} {own tg : List Nat} {it : It} {cd : Tt} {elt : Expr} {gens : List Comprehension} {scope : Scope} {p : Pos} {cm : Bool} {ax : Ax} {W : WX} {X : Cx} (g : Good w ax P wl base (j + 1) N sc cm X) (tk : Takes X W)
    (h : chkE t w.G N sc cm (.lc e own tg it cd) (.ListComp elt gens scope p) = true) :
    ∃ tgt iter ifs, gens = [⟨tgt, iter, ifs, 0⟩] ∧ cm = true ∧ blkC N sc scope (own.map fun i => ((N[i]?).getD "", i)) = true ∧ (∀ i ∈ tg, i ∈ own) ∧ noSetI iter = true ∧ PI X tgt iter (tI w ax W o tg.length it) ∧ (cm = true → ∀ Y, blkX X scope Y → PG Y tgt (gTg w.K tg)) ∧ (cm = true → ∀ Y, blkX X scope Y → PTs Y ifs (tT w none WF o cd)) ∧ (cm = true → ∀ Y, blkX X scope Y → PE Y elt (tE w none WF o e)) := by
  match gens, h with
  | [], h => exact no h
  | ⟨_, _, _, _⟩ :: _ :: _, h => exact no h
  | [⟨tgt, iter, ifs, isa⟩], h =>
    have h : (decide (isa = 0) && cm && blkC N sc scope (own.map fun i => ((N[i]?).getD "", i)) && tg.all (fun i => own.contains i) && noSetI iter && chkI t w.G N sc cm it tg.length tgt iter && chkTg false N (relS scope sc) tg tgt &&
      (match (generalizing := false) ifs with
      | [] => (match (generalizing := false) cd with | .yes => true | _ => false)
      | [c] => chkT t w.G N (relS scope sc) cm cd c
      | _ => false) && chkE t w.G N (relS scope sc) cm e elt) = true := h
    rw [Bool.and_eq_true, Bool.and_eq_true, Bool.and_eq_true, Bool.and_eq_true, Bool.and_eq_true, Bool.and_eq_true, Bool.and_eq_true, Bool.and_eq_true] at h
    obtain ⟨⟨⟨⟨⟨⟨⟨⟨hz, h0⟩, h1⟩, h2⟩, h3⟩, h4⟩, h5⟩, h6⟩, h7⟩ := h
    obtain rfl := of_decide_eq_true hz
    subst h0
    refine ⟨tgt, iter, ifs, rfl, rfl, h1, fun i hi => List.contains_iff_mem.mp (List.all_eq_true.mp h2 i hi), h3, chkI_ok E it g tk h4, fun _ Y hy => chkTg_ok (fun z => no z) (g.blk hy) h5, fun _ Y hy => ?_, fun _ Y hy => chkE_ok E e (g.blk hy) (takes_blk hy) h7⟩
    cases ifs with
    | nil =>
      have : cd = .yes := by cases cd <;> first | rfl | exact no h6
      subst this
      exact t_yes
    | cons c r =>
      cases r with
      | nil => exact pts_one (chkT_ok E cd (g.blk hy) (takes_blk hy) h6).1
      | cons _ _ => exact no h6
/-- x = e -/
theorem set_ok (E : Evd w t P wl base j o) {e : Ex} {ea : Expr} {i : Nat} {x : Str} {p' pos : Pos} {cm : Bool} {ax : Ax} {W : WX} {X : Cx} (g : Good w ax P wl base (j + 1) N sc cm X) (tk : Takes X W) (sg : SGood X)
    (h1 : N[i]? = some x) (h2 : locB true sc x = true) (h3 : notSD ea = true) (h4 : chkE t w.G N sc cm e ea = true) : PS X (.Assign [.Name x p'] ea pos) (tS w ax W o (.asg (.one i) e)) := by
  obtain ⟨l1, l2⟩ := loc_ok (fun _ x _ => sg.fn x) g.hs h2
  cases hsw : swLc sc ea x p' with
  | false => exact st_set (by rw [g.hN]; exact g.nd) (by rw [g.hN]; exact h1) l1 l2 (by rw [sw_lc g.hs h3, hsw]) (chkE_ok E e g tk h4)
  | true =>
    cases ea with
    | ListComp elt gens scope p =>
      cases e with
      | lc e own tg it cd =>
        obtain ⟨tgt, iter, ifs, rfl, rfl, k1, k2, k3, k4, k5, k6, k7⟩ := lc_parts E g tk h4
        have hown : (own.map fun i => (((N[i]?).getD "", i) : Str × Nat)).map (·.2) = own := by
          rw [List.map_map]
          exact List.map_id own
        have hl : sc.names.lookup x = some .local := by
          unfold swLc at hsw
          simp only [Bool.and_eq_true, beq_iff_eq] at hsw
          exact hsw.1.1.2
        have z := st_setLc (own := own.map fun i => ((N[i]?).getD "", i)) (e := e) (cd := cd) (tgl := tg) (it := it) (pos := pos) (elt := elt) (iter := iter) (ifs := ifs) (W := W) (tg := tgt) (p' := p') (p0 := p) g k1 (fun i hi => by rw [hown]; exact k2 i hi) k3 k4 (k5 rfl) (k6 rfl) (k7 rfl) h1 hl (by rw [sw_lc g.hs h3, hsw])
        rw [hown] at z
        exact z
      | cst v => cases v <;> exact no h4
      | _ => exact no h4
    | _ => exact no hsw
theorem SGood.suite {X : Cx} {a : Addr} {pn : List (Addr × Obj)} (s : SGood X) : SGood (X.suite a pn) := ⟨s.st, s.fr, PassesOwn.never, s.fn⟩
theorem SGood.tr {X : Cx} {pn : List (Addr × Obj)} {xe : Value → Shared → Prop} (s : SGood X) (h : PassesOwn (model X.prog X.w) X.A X.env xe) : SGood (X.tr pn xe) := ⟨s.st, s.fr, h, s.fn⟩
theorem st_some {X : Cx} {sts : List Stmt} {T : Nat → TS} (h : ∀ k, PSs X sts (T k)) : PSs X sts (fun D σ H => ∃ k, T k D σ H) := ⟨fun pins s σ H D I ⟨k, q⟩ => (h k).run pins s σ H D I q⟩
theorem takes_F {X : Cx} : Takes X WF := fun _ _ ⟨_, _, _, _, _, _, _, _, _, _, _, _, _, _, _, _, w⟩ => w.elim
theorem par2_of {i j' : Nat} {as : Exs} {cm : Bool} {st : Stmt} (h : chkS t w.G N sc cm (.par [i, j'] as) st = true) : ∃ x y px py kt pt ea eb k2 pt2 p, st = .Assign [.Tuple [.Name x px, .Name y py] kt pt] (.Tuple [ea, eb] k2 pt2) p := by
  unfold chkS at h
  split at h <;> first | exact no h | exact ⟨_, _, _, _, _, _, _, _, _, _, _, rfl⟩ | contradiction | (rename_i hq; simp at hq)
theorem par3_of {i j' l : Nat} {as : Exs} {cm : Bool} {st : Stmt} (h : chkS t w.G N sc cm (.par [i, j', l] as) st = true) : ∃ x y z px py pz kt pt ea eb ec k2 pt2 p, st = .Assign [.Tuple [.Name x px, .Name y py, .Name z pz] kt pt] (.Tuple [ea, eb, ec] k2 pt2) p := by
  unfold chkS at h
  split at h <;> first | exact no h | exact ⟨_, _, _, _, _, _, _, _, _, _, _, _, _, _, rfl⟩ | contradiction | (rename_i hq; simp at hq)
theorem rais_of {c : Str} {a : Ex} {cm : Bool} {st : Stmt} (h : chkS t w.G N sc cm (.rais c (.cons a .nil)) st = true) : ∃ x p ea p2 p3, st = .Raise (some (.Call (.Name x p) [ea] [] p2)) none p3 := by
  unfold chkS at h
  split at h <;> first | exact no h | exact ⟨_, _, _, _, _, rfl⟩ | contradiction | (rename_i hq; simp at hq)
mutual
theorem chkS_ok (E : Evd w t P wl base j o) (EA : w.ErrAll P) (EX : w.ExmOk) : ∀ (b : St) {st : Stmt} {cm : Bool} {ax : Ax} {W : WX} {X : Cx}, Good w ax P wl base (j + 1) N sc cm X → Takes X W → SGood X → chkS t w.G N sc cm b st = true → PS X st (tS w ax W o b)
  | .skip, st, cm, ax, W, X, g, tk, sg, h => by
    cases st with
    | Pass p => exact st_pass
    | Expr e p =>
      cases e with
      | Constant k i p2 => cases k <;> first | exact no h | exact st_doc
      | _ => exact no h
    | _ => exact no h
  | .expr e, st, cm, ax, W, X, g, tk, sg, h => by
    cases st with
    | Expr ea p =>
      have h : (noComp ea && chkE t w.G N sc cm e ea) = true := h
      rw [Bool.and_eq_true] at h
      exact st_expr h.1 (chkE_ok E e g tk h.2)
    | _ => exact no h
  | .ret e, st, cm, ax, W, X, g, tk, sg, h => by
    cases st with
    | Return v p =>
      cases v with
      | some ea => exact st_ret (chkE_ok E e g tk (show chkE t w.G N sc cm e ea = true by cases e <;> exact h))
      | none =>
        cases e with
        | cst v => cases v <;> first | exact no h | exact st_retN
        | _ => exact no h
    | _ => first | exact no h | (cases e <;> first | exact no h | (rename_i v; cases v <;> exact no h))
  | .seq a b, st, cm, ax, W, X, g, tk, sg, h => by cases st <;> exact no h
  | .ifs c a b, st, cm, ax, W, X, g, tk, sg, h => by
    cases st with
    | If ec xs ys p =>
      have h : (chkT t w.G N sc cm c ec && chkSs t w.G N sc cm a xs && chkSs t w.G N sc cm b ys) = true := h
      simp only [Bool.and_eq_true] at h
      exact st_if (chkT_ok E c g tk h.1.1).1 (chkSs_ok E EA EX a g tk sg h.1.2) (chkSs_ok E EA EX b g tk sg h.2)
    | _ => exact no h
  | .asg (.one i) e, st, cm, ax, W, X, g, tk, sg, h => by
    cases st with
    | Assign tgs ea p =>
      match tgs, h with
      | [], h => exact no h
      | t1 :: _ :: _, h => cases t1 <;> exact no h
      | [tg], h =>
        cases tg with
        | Name x p' =>
          have h : (decide (N[i]? = some x) && locB true sc x && notSD ea && chkE t w.G N sc cm e ea) = true := h
          simp only [Bool.and_eq_true, decide_eq_true_eq] at h
          exact set_ok E g tk sg h.1.1.1 h.1.1.2 h.1.2 h.2
        | _ => exact no h
    | _ => exact no h
  | .asg (.many is) e, st, cm, ax, W, X, g, tk, sg, h => by
    cases st with
    | Assign tgs ea p =>
      match tgs, h with
      | [], h => exact no h
      | t1 :: _ :: _, h => cases t1 <;> exact no h
      | [tg], h =>
        cases tg with
        | Tuple es k p' =>
          have h : (cm && (is.length != 1) && chkN true N sc is es && decide (swB sc (.Tuple es k p') ea = some none) && noComp ea && chkE t w.G N sc cm e ea) = true := h
          rw [Bool.and_eq_true, Bool.and_eq_true, Bool.and_eq_true, Bool.and_eq_true, Bool.and_eq_true] at h
          obtain ⟨⟨⟨⟨⟨rfl, h1⟩, h2⟩, h3⟩, h4⟩, h5⟩ := h
          refine st_many E.F (chkTg_ok (cl := true) (fun _ x _ => sg.fn x) g (show chkTg true N sc is (.Tuple es k p') = true by show ((is.length != 1) && chkN true N sc is es) = true; rw [h1, h2]; rfl)) (sw_ok (by rw [g.hs]; exact of_decide_eq_true h3)) h4 (chkE_ok E e g tk h5)
        | _ => exact no h
    | _ => exact no h
  | .par [] _, st, cm, ax, W, X, g, tk, sg, h => no (by cases st <;> exact h)
  | .par [_] _, st, cm, ax, W, X, g, tk, sg, h => no (by cases st <;> exact h)
  | .par (_ :: _ :: _ :: _ :: _) _, st, cm, ax, W, X, g, tk, sg, h => no (by cases st <;> exact h)
  | .par [i, j'] as, st, cm, ax, W, X, g, tk, sg, h => by
    obtain ⟨x, y, px, py, kt, pt, ea, eb, k2, pt2, p, rfl⟩ : ∃ x y px py kt pt ea eb k2 pt2 p, st = .Assign [.Tuple [.Name x px, .Name y py] kt pt] (.Tuple [ea, eb] k2 pt2) p := par2_of h
    have h : (cm && decide (N[i]? = some x) && decide (N[j']? = some y) && decide (i ≠ j') && decide (sc.names.lookup x = some .local) && decide (sc.names.lookup y = some .local) &&
      decide (swB sc (.Tuple [.Name x px, .Name y py] kt pt) (.Tuple [ea, eb] k2 pt2) = some (some [x, y])) && [ea, eb].all notStar && chkEs t w.G N sc cm as [ea, eb]) = true := h
    rw [Bool.and_eq_true, Bool.and_eq_true, Bool.and_eq_true, Bool.and_eq_true, Bool.and_eq_true, Bool.and_eq_true, Bool.and_eq_true, Bool.and_eq_true] at h
    obtain ⟨⟨⟨⟨⟨⟨⟨⟨rfl, h1⟩, h2⟩, h3⟩, h4⟩, h5⟩, h6⟩, h7⟩, h8⟩ := h
    exact st_par2 (g.hc rfl) (by rw [g.hN]; exact g.nd) (by rw [g.hN]; exact of_decide_eq_true h1) (by rw [g.hN]; exact of_decide_eq_true h2) (of_decide_eq_true h3) (by rw [g.hs]; exact of_decide_eq_true h4) (by rw [g.hs]; exact of_decide_eq_true h5) (sw_ok (by rw [g.hs]; exact of_decide_eq_true h6)) (chkEs_ok E as g tk h7 h8)
  | .par [i, j', l] as, st, cm, ax, W, X, g, tk, sg, h => by
    obtain ⟨x, y, z, px, py, pz, kt, pt, ea, eb, ec, k2, pt2, p, rfl⟩ : ∃ x y z px py pz kt pt ea eb ec k2 pt2 p, st = .Assign [.Tuple [.Name x px, .Name y py, .Name z pz] kt pt] (.Tuple [ea, eb, ec] k2 pt2) p := par3_of h
    have h : (cm && decide (N[i]? = some x) && decide (N[j']? = some y) && decide (N[l]? = some z) && decide (i ≠ j') && decide (i ≠ l) && decide (j' ≠ l) && decide (sc.names.lookup x = some .local) && decide (sc.names.lookup y = some .local) && decide (sc.names.lookup z = some .local) &&
      decide (swB sc (.Tuple [.Name x px, .Name y py, .Name z pz] kt pt) (.Tuple [ea, eb, ec] k2 pt2) = some (some [x, y, z])) && [ea, eb, ec].all notStar && chkEs t w.G N sc cm as [ea, eb, ec]) = true := h
    rw [Bool.and_eq_true, Bool.and_eq_true, Bool.and_eq_true, Bool.and_eq_true, Bool.and_eq_true, Bool.and_eq_true, Bool.and_eq_true, Bool.and_eq_true, Bool.and_eq_true, Bool.and_eq_true, Bool.and_eq_true, Bool.and_eq_true] at h
    obtain ⟨⟨⟨⟨⟨⟨⟨⟨⟨⟨⟨⟨rfl, h1⟩, h2⟩, h3⟩, h4⟩, h5⟩, h6⟩, h7⟩, h8⟩, h9⟩, h10⟩, h11⟩, h12⟩ := h
    exact st_par3 (g.hc rfl) (by rw [g.hN]; exact g.nd) (by rw [g.hN]; exact of_decide_eq_true h1) (by rw [g.hN]; exact of_decide_eq_true h2) (by rw [g.hN]; exact of_decide_eq_true h3) (of_decide_eq_true h4) (of_decide_eq_true h5) (of_decide_eq_true h6) (by rw [g.hs]; exact of_decide_eq_true h7) (by rw [g.hs]; exact of_decide_eq_true h8) (by rw [g.hs]; exact of_decide_eq_true h9) (sw_ok (by rw [g.hs]; exact of_decide_eq_true h10)) (chkEs_ok E as g tk h11 h12)
  | .fld b f a, st, cm, ax, W, X, g, tk, sg, h => by
    cases st with
    | Assign tgs ea p =>
      match tgs, h with
      | [], h => exact no h
      | t1 :: _ :: _, h => cases t1 <;> exact no h
      | [tg], h =>
        cases tg with
        | Attribute eb f' p' =>
          have h : (decide (f = f') && noComp ea && chkE t w.G N sc cm b eb && chkE t w.G N sc cm a ea) = true := h
          simp only [Bool.and_eq_true, decide_eq_true_eq] at h
          obtain ⟨⟨⟨rfl, h1⟩, h2⟩, h3⟩ := h
          exact st_fld E.C g.hK h1 (chkE_ok E b g tk h2) (chkE_ok E a g tk h3)
        | _ => exact no h
    | _ => exact no h
  | .seti b c a, st, cm, ax, W, X, g, tk, sg, h => by
    cases st with
    | Assign tgs ea p =>
      match tgs, h with
      | [], h => exact no h
      | t1 :: _ :: _, h => cases t1 <;> exact no h
      | [tg], h =>
        cases tg with
        | Subscript eb ec p' =>
          have h : (noSlice ec && noComp ea && chkE t w.G N sc cm b eb && chkE t w.G N sc cm c ec && chkE t w.G N sc cm a ea) = true := h
          simp only [Bool.and_eq_true] at h
          obtain ⟨⟨⟨⟨h0, h1⟩, h2⟩, h3⟩, h4⟩ := h
          exact st_seti h0 h1 (chkE_ok E b g tk h2) (chkE_ok E c g tk h3) (chkE_ok E a g tk h4)
        | _ => exact no h
    | _ => exact no h
  | .aug i op a, st, cm, ax, W, X, g, tk, sg, h => by
    cases st with
    | AugAssign tg op' ea p =>
      cases tg with
      | Name x p' =>
        have h : (decide (N[i]? = some x) && locB true sc x && decide (op = op') && (decide (op = .Add) || decide (op = .Sub)) && chkE t w.G N sc cm a ea) = true := h
        simp only [Bool.and_eq_true, Bool.or_eq_true, decide_eq_true_eq] at h
        obtain ⟨⟨⟨⟨h1, h2⟩, rfl⟩, h3⟩, h4⟩ := h
        obtain ⟨l1, l2⟩ := loc_ok (fun _ x _ => sg.fn x) g.hs h2
        exact st_aug (by rw [g.hN]; exact g.nd) (by rw [g.hN]; exact h1) l1 l2 h3 (chkE_ok E a g tk h4)
      | _ => exact no h
    | _ => exact no h
  | .augf b f op a, st, cm, ax, W, X, g, tk, sg, h => by
    cases op with
    | Add =>
      cases st with
      | AugAssign tg op' ea p =>
        cases tg with
        | Attribute eb f' p' =>
          cases op' with
          | Add =>
            have h : (decide (f = f') && chkE t w.G N sc cm b eb && chkE t w.G N sc cm a ea) = true := h
            simp only [Bool.and_eq_true, decide_eq_true_eq] at h
            obtain ⟨⟨rfl, h1⟩, h2⟩ := h
            exact st_augf E.C g.hK (chkE_ok E b g tk h1) (chkE_ok E a g tk h2)
          | _ => exact no h
        | _ => exact no h
      | _ => exact no h
    | _ => cases st <;> exact no h
  | .for_ tg it b, st, cm, ax, W, X, g, tk, sg, h => by
    cases st with
    | For tgt iter body els p =>
      cases els with
      | cons _ _ => exact no h
      | nil =>
        have h : (cm && noSetI iter && chkI t w.G N sc cm it tg.length tgt iter && chkTg true N sc tg tgt && chkSs t w.G N sc cm b body) = true := h
        rw [Bool.and_eq_true, Bool.and_eq_true, Bool.and_eq_true, Bool.and_eq_true] at h
        obtain ⟨⟨⟨⟨rfl, h1⟩, h2⟩, h3⟩, h4⟩ := h
        exact st_for sg.po (g.hc rfl) h1 (chkI_ok E it g tk h2) (chkTg_ok (cl := true) (fun _ x _ => sg.fn x) g h3) (chkSs_ok E EA EX b g tk sg h4)
    | _ => exact no h
  | .whl c b, st, cm, ax, W, X, g, tk, sg, h => by
    cases st with
    | While ec body els p =>
      cases els with
      | cons _ _ => exact no h
      | nil =>
        have h : (chkT t w.G N sc cm c ec && chkSs t w.G N sc cm b body) = true := h
        rw [Bool.and_eq_true] at h
        exact st_whl sg.po (chkT_ok E c g tk h.1).1 (chkSs_ok E EA EX b g tk sg h.2)
    | _ => exact no h
  | .brk, st, cm, ax, W, X, g, tk, sg, h => by
    cases st with
    | Break p => exact st_brk
    | _ => exact no h
  | .cnt, st, cm, ax, W, X, g, tk, sg, h => by
    cases st with
    | Continue p => exact st_cnt
    | _ => exact no h
  | .rais c .nil, st, cm, ax, W, X, g, tk, sg, h => no (by cases st <;> exact h)
  | .rais c (.cons _ (.cons _ _)), st, cm, ax, W, X, g, tk, sg, h => no (by cases st <;> exact h)
  | .rais c (.cons a .nil), st, cm, ax, W, X, g, tk, sg, h => by
    obtain ⟨x, p, ea, p2, p3, rfl⟩ : ∃ x p ea p2 p3, st = .Raise (some (.Call (.Name x p) [ea] [] p2)) none p3 := rais_of h
    have h : (cm && decide (c = x) && glB sc c && t.cls.contains c && ((w.G.cls c).bind (·.exc)).isSome && notStar ea && chkE t w.G N sc cm a ea) = true := h
    rw [Bool.and_eq_true, Bool.and_eq_true, Bool.and_eq_true, Bool.and_eq_true, Bool.and_eq_true, Bool.and_eq_true] at h
    obtain ⟨⟨⟨⟨⟨⟨rfl, h1⟩, h2⟩, h3⟩, h4⟩, h5⟩, h6⟩ := h
    obtain rfl := of_decide_eq_true h1
    obtain ⟨k1, k2⟩ := gl_ok g h2
    exact st_raise EA g tk E.nm.sup k1 (E.nm.cl c (List.contains_iff_mem.mp h3)) k2 h5 h4 (chkE_ok E a g tk h6)
  | .try_ b hs, st, cm, ax, W, X, g, tk, sg, h => by
    cases st with
    | Try body hds els fin p =>
      match hds, els, fin, h with
      | [], _, _, h => exact no h
      | _ :: _, _ :: _, _, h => exact no h
      | _ :: _, [], _ :: _, h => exact no h
      | h0 :: hds, [], [], h =>
        have h : (cm && chkSs t w.G N sc cm b body && hndOk w.G hs && chkH t w.G N sc hs (h0 :: hds)) = true := h
        rw [Bool.and_eq_true, Bool.and_eq_true, Bool.and_eq_true] at h
        obtain ⟨⟨⟨rfl, h1⟩, h2⟩, h3⟩ := h
        have ea := g.nx rfl
        subst ea
        exact st_try EX g tk sg.st sg.fr (fun W' pn xe tk' po => chkSs_ok E EA EX b g.tr tk' (sg.tr po) h1) (chkH_ok E EA EX hs g sg h3) h2
    | _ => exact no h
  | .hnd c sl su r, st, cm, ax, W, X, g, tk, sg, h => by cases st <;> exact no h
  | .hnil, st, cm, ax, W, X, g, tk, sg, h => by cases st <;> exact no h
theorem chkSs_ok (E : Evd w t P wl base j o) (EA : w.ErrAll P) (EX : w.ExmOk) : ∀ (b : St) {sts : List Stmt} {cm : Bool} {ax : Ax} {W : WX} {X : Cx}, Good w ax P wl base (j + 1) N sc cm X → Takes X W → SGood X → chkSs t w.G N sc cm b sts = true → PSs X sts (tS w ax W o b)
  | .skip, sts, cm, ax, W, X, g, tk, sg, h => by
    cases sts with
    | nil => exact st_nil
    | cons _ _ => exact no h
  | .seq a b, sts, cm, ax, W, X, g, tk, sg, h => by
    cases sts with
    | nil => exact no h
    | cons st rest =>
      have h : (chkS t w.G N sc cm a st && chkSs t w.G N sc cm b rest) = true := h
      rw [Bool.and_eq_true] at h
      exact st_cons (chkS_ok E EA EX a g tk sg h.1) (chkSs_ok E EA EX b g tk sg h.2)
  | .expr _, sts, cm, ax, W, X, g, tk, sg, h => no (by cases sts <;> exact h)
  | .ret _, sts, cm, ax, W, X, g, tk, sg, h => no (by cases sts <;> exact h)
  | .ifs _ _ _, sts, cm, ax, W, X, g, tk, sg, h => no (by cases sts <;> exact h)
  | .asg _ _, sts, cm, ax, W, X, g, tk, sg, h => no (by cases sts <;> exact h)
  | .par _ _, sts, cm, ax, W, X, g, tk, sg, h => no (by cases sts <;> exact h)
  | .fld _ _ _, sts, cm, ax, W, X, g, tk, sg, h => no (by cases sts <;> exact h)
  | .seti _ _ _, sts, cm, ax, W, X, g, tk, sg, h => no (by cases sts <;> exact h)
  | .aug _ _ _, sts, cm, ax, W, X, g, tk, sg, h => no (by cases sts <;> exact h)
  | .augf _ _ _ _, sts, cm, ax, W, X, g, tk, sg, h => no (by cases sts <;> exact h)
  | .for_ _ _ _, sts, cm, ax, W, X, g, tk, sg, h => no (by cases sts <;> exact h)
  | .whl _ _, sts, cm, ax, W, X, g, tk, sg, h => no (by cases sts <;> exact h)
  | .brk, sts, cm, ax, W, X, g, tk, sg, h => no (by cases sts <;> exact h)
  | .cnt, sts, cm, ax, W, X, g, tk, sg, h => no (by cases sts <;> exact h)
  | .rais _ _, sts, cm, ax, W, X, g, tk, sg, h => no (by cases sts <;> exact h)
  | .try_ _ _, sts, cm, ax, W, X, g, tk, sg, h => no (by cases sts <;> exact h)
  | .hnd _ _ _ _, sts, cm, ax, W, X, g, tk, sg, h => no (by cases sts <;> exact h)
  | .hnil, sts, cm, ax, W, X, g, tk, sg, h => no (by cases sts <;> exact h)
theorem chkH_ok (E : Evd w t P wl base j o) (EA : w.ErrAll P) (EX : w.ExmOk) : ∀ (hs : St) {hds : List ExceptHandler} {X : Cx}, Good w none P wl base (j + 1) N sc true X → SGood X → chkH t w.G N sc hs hds = true → MixOk X hds (clz w o hs)
  | .hnil, hds, X, g, sg, h => by
    cases hds with
    | nil => exact .nil
    | cons _ _ => exact no h
  | .hnd c sl su r, hds, X, g, sg, h => by
    cases hds with
    | nil => exact no h
    | cons hd hds =>
      cases hd with
      | ExceptHandler ty nm body p =>
        cases ty with
        | none => exact no h
        | some te =>
          cases te with
          | Name x np =>
            cases body with
            | nil => exact no h
            | cons st suite =>
              have h : (decide (c = x) && glB sc c && t.cls.contains c && nameB N sc sl nm && chkSs t w.G N sc false su (st :: suite) && chkH t w.G N sc r hds) = true := h
              rw [Bool.and_eq_true, Bool.and_eq_true, Bool.and_eq_true, Bool.and_eq_true, Bool.and_eq_true] at h
              obtain ⟨⟨⟨⟨⟨h1, h2⟩, h3⟩, h4⟩, h5⟩, h6⟩ := h
              obtain rfl := of_decide_eq_true h1
              obtain ⟨k1, k2⟩ := gl_ok g h2
              refine .cons (z := ⟨.ref (w.D.ca c), sl, fun a cls d D σ H => ∃ k, tS w (some (k, a, cls, d)) WF o su D σ H⟩) ⟨k1, k2, .inl (by rw [g.hm]; exact E.nm.cl c (List.contains_iff_mem.mp h3))⟩ ?_ (fun a oe cls d pn hz hf => st_some fun k => chkSs_ok E EA EX su (g.suite hz hf) takes_F sg.suite h5) (chkH_ok E EA EX r g sg h6)
              cases sl with
              | none => cases nm with
                | none => trivial
                | some _ => exact no h4
              | some i => cases nm with
                | none => exact no h4
                | some n =>
                  have h4 : (decide (N[i]? = some n) && decide (sc.names.lookup n = some .local)) = true := h4
                  simp only [Bool.and_eq_true, decide_eq_true_eq] at h4
                  exact ⟨by rw [g.hN]; exact h4.1, by show X.env.scope.names.lookup n = _; rw [g.hs]; exact h4.2⟩
          | _ => exact no h
  | .skip, hds, X, g, sg, h => no (by cases hds <;> exact h)
  | .seq _ _, hds, X, g, sg, h => no (by cases hds <;> exact h)
  | .expr _, hds, X, g, sg, h => no (by cases hds <;> exact h)
  | .ret _, hds, X, g, sg, h => no (by cases hds <;> exact h)
  | .ifs _ _ _, hds, X, g, sg, h => no (by cases hds <;> exact h)
  | .asg _ _, hds, X, g, sg, h => no (by cases hds <;> exact h)
  | .par _ _, hds, X, g, sg, h => no (by cases hds <;> exact h)
  | .fld _ _ _, hds, X, g, sg, h => no (by cases hds <;> exact h)
  | .seti _ _ _, hds, X, g, sg, h => no (by cases hds <;> exact h)
  | .aug _ _ _, hds, X, g, sg, h => no (by cases hds <;> exact h)
  | .augf _ _ _ _, hds, X, g, sg, h => no (by cases hds <;> exact h)
  | .for_ _ _ _, hds, X, g, sg, h => no (by cases hds <;> exact h)
  | .whl _ _, hds, X, g, sg, h => no (by cases hds <;> exact h)
  | .brk, hds, X, g, sg, h => no (by cases hds <;> exact h)
  | .cnt, hds, X, g, sg, h => no (by cases hds <;> exact h)
  | .rais _ _, hds, X, g, sg, h => no (by cases hds <;> exact h)
  | .try_ _ _, hds, X, g, sg, h => no (by cases hds <;> exact h)
end
end
end Dv

set_option linter.all false
set_option autoImplicit false
set_option maxRecDepth 100000
set_option maxHeartbeats 4000000
namespace Dv
open PySem L2 PySem.Spec PyProof.Rows
/-- a def of the text, as it was written -/
structure FnTx (w : Wd) (t : Nm) (f : Str) (fi : Fn) : Prop where
  ex : ∃ (name qual : Str) (params : Arguments) (body : List Stmt) (scope : Scope) (dV kV doc pm cdv ct oc : Value) (an od : Option Addr) (osl : Array (Option Value)) (N ps : List Str),
    w.K.lookup (w.D.fa f) = some ⟨oc, od, .func (PySem.W.fnOf name qual params body scope dV kV doc pm an cdv ct), osl⟩ ∧ PySem.W.codeIn w.K cdv qual = true ∧ FnScope N ps scope ∧ ps.length = fi.np ∧ N.length = fi.ns ∧
    PySem.W.keepIn w.K (.ref (w.D.fa f)) = true ∧ (fi.kw = [] → Binds w.K (PySem.W.fnOf name qual params body scope dV kV doc pm an cdv ct) ps []) ∧ (∀ p ∈ fi.kw, KbP w (PySem.W.fnOf name qual params body scope dV kV doc pm an cdv ct) ps p) ∧ chkSs t w.G N scope true fi.body body = true
def Wd.FnAll (w : Wd) (t : Nm) : Prop := ∀ f fi, w.G.fns f = some fi → FnTx w t f fi
structure Txt (w : Wd) (t : Nm) (P : Program) : Prop where
  F : Fac w
  C : w.ClsAll
  nm : w.NmOk t
  EA : w.ErrAll P
  EX : w.ExmOk
  fn : w.FnAll t
section
variable {w : Wd} {P : Program} {wl : World} {base : Heap} {t : Nm}
theorem sl_start {D : Ad} {m : Mp} {vvs : List Vv} {vs : List V} {N : List Str} {k : Nat} (rl : RL D m vvs vs) (hk : N.length - vs.length = k) : SlR D m (vvs.map some ++ List.replicate k none) (L2.start N vs) := by
  unfold L2.start
  refine Paired.app (Paired.mapL rl fun x y r => ⟨y, rfl, r⟩) ?_
  rw [hk]
  clear hk
  induction k with
  | zero => exact .nil
  | succ k ih => exact .cons trivial ih
theorem fn_step (T : Txt w t P) (n : Nat) (O1 : FnsOk w P wl base (n + 1) (run w.G (n + 1))) (O2 : FnsOk w P wl base n (run w.G n)) : FnsOk w P wl base (n + 2) (run w.G (n + 2)) := by
  refine ⟨fun f fi hf => ?_, fun f vs h r e => ?_⟩
  · obtain ⟨name, qual, params, body, scope, dV, kV, doc, pm, cdv, ct, oc, an, od, osl, N, ps, lk, hcd, S, hnp, hns, kp, hb, hkb, chk⟩ := (T.fn f fi hf).ex
    refine ⟨_, ps, hnp, ⟨fun A outer s H args us vs Q E hr hd e0 hbt r hl hsp => ?_⟩, kp, hb, hkb⟩
    obtain ⟨m, h, vvs, r0, rl, sm, ev, post⟩ := hsp
    have KX : w.K.In s.heap := e0.mod.kin.keeps fun b o e => (e0.bs b o e).1
    have lim : s.heap.NoLimit := e0.mod.nolimit.keeps fun b o e => (e0.bs b o e).1
    have hvl : vs.length = ps.length := by rw [r.length]; exact hl
    have hkind : ∀ y ∈ ps.zip us, scope.names.lookup y.1 = some .local ∨ (scope.names.lookup y.1 = some .cell ∧ ((cellsFrom (s.heap.objs.size + 1) scope.names []).lookup y.1).isSome = true) := fun ⟨n, v⟩ hy => by
      rcases S.par n (List.of_mem_zip hy).1 with q | q
      · exact .inl q
      · exact .inr ⟨q, PySem.W.cellsFrom_some _ _ _ (.inl q)⟩
    have hdp := hr.dp
    refine codeAny_call_function (by omega) (KX _ _ lk) rfl S.co S.gen rfl (PySem.W.codeRec_of KX hcd) (hbt _ _ _ _ ?_)
    refine wpAny_newFunctionEnv_cells S.kind hkind fun env he s1 x => ?_
    subst he
    refine ⟨lim.keeps x.toInCall.keep, codeAny_func ?_⟩
    generalize hX : cxOf (L2.CX P wl) P wl w.K w.mg base N qual scope (w.D.fa f) cdv A outer s H E = X
    have I : Inv X [] (L2.start N vs) H s1 := by rw [← hX]; exact inv_start S hd e0 hvl r x
    have g : Good w none P wl base (n + 1) N scope true X := by
      subst hX
      exact ⟨rfl, rfl, rfl, rfl, rfl, rfl, S.nd, rfl, hr.deeper _, fun _ => hd, fun _ => rfl, fun _ => rfl, fun _ _ _ _ z => by cases z⟩
    have tk : Takes X (fun cls d _ H => E cls d H) := by subst hX; exact takes_of rfl rfl rfl rfl
    have sg : SGood X := by subst hX; exact ⟨rfl, rfl, passes_of rfl, fun _ => rfl⟩
    have ht := chkSs_ok (o := (orcOf w.G (run w.G (n + 1)) (run w.G n))) ⟨T.F, T.C, T.nm, O1.pos, O2.pos, O1.kws, O2.kws⟩ T.EA T.EX fi.body g tk sg chk
    have hbody : bodyF w.G (orcOf w.G (run w.G (n + 1)) (run w.G n)) fi vvs h = some r0 := by
      have ev : (match w.G.fns f with | some fd => bodyF w.G (orcOf w.G (run w.G (n + 1)) (run w.G n)) fd vvs h | none => none) = some r0 := ev
      rw [hf] at ev
      exact ev
    have hread : tS w none (fun cls d _ H => E cls d H) (orcOf w.G (run w.G (n + 1)) (run w.G n)) fi.body { nx := fun _ H' => Q .non H', rt := Q } (L2.start N vs) H := by
      unfold bodyF at hbody
      split at hbody
      · rename_i hlen
        cases q : evS w.G (orcOf w.G (run w.G (n + 1)) (run w.G n)) fi.body (vvs.map some ++ List.replicate (fi.ns - fi.np) none) h with
        | none => rw [q] at hbody; cases hbody
        | some r1 =>
          rw [q] at hbody
          refine ⟨m, _, h, r1, sl_start rl (by rw [← rl.length, hlen, hns]), sm, q, ?_⟩
          cases r1 with
          | nx s2 h2 => cases hbody; exact fun m' H' σ' l sm' _ => post m' H' .non l sm' rfl
          | rt v h2 => cases hbody; exact post
          | bk s2 h2 => cases hbody
          | ct s2 h2 => cases hbody
          | ex x s2 h2 => cases hbody; exact fun m' H' σ' dd gs l sm' _ hd' rf => post m' H' dd gs l sm' hd' rf
      · cases hbody
    have run1 := ht.run [] s1 (L2.start N vs) H _ I hread
    have fin : ∀ {σ' : L2.St} {H' : Hp} {v : V} {u : Value} {s' : Shared}, Inv X [] σ' H' s' → RelV v u → Q v H' → CE outer P wl H s Q u s' := fun {σ' H' v u s'} J rv q => by
      subst hX
      exact ⟨v, H', J.os, J.bare, J.base, J.hok, rv, q⟩
    have fin2 : ∀ (fl : Flow) (s' : Shared), SP X [] { nx := fun _ H' => Q .non H', rt := Q } fl s' → CR (L2.CX P wl) outer P wl H s Q E (.ok (.ret (match fl with | .ret v => v | _ => .none))) s' := fun fl s' q => by
      cases fl with
      | ret u =>
        obtain ⟨v, σ', H', J, rv, q⟩ := q
        exact fin J rv q
      | next =>
        obtain ⟨σ', H', J, q⟩ := q
        exact fin (v := V.non) (u := Value.none) J rfl q
      | brk => obtain ⟨_, _, _, q⟩ := q; exact q.elim
      | cont => obtain ⟨_, _, _, q⟩ := q; exact q.elim
    subst hX
    exact wpAny_mono run1 (fun fl s' q => fin2 fl s' q) fun e s' q => q
  · have ev : (match w.G.fns f with | some fd => bodyF w.G (orcOf w.G (run w.G (n + 1)) (run w.G n)) fd vs h | none => none) = some r := e
    split at ev
    · rename_i fi hf
      refine ⟨fi, hf, ?_⟩
      unfold bodyF at ev
      split at ev
      · assumption
      · cases ev
    · cases ev
theorem fn_zero (T : Txt w t P) (n : Nat) (hn : run w.G n = fun _ _ _ => none) : FnsOk w P wl base n (run w.G n) := by
  refine ⟨fun f fi hf => ?_, fun f vs h r e => by rw [hn] at e; cases e⟩
  obtain ⟨name, qual, params, body, scope, dV, kV, doc, pm, cdv, ct, oc, an, od, osl, N, ps, lk, hcd, S, hnp, hns, kp, hb, hkb, chk⟩ := (T.fn f fi hf).ex
  refine ⟨PySem.W.fnOf name qual params body scope dV kV doc pm an cdv ct, ps, hnp, ⟨fun A outer s H args us vs Q E hr hd e0 hbt r hl ⟨m, h, vvs, r0, rl, sm, ev, post⟩ => ?_⟩, kp, hb, hkb⟩
  rw [hn] at ev
  cases ev
theorem fn_all (T : Txt w t P) : ∀ n, FnsOk w P wl base n (run w.G n) ∧ FnsOk w P wl base (n + 1) (run w.G (n + 1))
  | 0 => ⟨fn_zero T 0 (by funext _ _ _; rfl), fn_zero T 1 (by funext _ _ _; rfl)⟩
  | n + 1 => ⟨(fn_all T n).2, fn_step T n (fn_all T n).2 (fn_all T n).1⟩
end
end Dv

set_option linter.all false
set_option autoImplicit false
set_option maxRecDepth 100000
set_option maxHeartbeats 4000000
namespace Dv
open PySem L2 PySem.Spec PyProof.Rows
theorem room_caller {n : Nat} (h : n ≤ 500) : RoomU n callerA := by
  have e1 : callerA.depth = 301 := by decide +kernel
  have e2 : callerA.units = 4 := by decide +kernel
  have e3 : recursionLimit = 1000 := by decide +kernel
  have e4 : cLine = 9900 := by decide +kernel
  exact ⟨rfl, by rw [e1, e3]; omega, by rw [e2, e4]; omega⟩
section
variable {w : Wd} {t : Nm} {P : Program} {wl : World} {mb : Str → Option Value} {fi : Fn} {n : Nat} {h' : VH} {a : Addr} {s1 : Shared} {vs : List Value} {ns : List Int}
theorem law_D (T : Txt w t P) (hf : w.G.fns "law" = some fi) (hkw : fi.kw = []) (hn : n ≤ 500) (hx : run w.G n "law" [.ref 0] [.rol (ns.map .int)] = some (.ok (.bl true) h'))
    (KX : w.K.In s1.heap) (hG : s1.heap.Ns mainGlobals w.mg) (hB : s1.heap.Ns builtinsNs mb) (hBB : ∀ x : Str, x ≠ "__name__" → mb x = bootBuiltins x) (hlim : s1.heap.NoLimit) (hgen : s1.gens = #[])
    (ha : s1.heap.get? a = some { cls := .type "list", data := .seq vs.toArray }) (hi : IntsAre vs ns) (hl : ns.length ≤ sizeLine) :
    codeAny (model P wl) callerA (.call (.ref (w.D.fa "law")) ⟨[.ref a], []⟩) (fun r s' => r = .ok (.ret (.bool true)) ∧ OldK s1.heap s'.heap ∧ s'.os = s1.os ∧ AllBare s'.gens) s1 := by
  have rv := vals_ints hi
  have lenV := hi.length
  let mp : Mp := fun i => if i = 0 then some a else none
  have simOf : ∀ H : Hp, ((∃ o, H a = some (.frz o (.lst (ns.map V.int)))) ∨ ∀ H', SqL w.K H' a (ns.map V.int)) → SimW w none mp [.rol (ns.map .int)] H := fun H q => by
    refine ⟨fun i o e => ?_, fun i b e => ?_, fun i j o o' b e1 e2 w1 w2 _ _ => ?_, fun i c fs e => ?_⟩
    · cases i with
      | zero =>
        cases e
        exact ⟨a, if_pos rfl, ns.map V.int, Paired.mapL (F := fun (x y : Int) => x = y) (by clear hx hi hl lenV rv q; induction ns with | nil => exact .nil | cons x r ih => exact .cons rfl ih) fun x y z => by subst z; rfl, q⟩
      | succ i => simp at e
    · by_cases hi0 : i = 0
      · subst hi0; show 0 < 1; omega
      · have e' : (if i = 0 then some a else none) = some b := e
        rw [if_neg hi0] at e'
        cases e'
    · cases i with
      | zero => cases e1; cases w1
      | succ i => simp at e1
    · cases i with
      | zero => cases e
      | succ i => simp at e
  have go : ∀ H : Hp, L2.Only H → ((∃ o, H a = some (.frz o (.lst (ns.map V.int)))) ∨ ∀ H', SqL w.K H' a (ns.map V.int)) → HOk P wl H s1.heap → (∀ b, H b ≠ none → b = a) → (H a ≠ none → w.K.lookup a = none) →
      codeAny (model P wl) callerA (.call (.ref (w.D.fa "law")) ⟨[.ref a], []⟩) (fun r s' => r = .ok (.ret (.bool true)) ∧ OldK s1.heap s'.heap ∧ s'.os = s1.os ∧ AllBare s'.gens) s1 := by
    intro H only q hok onlyA freeK
    have inB : ∀ {b : Addr} {o : Obj}, s1.heap.get? b = some o → H b = none → (hidT s1.heap H).get? b = some o := fun e n => hidT_get e n
    have isA : ∀ {b : Addr} {u : HO}, H b = some u → b = a := fun {b u} z => onlyA b (by rw [z]; intro y; cases y)
    have dictN : ∀ {b : Addr} {o : Obj} {es : Array DictEntry} {ep : Nat}, s1.heap.get? b = some o → o.data = .dict es ep → H b = none := fun {b o es ep} e d => by
      cases z : H b with
      | none => rfl
      | some u =>
        obtain rfl := isA z
        rw [ha] at e
        cases e
        cases (show Data.seq vs.toArray _ = Data.dict es ep from d)
    have nsB : ∀ {b : Addr} {m : Str → Option Value}, s1.heap.Ns b m → (hidT s1.heap H).Ns b m := fun {b m} ⟨o, es, ep, e, d, r⟩ => ⟨o, es, ep, inB e (dictN e d), d, r⟩
    have kinB : w.K.In (hidT s1.heap H) := fun b o e => inB (KX b o e) (by
      cases z : H b with
      | none => rfl
      | some u =>
        obtain rfl := isA z
        rw [freeK (by rw [z]; intro y; cases y)] at e
        cases e)
    have modB : Mod w.K w.mg (hidT s1.heap H) := ⟨kinB, nsB hG, ⟨mb, nsB hB, hBB⟩, let ⟨mc, k1, k2⟩ := hlim; ⟨mc, nsB k1, k2⟩⟩
    have e0 : Env0 P wl w.K w.mg (hidT s1.heap H) callerA [] s1 H := ⟨rfl, modB, fun b o e => of_hidT e, Nat.le_of_eq (hidT_size _ _), trivial, fun b hb => absurd (show b ∈ ([] : List Addr) from hb) (by simp), hok, .of_eq hgen⟩
    obtain ⟨fd, ps, hp, FV, kp, bnd, _⟩ := (fn_all (w := w) (P := P) (wl := wl) (base := hidT s1.heap H) T n).1.fn "law" fi hf
    obtain ⟨fi', hf', hlen⟩ := (fn_all (w := w) (P := P) (wl := wl) (base := hidT s1.heap H) T n).1.some_ _ _ _ _ hx
    rw [hf] at hf'
    cases hf'
    have hps : [Value.ref a].length = ps.length := by rw [hp]; exact hlen
    have b1 := bnd hkw s1 [.ref a] KX (by rw [List.append_nil]; exact hps)
    rw [List.append_nil] at b1
    refine codeAny_mono (FV.run callerA [] s1 H ⟨[.ref a], []⟩ [.ref a] [.ref a] (fun v _ => v = .bl true) (fun _ _ _ => False) (room_caller hn) rfl e0 b1 (.cons rfl .nil) hps
      ⟨mp, [.rol (ns.map .int)], [.ref 0], _, .cons ⟨a, if_pos rfl, rfl⟩ .nil, simOf H q, hx, fun m' H' x _ _ rx => rx⟩) fun r s' z => ?_
    cases r with
    | error e =>
      obtain ⟨_, _, _, _, _, _, _, _, _, _, _, _, y⟩ := z
      exact y.elim
    | ok fl =>
      cases fl with
      | next => exact z.elim
      | brk => exact z.elim
      | cont => exact z.elim
      | ret u =>
        obtain ⟨v, H', os, bare, un, hok', rv', q'⟩ := z
        have q' : v = .bl true := q'
        subst q'
        obtain rfl : u = Value.bool true := rv'
        refine ⟨rfl, OldK.of_keep fun b o e => ?_, os, bare⟩
        cases y : H b with
        | none => exact un.keep b o e y (by intro z; exact absurd (show b ∈ ([] : List Addr) from z) (by simp)) (by simp)
        | some u =>
          rcases only b with z | ⟨ob, xs, z⟩
          · rw [y] at z; cases z
          · obtain ⟨e1, _⟩ := hok b _ z
            obtain ⟨e2, _⟩ := hok' b _ (un.frzs b ob _ z)
            rw [e] at e1
            cases e1
            exact e2
  cases hk : w.K.lookup a with
  | some o =>
    have e := KX a o hk
    rw [ha] at e
    cases e
    exact go (fun _ => none) (fun _ => .inl rfl) (.inr fun H' => .inr ⟨_, vs.toArray, _, hk, rfl, rfl, rfl, by rw [List.size_toArray, lenV]; exact hl, by simpa using rv⟩) (fun b u z => nomatch (show (none : Option HO) = some u from z)) (fun b z => absurd rfl z) fun z => absurd rfl z
  | none =>
    refine go (fun b => if b = a then some (.frz { cls := .type "list", data := .seq vs.toArray } (.lst (ns.map V.int))) else none) (fun b => ?_) (.inl ⟨{ cls := .type "list", data := .seq vs.toArray }, if_pos rfl⟩) (fun b u z => ?_) (fun b z => ?_) fun _ => hk
    · by_cases hb : b = a
      · exact .inr ⟨_, _, if_pos hb⟩
      · exact .inl (if_neg hb)
    · by_cases hb : b = a
      · cases ((if_pos hb).symm.trans z)
        subst hb
        exact ⟨ha, by rw [List.length_map]; exact hl, vs, _, rv, ha⟩
      · cases ((if_neg hb).symm.trans z)
    · by_cases hb : b = a
      · exact hb
      · exact absurd (if_neg hb) z
end
/-- the walk of a law: what the top has written makes a text; its law runs to True at every script -/
theorem walk_D {l : PySem.W.OpenLaw} {most : Nat} {q : Program} {loose : List Str} {XP : (Str → Option Value) → Heap → Prop} {YP : World → Heap → Prop} {d : DefRec} (G : Tx) (t : Nm)
    (hn : l.most = some most) (hn2 : most ≤ sizeLine) (hdf : d.params.defaults = []) (hlaw : ∃ fi, G.fns "law" = some fi ∧ fi.kw = [])
    (F : ∀ (wl : World) (mg : Str → Option Value) (fa : Addr) (h : Heap), YP wl h → h.Ns mainGlobals mg → mg d.name = some (.ref fa) → ∃ w : Wd, w.G = G ∧ w.mg = mg ∧ w.D.fa "law" = fa ∧ w.K.In h ∧ Txt w t l.prog)
    (run_ok : ∀ ns : List Int, ns.length ≤ most → ∃ n h', n ≤ 500 ∧ run G n "law" [.ref 0] [.rol (ns.map .int)] = some (.ok (.bl true) h')) :
    PySem.W.WalkO q loose XP YP l.row.toRowW d [] (fun f vs => PySem.call f vs) := by
  refine Att.attach_call hn hdf fun wl s₀ s₁ mg mb fa o pm cd doc a vs ns GG Y ho hd hcd hmg hobj hints hlen hg => ?_
  obtain ⟨w, rfl, rfl, rfl, KX, T⟩ := F wl mg fa _ Y GG.T.g hmg
  obtain ⟨fi, hfi, hkw⟩ := hlaw
  obtain ⟨n, h', hn5, hx⟩ := run_ok ns hlen
  exact law_D T hfi hkw hn5 hx KX GG.T.g GG.T.b GG.T.builtins GG.T.nolimit hg hobj hints (Nat.le_trans hlen hn2)
end Dv

set_option linter.all false
set_option autoImplicit false
set_option maxRecDepth 100000
set_option maxHeartbeats 4000000
namespace Dv
open PySem L2 PySem.Spec PyProof.Rows
/-- where a def's function object stands -/
inductive At where
  | glo (x : Str)
  | met (c m : Str)
  | prp (c f : Str)
def At.addr (K : PySem.W.Frag) : At → Addr
  | .glo x => He.ga K x
  | .met c m => He.ma K (He.ga K c) m
  | .prp c f => match PySem.W.recIn K (He.ma K (He.ga K c) f) "property" with
    | some (.ref g :: _) => g
    | _ => 0
/-- a def of the text: its place, its syntax, its names by slots, its form in the small language -/
structure Df where
  at_ : At
  name : Str
  qual : Str
  params : Arguments
  body : List Stmt
  scope : Scope
  N : List Str
  ps : List Str
  ir : Fn
  kd : List (Str × Vv)
def Df.obs (K : PySem.W.Frag) (d : Df) : He.FnW := match K.lookup (d.at_.addr K) with
  | some ⟨_, _, .func fd, _⟩ => some (fd.name, fd.qualname, fd.params, fd.body, fd.scope, fd.globals, fd.closure, fd.builtins)
  | _ => none
def Df.val (d : Df) : He.FnW := some (d.name, d.qual, d.params, .stmts d.body, d.scope, mainGlobals, [], builtinsNs)
def scalB (v : Vv) (u : Value) : Bool := match v, u with
  | .non, .none => true
  | .bl b, .bool b' => b == b'
  | .int i, .int j _ => decide (i = j)
  | .str x, .str y _ => decide (x = y)
  | _, _ => false
def scalO (v : Vv) : V := match v with
  | .bl b => .bl b
  | .int i => .int i
  | .str z => .str z
  | _ => .non
theorem scalB_ok {v : Vv} {u : Value} (h : scalB v u = true) : RelV (scalO v) u ∧ ∀ (D : Ad) (m : Mp), R D m v (scalO v) := by
  unfold scalB at h
  split at h
  · exact ⟨rfl, fun _ _ => rfl⟩
  · obtain rfl := beq_iff_eq.mp h; exact ⟨rfl, fun _ _ => rfl⟩
  · obtain rfl := of_decide_eq_true h; exact ⟨⟨_, rfl⟩, fun _ _ => rfl⟩
  · obtain rfl := of_decide_eq_true h; exact ⟨⟨_, rfl⟩, fun _ _ => rfl⟩
  · cases h
def kdB (K : PySem.W.Frag) (kV : Value) (kd : List (Str × Vv)) : Bool := kd.isEmpty || (match kV with
  | .ref D => kd.all fun q => match PySem.W.nsIn K D q.1 with | some (some u) => scalB q.2 u | _ => false
  | _ => false)
def Df.ok (K : PySem.W.Frag) (d : Df) : Bool := PySem.W.keepIn K (.ref (d.at_.addr K)) && (match K.lookup (d.at_.addr K) with
  | some ⟨_, _, .func fd, _⟩ => PySem.W.codeIn K fd.code d.qual && (match fd.defaults with | .none => true | _ => false) && kdB K fd.kwdefaults d.kd
  | _ => false)
/-- what is known of the def without the program -/
structure Df.Pf (t : Nm) (G : Tx) (d : Df) : Prop where
  sc : FnScope d.N d.ps d.scope
  np : d.ps.length = d.ir.np
  ns : d.N.length = d.ir.ns
  bnd : d.ir.kw = [] → ∀ (kV doc pm : Value) (an : Option Addr) (cdv ct : Value) (us : List Value), us.length = d.ps.length → bindArgs (PySem.W.fnOf d.name d.qual d.params d.body d.scope .none kV doc pm an cdv ct) ⟨us, []⟩ = pure (d.ps.zip us)
  kbn : ∀ p ∈ d.ir.kw, d.kd ≠ [] ∧ (∀ q ∈ p.ms, q ∈ d.kd) ∧ p.arr.length = d.ps.length ∧ ∀ (D : Addr) (doc pm : Value) (an : Option Addr) (cdv ct : Value) (us mv ws : List Value), us.length = p.n → mv.length = p.ms.length → ws.length = p.ks.length →
    KwChain D ((p.ms.map (·.1)).zip mv) (bindArgs (PySem.W.fnOf d.name d.qual d.params d.body d.scope .none (.ref D) doc pm an cdv ct) ⟨us, p.ks.zip ws⟩) (d.ps.zip (arrG .none p.arr (us ++ ws) mv))
  chk : chkSs t G d.N d.scope true d.ir.body d.body = true
/-- an own error of one field: its class, its field, its __init__'s qualified name, text, places -/
structure Er where
  c : Str
  fld : Str
  qual : Str
  txt : Str
  k : Nat
  p : Nat → Pos
abbrev FnE : Type := Option (Str × Str × Arguments × FuncBody × Scope × Addr × List Str × Value × Value × Addr)
def Er.fI (K : PySem.W.Frag) (e : Er) : Addr := He.ma K (He.ga K e.c) "__init__"
def Er.obs (K : PySem.W.Frag) (e : Er) : FnE := match K.lookup (e.fI K) with
  | some ⟨_, _, .func fd, _⟩ => some (fd.name, fd.qualname, fd.params, fd.body, fd.scope, fd.globals, fd.closure.map (·.1), fd.defaults, fd.kwdefaults, fd.builtins)
  | _ => none
def Er.val (e : Er) : FnE := some ("__init__", e.qual, ownArgs (some e.fld) e.p, .stmts (ownBody e.txt e.k (some e.fld) e.p), ownScope (some e.fld), mainGlobals, ["__class__"], .none, .none, builtinsNs)
/-- the head's word: the defs, the errors' __init__s as they were written, and a Bool of the written part -/
abbrev AlZ : Type := List He.FnW × List FnE × Bool
def asZ (g : Addr → Option Obj) (n : Nat) : List Addr := cStatics :: He.asD g n
def obsK (ds : List Df) (es : List Er) (ex : PySem.W.Frag → Bool) (K : PySem.W.Frag) : AlZ := (ds.map (Df.obs K), es.map (Er.obs K), ds.all (Df.ok K) && ex K)
def obsZ (n : Nat) (ds : List Df) (es : List Er) (ex : PySem.W.Frag → Bool) (g : Addr → Option Obj) : AlZ := obsK ds es ex (He.frT g (asZ g n))
structure SaysZ (ds : List Df) (es : List Er) (ex : PySem.W.Frag → Bool) (K : PySem.W.Frag) : Prop where
  fn : ds.map (Df.obs K) = ds.map Df.val
  er : es.map (Er.obs K) = es.map Er.val
  ok : ds.all (Df.ok K) = true
  ex : ex K = true
def hookZ (n : Nat) (ds : List Df) (es : List Er) (ex : PySem.W.Frag → Bool) : PySem.W.Hook where
  α := AlZ
  obs := fun s => obsZ n ds es ex s.heap.get?
  val := fun _ => (ds.map Df.val, es.map Er.val, true)
  says := fun _ h => ∃ K : PySem.W.Frag, K.In h ∧ SaysZ ds es ex K
  of := fun _ _ e => by
    have e1 := congrArg Prod.fst e
    have e2 := congrArg (fun z : AlZ => z.2.1) e
    have e3 := He.ba (congrArg (fun z : AlZ => z.2.2) e)
    exact ⟨_, He.frT_in, e1, e2, e3.1, e3.2⟩
  keeps := fun _ _ _ ⟨K, hK, c⟩ k => ⟨K, PySem.W.Frag.In.keeps hK k, c⟩
def obZ (n : Nat) (ds : List Df) (es : List Er) (ex : PySem.W.Frag → Bool) (s : PySem.W.SharedT) : AlZ := obsZ n ds es ex (HandSHeadRun.getT s)
theorem obZ_eq {n : Nat} {ds : List Df} {es : List Er} {ex : PySem.W.Frag → Bool} (s : PySem.W.SharedT) : obZ n ds es ex s = (hookZ n ds es ex).obs s.abs := by
  have e : HandSHeadRun.getT s = s.abs.heap.get? := funext (HandSHeadRun.getT_eq s)
  unfold obZ
  rw [e]
  rfl
section
variable {K : PySem.W.Frag} {d : Df} {ds : List Df} {es : List Er} {ex : PySem.W.Frag → Bool} {w : Wd} {t : Nm} {f : Str}
theorem SaysZ.df (c : SaysZ ds es ex K) (h : d ∈ ds) : d.obs K = d.val ∧ d.ok K = true := by
  refine ⟨?_, List.all_eq_true.mp c.ok d h⟩
  obtain ⟨i, hi, rfl⟩ := List.mem_iff_getElem.mp h
  have e := congrArg (fun l => l[i]?) c.fn
  simp only [List.getElem?_map, List.getElem?_eq_getElem hi, Option.map_some] at e
  exact Option.some.inj e
theorem SaysZ.err {e : Er} (c : SaysZ ds es ex K) (h : e ∈ es) : e.obs K = e.val := by
  obtain ⟨i, hi, rfl⟩ := List.mem_iff_getElem.mp h
  have z := congrArg (fun l => l[i]?) c.er
  simp only [List.getElem?_map, List.getElem?_eq_getElem hi, Option.map_some] at z
  exact Option.some.inj z
theorem fn_tx (hK : w.K = K) (ha : w.D.fa f = d.at_.addr K) (e : d.obs K = d.val ∧ d.ok K = true) (p : d.Pf t w.G) : FnTx w t f d.ir := by
  subst hK
  obtain ⟨e1, e2⟩ := e
  unfold Df.obs at e1
  unfold Df.ok at e2
  rw [Bool.and_eq_true] at e2
  obtain ⟨kp, e2⟩ := e2
  cases q : w.K.lookup (d.at_.addr w.K) with
  | none => rw [q] at e2; cases e2
  | some ob =>
    obtain ⟨oc, od, dt, osl⟩ := ob
    rw [q] at e1 e2
    cases dt with
    | func fd =>
      obtain ⟨n1, n2, n3, n4, n5, n6, n7, n8, n9, n10, n11, n12, n13, n14, n15⟩ := fd
      have e1 : (some (n1, n2, n3, n4, n5, n6, n7, n15) : He.FnW) = some (d.name, d.qual, d.params, .stmts d.body, d.scope, mainGlobals, [], builtinsNs) := e1
      simp only [Option.some.injEq, Prod.mk.injEq] at e1
      obtain ⟨h1, h2, h3, h4, h5, h6, h7, h8⟩ := e1
      subst h1 h2 h3 h4 h5 h6 h7 h8
      have e2 : (PySem.W.codeIn w.K n13 d.qual && (match (generalizing := false) n8 with | .none => true | _ => false) && kdB w.K n9 d.kd) = true := e2
      rw [Bool.and_eq_true, Bool.and_eq_true] at e2
      obtain ⟨⟨k1, k2⟩, k3⟩ := e2
      cases n8 with
      | none =>
        refine ⟨d.name, d.qual, d.params, d.body, d.scope, .none, n9, n10, n11, n13, n14, oc, n12, od, osl, d.N, d.ps, by rw [ha]; exact q, k1, p.sc, p.np, p.ns, by rw [ha]; exact kp, fun hk => Binds.all fun us hl => p.bnd hk _ _ _ _ _ _ us hl, ?_, p.chk⟩
        intro kq hkq
        obtain ⟨hd, hms, hl, hb⟩ := p.kbn kq hkq
        unfold kdB at k3
        rw [Bool.or_eq_true] at k3
        rcases k3 with k3 | k3
        · exact absurd (List.isEmpty_iff.mp k3) hd
        · cases n9 with
          | ref Dk =>
            have k3 : d.kd.all (fun q => match (generalizing := false) PySem.W.nsIn w.K Dk q.1 with | some (some u) => scalB q.2 u | _ => false) = true := k3
            have each : ∀ q' ∈ kq.ms.map (fun z => (z.1, scalO z.2)), ∃ u, PySem.W.nsIn w.K Dk q'.1 = some (some u) ∧ RelV q'.2 u := fun q' hq' => by
              obtain ⟨z, hz, rfl⟩ := List.mem_map.mp hq'
              have k4 := List.all_eq_true.mp k3 z (hms z hz)
              cases k5 : PySem.W.nsIn w.K Dk z.1 with
              | none => rw [k5] at k4; cases k4
              | some r =>
                rw [k5] at k4
                cases r with
                | none => cases k4
                | some u => exact ⟨u, rfl, (scalB_ok k4).1⟩
            obtain ⟨mv, l1, r1, hks⟩ := kwd_vals each
            rw [List.length_map] at l1
            refine ⟨mv, kq.ms.map (fun z => scalO z.2), ⟨fun s us ws X e1 e2 => BindsTo.of_looks fun M => KwChain.looks X hks ?_, fun r2 r3 => arr_P (F := RelV) (z := V.non) (z' := Value.none) rfl (r2.append r3) ?_ kq.arr⟩, fun m => ?_, hl⟩
            · rw [show (kq.ms.map fun z => (z.1, scalO z.2)).map (·.1) = kq.ms.map (·.1) by rw [List.map_map]; rfl]
              exact hb Dk _ _ _ _ _ us mv ws e1 l1 e2
            · rw [show (kq.ms.map fun z => scalO z.2) = (kq.ms.map fun z => (z.1, scalO z.2)).map (·.2) by rw [List.map_map]; rfl]
              exact r1
            · have go : ∀ l : List (Str × Vv), (∀ z ∈ l, z ∈ d.kd) → RL w.D m (l.map (·.2)) (l.map fun z => scalO z.2) := fun l => by
                induction l with
                | nil => intro _; exact .nil
                | cons z r ih =>
                  intro hz
                  refine .cons ?_ (ih fun y hy => hz y (List.mem_cons_of_mem _ hy))
                  have k4 := List.all_eq_true.mp k3 z (hz z List.mem_cons_self)
                  cases k5 : PySem.W.nsIn w.K Dk z.1 with
                  | none => rw [k5] at k4; cases k4
                  | some r =>
                    rw [k5] at k4
                    cases r with
                    | none => cases k4
                    | some u => exact (scalB_ok k4).2 _ _
              exact go kq.ms hms
          | _ => cases k3
      | _ => cases k2
    | _ => cases e2
end
end Dv

set_option linter.all false
set_option autoImplicit false
set_option maxRecDepth 100000
set_option maxHeartbeats 4000000
namespace Dv
open PySem L2 PySem.Spec PyProof.Rows
/-- a text's tables -/
structure Bd where
  ds : List (Str × Df)
  cls : List (Str × Cl)
  cons : List (Str × Ho)
def Bd.G (b : Bd) : Tx := { fns := fun f => (b.ds.lookup f).map (·.ir), cls := fun c => b.cls.lookup c, cons := fun k => b.cons.lookup k, lams := fun _ => none, clsL := b.cls.map (·.1), clsI := (b.cls.filter (·.2.exc.isNone)).map (·.1) }
def Bd.D (b : Bd) (K : PySem.W.Frag) : Ad := ⟨fun f => match b.ds.lookup f with | some d => d.at_.addr K | none => 0, fun c => He.ga K c, fun k => He.ga K k⟩
theorem look_mem {α : Type} {x : Str} {v : α} : ∀ {l : List (Str × α)}, l.lookup x = some v → (x, v) ∈ l
  | [], h => by cases h
  | (y, u) :: r, h => by
    rw [List.lookup_cons] at h
    cases q : x == y with
    | true => rw [q] at h; cases h; rw [beq_iff_eq.mp q]; exact List.mem_cons_self
    | false => rw [q] at h; exact List.mem_cons_of_mem _ (look_mem h)
def scalV : Vv → Option V
  | .non => some .non
  | .bl b => some (.bl b)
  | .int i => some (.int i)
  | .str z => some (.str z)
  | _ => none
theorem scal_R {D : Ad} {v : Vv} {x : V} (h : scalV v = some x) (m : Mp) : R D m v x := by
  cases v <;> first | (cases h; rfl) | cases h
def scals : List Vv → Option (List V)
  | [] => some []
  | v :: r => match scalV v, scals r with
    | some x, some xs => some (x :: xs)
    | _, _ => none
theorem scals_R {D : Ad} (m : Mp) : ∀ {vs : List Vv} {xs : List V}, scals vs = some xs → RL D m vs xs
  | [], xs, h => by cases h; exact .nil
  | v :: r, xs, h => by
    unfold scals at h
    split at h
    · rename_i x ys h1 h2
      cases h
      exact .cons (scal_R h1 m) (scals_R m h2)
    · cases h
def tupB (K : PySem.W.Frag) (a : Addr) (ys : List V) : Bool := match K.lookup a with
  | some ⟨.type c, _, .seq its _, _⟩ => decide (c = "tuple") && decide (its.size ≤ sizeLine) && He.relAll ys its.toList
  | _ => false
theorem tupB_ok {K : PySem.W.Frag} {a : Addr} {ys : List V} (h : tupB K a ys = true) (H : Hp) : SqT K H a ys := by
  unfold tupB at h
  split at h
  · rename_i c d its n sl q
    rw [Bool.and_eq_true, Bool.and_eq_true] at h
    obtain ⟨⟨h1, h2⟩, h3⟩ := h
    obtain rfl := of_decide_eq_true h1
    exact .inr ⟨_, its, n, q, rfl, rfl, of_decide_eq_true h2, He.relAll_ok h3⟩
  · cases h
def conB (b : Bd) (K : PySem.W.Frag) : Bool := b.cons.all fun p => match p.2 with
  | .tup xs => (match scals xs with | some ys => tupB K (He.ga K p.1) ys | none => false)
  | _ => false
theorem conB_ok {b : Bd} {K : PySem.W.Frag} {mg : Str → Option Value} (h : conB b K = true) : Wd.ConOk ⟨b.G, b.D K, K, mg⟩ := by
  refine ⟨fun k o e => ?_⟩
  have z := List.all_eq_true.mp h (k, o) (look_mem e)
  cases o with
  | tup xs =>
    have z : (match (generalizing := false) scals xs with | some ys => tupB K (He.ga K k) ys | none => false) = true := z
    cases hy : scals xs with
    | none => rw [hy] at z; cases z
    | some ys =>
      rw [hy] at z
      exact ⟨xs, ys, rfl, fun H => tupB_ok z H, fun m => scals_R m hy⟩
  | _ => cases z
def clsIB (K : PySem.W.Frag) (c : Str) : Bool := (He.Fa.cls c).ok K && decide (PySem.W.findIn K (.ref (He.ga K c)) "__class__" = some (some (.builtin "object.__class__"))) && decide (PySem.W.specialIn K (.builtin "object.__class__") "__get__" = some (some (.builtin "getset_descriptor.__get__"))) &&
  decide (PySem.W.takesIn K (.builtin "object.__class__") = some true) && decide (PySem.W.mroIn K (He.ga K c) (.type "object") = some true)
def tys7 : List String := ["NoneType", "int", "bool", "str", "list", "tuple", "dict"]
def tys6 : List String := ["int", "bool", "str", "list", "tuple", "dict"]
def isiB (b : Bd) (K : PySem.W.Frag) : Bool := (tys7.map Vv.ty ++ b.G.clsI.map Vv.cls).all fun t => (tys6.map Vv.ty ++ b.G.clsL.map Vv.cls).all fun c => match isiT b.G t c with
  | some r => decide (PySem.W.kitOne K (tval (b.D K) t) (tval (b.D K) c) = some r)
  | none => true
theorem isi_ok {b : Bd} {K : PySem.W.Frag} {mg : Str → Option Value} (h1 : b.G.clsI.all (clsIB K) = true) (h2 : isiB b K = true) : Wd.IsiOk ⟨b.G, b.D K, K, mg⟩ := by
  refine ⟨fun c hc => ?_, fun t c r ht hr => ?_⟩
  · have z := List.all_eq_true.mp h1 c (List.contains_iff_mem.mp hc)
    unfold clsIB at z
    simp only [Bool.and_eq_true, decide_eq_true_eq] at z
    obtain ⟨⟨⟨⟨k1, k2⟩, k3⟩, k4⟩, k5⟩ := z
    exact ⟨He.cls_ok k1, k2, k3, k4, k5⟩
  · have mt : t ∈ tys7.map Vv.ty ++ b.G.clsI.map Vv.cls := by
      unfold tyK at ht
      split at ht
      · exact List.mem_append_left _ (List.mem_map_of_mem (List.contains_iff_mem.mp ht))
      · exact List.mem_append_right _ (List.mem_map_of_mem (List.contains_iff_mem.mp ht))
      · cases ht
    have mc : c ∈ tys6.map Vv.ty ++ b.G.clsL.map Vv.cls := by
      unfold isiT at hr
      split at hr
      · split at hr
        · rename_i q; exact List.mem_append_left _ (List.mem_map_of_mem (List.contains_iff_mem.mp q))
        · cases hr
      · split at hr
        · rename_i q; exact List.mem_append_right _ (List.mem_map_of_mem (List.contains_iff_mem.mp q))
        · cases hr
      · split at hr
        · rename_i q; exact List.mem_append_left _ (List.mem_map_of_mem (List.contains_iff_mem.mp q))
        · cases hr
      · split at hr
        · rename_i q; exact List.mem_append_right _ (List.mem_map_of_mem (List.contains_iff_mem.mp q))
        · cases hr
      · cases hr
    have z := List.all_eq_true.mp (List.all_eq_true.mp h2 t mt) c mc
    have hr : isiT b.G t c = some r := hr
    rw [hr] at z
    exact of_decide_eq_true z
def propB (K : PySem.W.Frag) (C : Addr) (f : Str) (g : Addr) : Bool := decide (PySem.W.findIn K (.ref C) f = some (some (.ref (He.ma K C f)))) && decide (PySem.W.specialIn K (.ref (He.ma K C f)) "__get__" = some (some (.builtin "property.__get__"))) && decide (PySem.W.takesIn K (.ref (He.ma K C f)) = some true) &&
  (match PySem.W.recIn K (He.ma K C f) "property" with
  | some (.ref g' :: _) => decide (g' = g)
  | _ => false)
theorem propB_ok {K : PySem.W.Frag} {C : Addr} {f : Str} {g : Addr} (h : propB K C f g = true) : PropOf K C f (He.ma K C f) g := by
  unfold propB at h
  simp only [Bool.and_eq_true, decide_eq_true_eq] at h
  obtain ⟨⟨⟨h1, h2⟩, h3⟩, h4⟩ := h
  refine ⟨h1, h2, h3, ?_⟩
  split at h4
  · rename_i g' rest q
    obtain rfl := of_decide_eq_true h4
    exact ⟨rest, q⟩
  · cases h4
def clsB (b : Bd) (K : PySem.W.Frag) (c : Str) (k : Cl) : Bool := (k.flds.all fun f => (He.Fa.noat c f).ok K) && (if k.exc.isNone then (He.Fa.cls c).ok K && (k.props.all fun p => propB K (He.ga K c) p.1 ((b.D K).fa p.2)) &&
    (k.meths.all fun p => (He.Fa.meth c p.1).ok K && decide ((b.D K).fa p.2 = He.ma K (He.ga K c) p.1) && (if p.1 = ("__init__" : Str) then (He.Fa.mkr c).ok K else true) && (if p.1 = ("__eq__" : Str) then He.eqO (PySem.W.findIn K (.ref (He.ga K c)) "__ne__") (some (some (.builtin "object.__ne__"))) else true))
  else k.props.isEmpty && k.meths.isEmpty && xfB K (He.ga K c))
theorem clsB_ok {b : Bd} {K : PySem.W.Frag} {mg : Str → Option Value} {c : Str} {k : Cl} (h : clsB b K c k = true) : ClsOk ⟨b.G, b.D K, K, mg⟩ c k := by
  unfold clsB at h
  rw [Bool.and_eq_true] at h
  obtain ⟨h1, h2⟩ := h
  have fl : ∀ f, k.flds.contains f = true → PySem.W.findIn K (.ref (He.ga K c)) f = some none := fun f hf => He.noat_ok (List.all_eq_true.mp h1 f (List.contains_iff_mem.mp hf))
  cases he : k.exc with
  | none =>
    rw [he] at h2
    simp only [Option.isNone_none, if_true, Bool.and_eq_true] at h2
    obtain ⟨⟨h3, h4⟩, h5⟩ := h2
    have me : ∀ m fk, k.meths.lookup m = some fk → Meth K (He.ga K c) m ((b.D K).fa fk) ∧ (m = ("__init__" : Str) → Mk K (He.ga K c) ((b.D K).fa fk)) ∧ (m = ("__eq__" : Str) → PySem.W.findIn K (.ref (He.ga K c)) "__ne__" = some (some (.builtin "object.__ne__"))) := fun m fk e => by
      have z := List.all_eq_true.mp h5 (m, fk) (look_mem e)
      simp only [Bool.and_eq_true, decide_eq_true_eq] at z
      obtain ⟨⟨⟨z1, z2⟩, z3⟩, z4⟩ := z
      rw [z2]
      refine ⟨He.meth_ok z1, fun hm => ?_, fun hm => ?_⟩
      · rw [if_pos hm] at z3
        subst hm
        exact He.mkr_ok z3
      · rw [if_pos hm] at z4
        exact He.eqO_ok z4
    exact ⟨fun _ => He.cls_ok h3, fl, fun f fk e => ⟨_, propB_ok (List.all_eq_true.mp h4 (f, fk) (look_mem e))⟩, fun m fk e => ⟨he, (me m fk e).1⟩, fun fk e => (me _ fk e).2.1 rfl, fun fk e => (me _ fk e).2.2 rfl, fun z => (z he).elim⟩
  | some fs =>
    rw [he] at h2
    simp only [Option.isNone_some, Bool.false_eq_true, if_false, Bool.and_eq_true] at h2
    obtain ⟨⟨h3, h4⟩, h5⟩ := h2
    have e3 : k.props = [] := List.isEmpty_iff.mp h3
    have e4 : k.meths = [] := List.isEmpty_iff.mp h4
    refine ⟨fun z => ?_, fl, fun f fk e => ?_, fun m fk e => ?_, fun fk e => ?_, fun fk e => ?_, fun _ => xfB_ok h5⟩
    · rw [he] at z; cases z
    · rw [e3] at e; cases e
    · rw [e4] at e; cases e
    · rw [e4] at e; cases e
    · rw [e4] at e; cases e
end Dv

set_option linter.all false
set_option autoImplicit false
set_option maxRecDepth 100000
set_option maxHeartbeats 4000000
namespace Dv
open PySem L2 PySem.Spec PyProof.Rows
def konV (b : Bd) (K : PySem.W.Frag) (v : Vv) (u : Value) : Bool := match v with
  | .con k => (match u with | .ref a => decide (a = He.ga K k) | _ => false)
  | v => (match scalV v with | some x => He.relB x u | none => false)
def nmB (b : Bd) (t : Nm) (K : PySem.W.Frag) : Bool :=
  (t.fns.all fun f => (He.Fa.glo f).ok K && decide ((b.D K).fa f = He.ga K f) && PySem.W.keepIn K (.ref ((b.D K).fa f))) && (t.cls.all fun c => (He.Fa.glo c).ok K) &&
  (t.kon.all fun p => match PySem.W.nsIn K mainGlobals p.1 with | some (some u) => konV b K p.2 u | _ => false) &&
  (t.blt.all fun x => (He.Fa.free x).ok K) && (t.npr.all fun f => b.cls.all fun p => (p.2.props.lookup f).isNone) && (He.Fa.free "super").ok K
theorem nmB_ok {b : Bd} {t : Nm} {K : PySem.W.Frag} {h : Heap} {mg : Str → Option Value} (X : K.In h) (G : h.Ns mainGlobals mg) (e : nmB b t K = true) : Wd.NmOk ⟨b.G, b.D K, K, mg⟩ t := by
  unfold nmB at e
  rw [Bool.and_eq_true, Bool.and_eq_true, Bool.and_eq_true, Bool.and_eq_true, Bool.and_eq_true] at e
  obtain ⟨⟨⟨⟨⟨h1, h2⟩, h3⟩, h4⟩, h5⟩, h6⟩ := e
  refine ⟨fun f hf => ?_, fun c hc => He.glo_ok X G (List.all_eq_true.mp h2 c hc), fun p hp => ?_, fun x hx => He.free_ok X G (List.all_eq_true.mp h4 x hx), fun f hf c => ?_, He.free_ok X G h6⟩
  · have z := List.all_eq_true.mp h1 f hf
    simp only [Bool.and_eq_true, decide_eq_true_eq] at z
    obtain ⟨⟨z1, z2⟩, z3⟩ := z
    exact ⟨by show mg f = some (.ref ((b.D K).fa f)); rw [z2]; exact He.glo_ok X G z1, z3⟩
  · have z := List.all_eq_true.mp h3 p hp
    cases q : PySem.W.nsIn K mainGlobals p.1 with
    | none => rw [q] at z; cases z
    | some r =>
      rw [q] at z
      cases r with
      | none => cases z
      | some u =>
        have z : konV b K p.2 u = true := z
        have hm : mg p.1 = some u := PySem.W.mg_of X G q
        have scal : ∀ {x : V}, scalV p.2 = some x → He.relB x u = true → ∃ u x, mg p.1 = some u ∧ RelV x u ∧ ∀ m, R (b.D K) m p.2 x := fun {x} k1 k2 => ⟨u, x, hm, He.relB_ok k2, fun m => scal_R k1 m⟩
        obtain ⟨x, v⟩ := p
        cases v with
        | con k =>
          cases u with
          | ref a =>
            have z : decide (a = He.ga K k) = true := z
            obtain rfl := of_decide_eq_true z
            exact ⟨_, .ref (He.ga K k), hm, rfl, fun m => rfl⟩
          | _ => cases z
        | non => exact scal rfl z
        | bl _ => exact scal rfl z
        | int _ => exact scal rfl z
        | str _ => exact scal rfl z
        | _ => cases z
  · show ((b.cls.lookup c).bind fun k => if k.exc.isNone then k.props.lookup f else none) = none
    cases q : b.cls.lookup c with
    | none => rfl
    | some k =>
      have z := List.all_eq_true.mp (List.all_eq_true.mp h5 f hf) (c, k) (look_mem q)
      show (if k.exc.isNone then k.props.lookup f else none) = none
      split
      · exact Option.isNone_iff_eq_none.mp z
      · rfl
def excB (K : PySem.W.Frag) (C : Addr) : Bool := match K.lookup C with
  | some ⟨.type ty, _, .cls cd, sl⟩ => decide (ty = "type") && (match cd.mro, sl.toList with
    | .ref C' :: bm, [_, _, _, _, some (.builtin n), _] => decide (C' = C) && decide (n = "ValueError.__new__") && !cd.hasDel && cd.hasDict && PySem.HandSPX.refsVE bm
    | _, _ => false)
  | _ => false
theorem excB_ok {K : PySem.W.Frag} {C : Addr} (h : excB K C = true) : ∃ nm q N bs bm sn sub ab col dd k0 k1 k2 k3 k5, K.lookup C = some (excClassObj nm q C N bs bm true sn sub ab col dd k0 k1 k2 k3 k5 "ValueError.__new__") ∧ PySem.HandSPX.refsVE bm = true := by
  unfold excB at h
  split at h
  · rename_i ty dd cd sl ho
    rw [Bool.and_eq_true] at h
    obtain ⟨h0, h⟩ := h
    obtain rfl := of_decide_eq_true h0
    split at h
    · rename_i C' bm k0 k1 k2 k3 n k5 hm hs
      simp only [Bool.and_eq_true, decide_eq_true_eq, Bool.not_eq_true'] at h
      obtain ⟨⟨⟨⟨rfl, rfl⟩, hd⟩, hdc⟩, hb⟩ := h
      obtain ⟨n1, n2, n3, n4, n5, n6, n7, n8, n9, n10, n11⟩ := cd
      dsimp only at hm hd hdc
      subst hm hd hdc
      have hsl : sl = #[k0, k1, k2, k3, some (.builtin "ValueError.__new__"), k5] := by
        obtain ⟨l⟩ := sl
        simp only at hs
        rw [hs]
      subst hsl
      exact ⟨n1, n5, n4, n2, bm, n7, n8, n9, n10, dd, k0, k1, k2, k3, k5, ho, hb⟩
    · cases h
  · cases h
def fileB (P : Program) (K : PySem.W.Frag) (cd : Value) : Bool := match cd with
  | .ref a => (match K.lookup a with
    | some ⟨_, _, .fields vs, _⟩ => (match (vs[2]? : Option Value) with
      | some (Value.str file _) => (P.main.file : Str) == file
      | _ => false)
    | _ => false)
  | _ => false
theorem fileB_ok {P : Program} {K : PySem.W.Frag} {cd : Value} (h : fileB P K cd = true) : ∃ a ccl cdd vs ccs file tf, cd = .ref a ∧ K.lookup a = some ⟨ccl, cdd, .fields vs, ccs⟩ ∧ vs[2]? = some (.str file tf) ∧ ((P.main.file : Str) == file) = true := by
  unfold fileB at h
  split at h
  · rename_i a
    split at h
    · rename_i ccl cdd vs ccs q
      split at h
      · rename_i file tf q2
        exact ⟨a, ccl, cdd, vs, ccs, file, tf, rfl, q, q2, h⟩
      · cases h
    · cases h
  · cases h
def cellB (K : PySem.W.Frag) (C : Addr) (cl : List (Str × Addr)) : Bool := match cl with
  | [(_, cc)] => (match K.lookup cc with
    | some ⟨_, _, .cell (some (.ref D)), _⟩ => decide (D = C)
    | _ => false)
  | _ => false
theorem cellB_ok {K : PySem.W.Frag} {C : Addr} {cl : List (Str × Addr)} (h : cellB K C cl = true) : ∃ x cc k kd ks, cl = [(x, cc)] ∧ K.lookup cc = some ⟨k, kd, .cell (some (.ref C)), ks⟩ := by
  unfold cellB at h
  split at h
  · rename_i x cc
    split at h
    · rename_i k kd D ks q
      obtain rfl := of_decide_eq_true h
      exact ⟨x, cc, k, kd, ks, rfl, q⟩
    · cases h
  · cases h
def erB (P : Program) (K : PySem.W.Frag) (e : Er) : Bool :=
  excB K (He.ga K e.c) && He.eqO (PySem.W.findIn K (.ref (He.ga K e.c)) "__setattr__") (some (some (.builtin "object.__setattr__"))) && He.eqO (PySem.W.findIn K (.ref (He.ga K e.c)) "__init__") (some (some (.ref (e.fI K)))) &&
  decide (PySem.W.typeIn K (.ref (e.fI K)) = some (.type "function")) && PySem.W.keepIn K (.ref (He.ga K e.c)) && decide (PySem.W.subIn K (.ref (He.ga K e.c)) (.type "BaseException") = some true) && decide (PySem.W.typeIn K (.ref (He.ga K e.c)) = some (.type "type")) &&
  PySem.W.hasDictIn K (He.ga K e.c) && He.eqO (PySem.W.ks_superIn K (He.ga K e.c) (He.ga K e.c) "__init__") (some (some (.builtin "ValueError.__init__"))) && decide (PySem.W.subIn K (.ref (He.ga K e.c)) (.type "ValueError") = some true) && decide (PySem.W.mroIn K (He.ga K e.c) (.ref (He.ga K e.c)) = some true) &&
  He.eqO (PySem.W.nsIn K cStatics "thirdparty.any") (some none) && He.eqO (PySem.W.findIn K (.ref (He.ga K e.c)) e.fld) (some none) &&
  (match K.lookup (e.fI K) with
  | some ⟨_, _, .func fd, _⟩ => PySem.W.codeIn K fd.code e.qual && fileB P K fd.code && cellB K (He.ga K e.c) fd.closure
  | _ => false)
/-- what is known of it without the program -/
structure Er.Pf (P : Program) (e : Er) : Prop where
  top : (P.main.scope.names.lookup ("super" : Str)).isSome = false
  fld : (e.fld == ("__debug__" : Str)) = false ∧ (ownScope (some e.fld)).names.lookup e.fld = some .local ∧ e.fld ≠ ("self" : Str)
  sc : (ownScope (some e.fld)).names.lookup ("super" : Str) = some .globalImplicit ∧ (ownScope (some e.fld)).names.lookup ("__class__" : Str) = some .free ∧ (ownScope (some e.fld)).names.lookup ("self" : Str) = some .local ∧ (∀ x ∈ (ownScope (some e.fld)).names, x.2 ≠ .cell)
  ln : ((e.p 2).endLine == (e.p 4).line) = true
  bnd : ∀ (doc pm : Value) (an : Option Addr) (cd ct : Value) (cc : Addr) (u v : Value), bindArgs (PySem.W.ksFn "__init__" e.qual (ownArgs (some e.fld) e.p) (ownBody e.txt e.k (some e.fld) e.p) (ownScope (some e.fld)) .none .none doc pm an cd ct cc) ⟨[u, v], []⟩ = pure [(("self" : Str), u), (e.fld, v)]
theorem er_tx {P : Program} {K : PySem.W.Frag} {e : Er} (ob : e.obs K = e.val) (h : erB P K e = true) (p : e.Pf P) : OwnTx P K (He.ga K e.c) (e.fI K) (some e.fld) := by
  unfold erB at h
  iterate 13 rw [Bool.and_eq_true] at h
  obtain ⟨⟨⟨⟨⟨⟨⟨⟨⟨⟨⟨⟨⟨h1, h2⟩, h3⟩, h4⟩, h5⟩, h6⟩, h7⟩, h8⟩, h9⟩, h10⟩, h11⟩, h12⟩, h13⟩, h14⟩ := h
  unfold Er.obs at ob
  cases q : K.lookup (e.fI K) with
  | none => rw [q] at h14; cases h14
  | some o =>
    obtain ⟨oc, od, dt, osl⟩ := o
    rw [q] at ob h14
    cases dt with
    | func fd =>
      obtain ⟨n1, n2, n3, n4, n5, n6, n7, n8, n9, n10, n11, n12, n13, n14, n15⟩ := fd
      have ob : (some (n1, n2, n3, n4, n5, n6, n7.map (·.1), n8, n9, n15) : FnE) = e.val := ob
      unfold Er.val at ob
      simp only [Option.some.injEq, Prod.mk.injEq] at ob
      obtain ⟨e1, e2, e3, e4, e5, e6, e7, e8, e9, e10⟩ := ob
      subst e1 e2 e3 e4 e5 e6 e8 e9 e10
      have h14 : (PySem.W.codeIn K n13 e.qual && fileB P K n13 && cellB K (He.ga K e.c) n7) = true := h14
      rw [Bool.and_eq_true, Bool.and_eq_true] at h14
      obtain ⟨⟨k1, k2⟩, k3⟩ := h14
      obtain ⟨a, ccl, cdd, vs, ccs, file, tf, rfl, l1, l2, l3⟩ := fileB_ok k2
      obtain ⟨x, cc, kc, kd, ks, rfl, l4⟩ := cellB_ok k3
      have ex : x = ("__class__" : Str) := by simpa using e7
      subst ex
      exact ⟨excB_ok h1, He.eqO_ok h2, He.eqO_ok h3, of_decide_eq_true h4, h5, of_decide_eq_true h6, of_decide_eq_true h7, h8, He.eqO_ok h9, of_decide_eq_true h10, of_decide_eq_true h11, He.eqO_ok h12, p.top, fun y hy => by cases hy; exact ⟨He.eqO_ok h13, p.fld.1, p.fld.2.1, p.fld.2.2⟩, p.sc,
        ⟨oc, od, e.qual, n10, n11, n12, a, n14, cc, osl, e.txt, e.k, e.p, ccl, kc, cdd, kd, ccs, ks, vs, file, tf, q, k1, fun fld hf u v => by cases hf; exact p.bnd _ _ _ _ _ _ u v, p.ln, l1, l2, l3, l4⟩⟩
    | _ => cases h14
end Dv

set_option linter.all false
set_option autoImplicit false
set_option maxRecDepth 100000
set_option maxHeartbeats 4000000
namespace Dv
open PySem L2 PySem.Spec PyProof.Rows
def errL (b : Bd) : List Str := (b.cls.filter (·.2.exc.isSome)).map (·.1)
def exmB (b : Bd) (K : PySem.W.Frag) : Bool := (errL b).all fun c => (errL b).all fun c' => decide (PySem.W.exmOne K (.ref (He.ga K c)) (.ref (He.ga K c')) = some (decide (c = c')))
def txB (b : Bd) (t : Nm) (P : Program) (es : List Er) (K : PySem.W.Frag) : Bool := conB b K && b.G.clsI.all (clsIB K) && isiB b K && b.cls.all (fun p => clsB b K p.1 p.2) && nmB b t K && es.all (erB P K) && exmB b K
def erAll (b : Bd) (es : List Er) : Bool := b.cls.all fun p => match p.2.exc with
  | none => true
  | some fs => es.any fun e => decide (e.c = p.1) && decide (fs = [e.fld])
section
variable {b : Bd} {t : Nm} {P : Program} {es : List Er} {K : PySem.W.Frag} {h : Heap} {mg : Str → Option Value}
theorem err_mem {c : Str} (e : ((b.G.cls c).bind (·.exc)).isSome = true) : c ∈ errL b := by
  have e : ((b.cls.lookup c).bind (·.exc)).isSome = true := e
  cases q : b.cls.lookup c with
  | none => rw [q] at e; cases e
  | some k =>
    rw [q] at e
    exact List.mem_map.mpr ⟨(c, k), List.mem_filter.mpr ⟨look_mem q, e⟩, rfl⟩
theorem txt_ok (X : K.In h) (G : h.Ns mainGlobals mg) (c : SaysZ (b.ds.map (·.2)) es (txB b t P es) K) (hs : erAll b es = true) (pe : ∀ e ∈ es, e.Pf P) (pd : ∀ p ∈ b.ds, p.2.Pf t b.G) : Txt ⟨b.G, b.D K, K, mg⟩ t P := by
  have e := c.ex
  unfold txB at e
  iterate 6 rw [Bool.and_eq_true] at e
  obtain ⟨⟨⟨⟨⟨⟨h1, h2⟩, h3⟩, h4⟩, h5⟩, h6⟩, h7⟩ := e
  have fnOf : ∀ f fi, b.G.fns f = some fi → ∃ d, b.ds.lookup f = some d ∧ d.ir = fi := fun f fi hf => by
    obtain ⟨d, q, rfl⟩ := Option.map_eq_some_iff.mp (show (b.ds.lookup f).map (·.ir) = some fi from hf)
    exact ⟨d, q, rfl⟩
  have faOf : ∀ {f d}, b.ds.lookup f = some d → (b.D K).fa f = d.at_.addr K := fun {f d} q => by
    show (match b.ds.lookup f with | some d => d.at_.addr K | none => 0) = _
    rw [q]
  have inD : ∀ {f d}, b.ds.lookup f = some d → d ∈ b.ds.map (·.2) := fun {f d} q => List.mem_map.mpr ⟨(f, d), look_mem q, rfl⟩
  refine ⟨⟨conB_ok h1, isi_ok h2 h3, fun f hf => ?_⟩, fun c' k hk => clsB_ok (List.all_eq_true.mp h4 (c', k) (look_mem hk)), nmB_ok X G h5, fun c' k fs hk hx => ?_, fun c1 c2 k1 k2 => ?_, fun f fi hf => ?_⟩
  · obtain ⟨fi, hf⟩ := Option.isSome_iff_exists.mp hf
    obtain ⟨d, q, _⟩ := fnOf f fi hf
    have z := (c.df (inD q)).2
    unfold Df.ok at z
    rw [Bool.and_eq_true] at z
    show PySem.W.keepIn K (.ref ((b.D K).fa f)) = true
    rw [faOf q]
    exact z.1
  · have z := List.all_eq_true.mp hs (c', k) (look_mem hk)
    dsimp only at z
    rw [hx] at z
    obtain ⟨er, hm, z⟩ := List.any_eq_true.mp z
    simp only [Bool.and_eq_true, decide_eq_true_eq] at z
    obtain ⟨rfl, rfl⟩ := z
    exact ⟨er.fI K, er.fld, rfl, er_tx (c.err hm) (List.all_eq_true.mp h6 er hm) (pe er hm)⟩
  · exact of_decide_eq_true (List.all_eq_true.mp (List.all_eq_true.mp h7 c1 (err_mem k1)) c2 (err_mem k2))
  · obtain ⟨d, q, rfl⟩ := fnOf f fi hf
    exact fn_tx (w := ⟨b.G, b.D K, K, mg⟩) rfl (faOf q) (c.df (inD q)) (pd (f, d) (look_mem q))
end
/-- the walk over the head's word -/
theorem walk_Z {l : PySem.W.OpenLaw} {most n : Nat} {q : Program} {loose : List Str} {XP : (Str → Option Value) → Heap → Prop} {d : DefRec} {b : Bd} {t : Nm} {es : List Er}
    (hn : l.most = some most) (hn2 : most ≤ sizeLine) (hdf : d.params.defaults = []) (hd : d.name = "law") (hl : ∃ d0, b.ds.lookup ("law" : Str) = some d0 ∧ d0.ir.kw = []) (hf : t.fns.contains "law" = true) (hs : erAll b es = true) (pe : ∀ e ∈ es, e.Pf l.prog) (pd : ∀ p ∈ b.ds, p.2.Pf t b.G)
    (run_ok : ∀ ns : List Int, ns.length ≤ most → ∃ n h', n ≤ 500 ∧ run b.G n "law" [.ref 0] [.rol (ns.map .int)] = some (.ok (.bl true) h')) :
    PySem.W.WalkO q loose XP (hookZ n (b.ds.map (·.2)) es (txB b t l.prog es)).says l.row.toRowW d [] (fun f vs => PySem.call f vs) := by
  refine walk_D b.G t hn hn2 hdf ?_ (fun wl mg fa h Y G hmg => ?_) run_ok
  · obtain ⟨d, q, q2⟩ := hl
    exact ⟨d.ir, by show (b.ds.lookup ("law" : Str)).map (·.ir) = _; rw [q]; rfl, q2⟩
  · obtain ⟨K, KX, c⟩ := Y
    have T := txt_ok KX G c hs pe pd
    refine ⟨⟨b.G, b.D K, K, mg⟩, rfl, rfl, ?_, KX, T⟩
    have z := (T.nm.fn "law" (List.contains_iff_mem.mp hf)).1
    rw [hd] at hmg
    have z2 : mg "law" = some (.ref ((b.D K).fa "law")) := z
    rw [hmg] at z2
    injection z2 with z3
    injection z3 with z4
    exact z4.symm
end Dv

set_option linter.all false
set_option autoImplicit false
set_option maxRecDepth 100000
set_option maxHeartbeats 1000000
namespace Pl
open PySem Dv
section
variable {G : Tx}
theorem run_of {n : Nat} {f : Str} {fi : Fn} {vs : List Vv} {h : VH} (hf : G.fns f = some fi) (hn : 2 ≤ n) : run G n f vs h = bodyF G (orcOf G (run G (n - 1)) (run G (n - 2))) fi vs h := by
  obtain ⟨k, rfl⟩ : ∃ k, n = k + 2 := ⟨n - 2, by omega⟩
  show (match G.fns f with | some fd => bodyF G (orcOf G (run G (k + 1)) (run G k)) fd vs h | none => none) = _
  rw [hf]
  rfl
theorem call_of {g : Str → List Vv → VH → Option (Re Vv)} {f : Str} {fi : Fn} {vs : List Vv} {h : VH} (hf : G.fns f = some fi) (hk : fi.kw = []) : callP G g f vs h = g f vs h := by
  unfold callP; rw [hf]; simp [hk]
end
def retR : Option Sr → Option (Re Vv)
  | some (.nx _ h) => some (.ok .non h)
  | some (.rt v h) => some (.ok v h)
  | some (.ex x _ h) => some (.ex x h)
  | _ => none
section
variable {G : Tx} {o : Orc} {s s1 : Sl} {h h1 h2 : VH} {a b : St} {c : Tt} {e : Ex} {es : Exs} {r : Option Sr} {v : Vv} {x : Xv}
theorem body_of {f : Fn} {vs : List Vv} (hl : vs.length = f.np) : bodyF G o f vs h = retR (evS G o f.body (vs.map some ++ List.replicate (f.ns - f.np) none) h) := by
  unfold bodyF
  rw [if_pos hl]
  cases evS G o f.body (vs.map some ++ List.replicate (f.ns - f.np) none) h with
  | none => rfl
  | some r => cases r <;> rfl
theorem run_ev {n : Nat} {f : Str} {fi : Fn} {vs : List Vv} {q : Option (Re Vv)} (hf : G.fns f = some fi) (hn : 2 ≤ n) (hl : vs.length = fi.np) (hs : vs.map some ++ List.replicate (fi.ns - fi.np) none = s) (k : evS G (orcOf G (run G (n - 1)) (run G (n - 2))) fi.body s h = r) (hr : retR r = q) : run G n f vs h = q := by
  rw [run_of hf hn, body_of hl, hs, k, hr]
theorem seq_nx (h1' : evS G o a s h = some (.nx s1 h1)) (k : evS G o b s1 h1 = r) : evS G o (.seq a b) s h = r := by
  show sthen (evS G o a s h) _ = r
  rw [h1']; exact k
theorem seq_rt (k : evS G o a s h = some (.rt v h1)) : evS G o (.seq a b) s h = some (.rt v h1) := by
  show sthen (evS G o a s h) _ = _
  rw [k]; rfl
theorem seq_ex (k : evS G o a s h = some (.ex x s1 h1)) : evS G o (.seq a b) s h = some (.ex x s1 h1) := by
  show sthen (evS G o a s h) _ = _
  rw [k]; rfl
theorem seq_bk (k : evS G o a s h = some (.bk s1 h1)) : evS G o (.seq a b) s h = some (.bk s1 h1) := by
  show sthen (evS G o a s h) _ = _
  rw [k]; rfl
theorem seq_ct (k : evS G o a s h = some (.ct s1 h1)) : evS G o (.seq a b) s h = some (.ct s1 h1) := by
  show sthen (evS G o a s h) _ = _
  rw [k]; rfl
theorem ifs_t (k1 : evT G o c s h = some (.ok true h1)) (k : evS G o a s h1 = r) : evS G o (.ifs c a b) s h = r := by
  show Sb (evT G o c s h) s _ = r
  rw [k1]; exact k
theorem ifs_f (k1 : evT G o c s h = some (.ok false h1)) (k : evS G o b s h1 = r) : evS G o (.ifs c a b) s h = r := by
  show Sb (evT G o c s h) s _ = r
  rw [k1]; exact k
theorem ret_of (k : evE G o e s h = some (.ok v h1)) : evS G o (.ret e) s h = some (.rt v h1) := by
  show Sb (evE G o e s h) s _ = _
  rw [k]; rfl
theorem asg_of {i : Nat} (k : evE G o e s h = some (.ok v h1)) : evS G o (.asg (.one i) e) s h = some (.nx (s.set i (some v)) h1) := by
  show Sb (evE G o e s h) s _ = _
  rw [k]; rfl
end
theorem orc_call {G : Tx} {a b : Str → List Vv → VH → Option (Re Vv)} : (orcOf G a b).call = callP G a := rfl
theorem orc_call2 {G : Tx} {a b : Str → List Vv → VH → Option (Re Vv)} : (orcOf G a b).call2 = callP G b := rfl
theorem orc_callk {G : Tx} {a b : Str → List Vv → VH → Option (Re Vv)} : (orcOf G a b).callk = callK G a := rfl
theorem orc_callk2 {G : Tx} {a b : Str → List Vv → VH → Option (Re Vv)} : (orcOf G a b).callk2 = callK G b := rfl
/-- what stands in h stands in h' -/
def HLe (h h' : VH) : Prop := ∀ (j : Nat) (o : Ho), h[j]? = some o → h'[j]? = some o
def HLx (i : Nat) (h h' : VH) : Prop := ∀ (j : Nat) (o : Ho), j ≠ i → h[j]? = some o → h'[j]? = some o
theorem HLe.refl (h : VH) : HLe h h := fun _ _ e => e
theorem HLe.trans {a b c : VH} (x : HLe a b) (y : HLe b c) : HLe a c := fun j o e => y j o (x j o e)
theorem HLe.app (h g : VH) : HLe h (h ++ g) := fun j o e => by
  have := (List.getElem?_eq_some_iff.mp e).1
  rw [List.getElem?_append_left this]; exact e
theorem HLe.x {h h' : VH} (a : HLe h h') (i : Nat) : HLx i h h' := fun j o _ e => a j o e
theorem HLx.trans {i : Nat} {a b c : VH} (x : HLx i a b) (y : HLx i b c) : HLx i a c := fun j o n e => y j o n (x j o n e)
theorem HLx.set (i : Nat) (h : VH) (o : Ho) : HLx i h (h.set i o) := fun j u n e => by rw [List.getElem?_set_ne (Ne.symm n)]; exact e
theorem lt_of_get {h : VH} {i : Nat} {o : Ho} (e : h[i]? = some o) : i < h.length := (List.getElem?_eq_some_iff.mp e).1
theorem get_app {h g : VH} {i : Nat} {o : Ho} (e : h[i]? = some o) : (h ++ g)[i]? = some o := HLe.app h g i o e
theorem get_new {h : VH} {o : Ho} : (h ++ [o])[h.length]? = some o := by simp

def xTake : St := (.seq (.ifs (.val (.cmp .Gt (.idx (.var 0) (.cst (.int 0))) (.cst (.int 0)))) (.seq (.asg (.one 2) (.bin .Mod (.bf .int (.cons (.idx (.var 0) (.cst (.int 0))) .nil)) (.var 1))) (.seq (.seti (.var 0) (.cst (.int 0)) (.bin .FloorDiv (.idx (.var 0) (.cst (.int 0))) (.var 1))) (.seq (.ret (.var 2)) .skip))) .skip) (.seq (.seti (.var 0) (.cst (.int 2)) (.bin .Add (.idx (.var 0) (.cst (.int 2))) (.cst (.int 1)))) (.seq (.asg (.one 3) (.bin .Mod (.bf .int (.cons (.bin .Pow (.bin .Add (.idx (.var 0) (.cst (.int 1))) (.bin .Mult (.cst (.int 1000151)) (.idx (.var 0) (.cst (.int 2))))) (.cst (.int 3))) .nil)) (.cst (.int 2305843009213693921)))) (.seq (.asg (.one 3) (.bin .Mod (.bf .int (.cons (.bin .Pow (.bin .Add (.var 3) (.bin .Mult (.cst (.int 27644437)) (.idx (.var 0) (.cst (.int 2))))) (.cst (.int 2))) .nil)) (.cst (.int 2305843009213693951)))) (.seq (.ret (.bin .Mod (.bf .int (.cons (.bin .FloorDiv (.var 3) (.cst (.int 1024))) .nil)) (.var 1))) .skip)))))
def xOf : St := (.seq (.ret (.idx (.var 1) (.call "_law_take" (.cons (.var 0) (.cons (.bf .len (.cons (.var 1) .nil)) .nil))))) .skip)
def xBag : St := (.seq (.asg (.one 2) (.ite (.val (.cmp .Lt (.var 1) (.bf .len (.cons (.var 0) .nil)))) (.idx (.var 0) (.var 1)) (.cst (.int 0)))) (.seq (.asg (.one 3) (.ite (.val (.cmp .GtE (.bf .abs (.cons (.var 2) .nil)) (.bin .Pow (.cst (.int 10)) (.cst (.int 18))))) (.bf .abs (.cons (.var 2) .nil)) (.cst (.int 0)))) (.seq (.ret (.lst (.cons (.var 3) (.cons (.bin .Mod (.bin .Mult (.bf .int (.cons (.bin .Add (.bin .Add (.bin .Mod (.bf .int (.cons (.var 2) .nil)) (.cst (.int 2305843009213693951))) (.bin .Mult (.cst (.int 7817)) (.var 1))) (.cst (.int 77))) .nil)) (.cst (.int 6700417))) (.cst (.int 2305843009213693951))) (.cons (.cst (.int 0)) .nil))))) .skip)))
/-- a bag at i: B draws may come -/
def Bag (h : VH) (i : Nat) (B : Nat) : Prop := ∃ d c k : Int, h[i]? = some (.lst [.int d, .int c, .int k]) ∧ 0 ≤ d ∧ 0 ≤ c ∧ c < 2305843009213693951 ∧ 0 ≤ k ∧ k + B ≤ 1000000000
theorem Bag.mono {h : VH} {i B B' : Nat} (b : Bag h i B) (l : B' ≤ B) : Bag h i B' := by
  obtain ⟨d, c, k, h1, h2, h3, h4, h5, h6⟩ := b
  exact ⟨d, c, k, h1, h2, h3, h4, h5, by omega⟩
theorem Bag.keep {h h' : VH} {i B : Nat} (b : Bag h i B) (l : HLe h h') : Bag h' i B := by
  obtain ⟨d, c, k, h1, r⟩ := b
  exact ⟨d, c, k, l _ _ h1, r⟩
section
variable {G : Tx}
/-- what a def's texts give: the draws -/
structure Drw (G : Tx) : Prop where
  bag : G.fns "_law_bag" = some ⟨2, 4, xBag, []⟩
  take : G.fns "_law_take" = some ⟨2, 4, xTake, []⟩
  of_ : G.fns "_law_of" = some ⟨2, 2, xOf, []⟩
theorem take_ok (D : Drw G) {n : Nat} (hn : 2 ≤ n) {h : VH} {i B : Nat} {m : Int} (b : Bag h i (B + 1)) (h0 : 0 < m) (h1 : m < 1073741824) : ∃ (r : Int) (h' : VH), run G n "_law_take" [.ref i, .int m] h = some (.ok (.int r) h') ∧ 0 ≤ r ∧ r < m ∧ Bag h' i B ∧ HLx i h h' := by
  rw [run_of D.take hn]
  obtain ⟨d, c, k, e, hd, hc, hc2, hk, hB⟩ := b
  have hl := lt_of_get e
  by_cases q : 0 < d
  · refine ⟨d % m, h.set i (.lst [.int (d / m), .int c, .int k]), ?_, Int.emod_nonneg _ (by omega), Int.emod_lt_of_pos _ h0, ⟨d / m, c, k, by simp [hl], Int.ediv_nonneg hd (by omega), hc, hc2, hk, by omega⟩, HLx.set _ _ _⟩
    simp [bodyF, xTake, evS, evE, evEs, evT, Rb, Sb, sthen, index, seqOf, obj, e, place, cmpop, ok1, truth, binop, callb, h0, h1, q]
  · have a1 : (c + 1000151 * (k + 1)).natAbs < 18446744073709551616 := by omega
    have m1a : 0 ≤ (c + 1000151 * (k + 1)) ^ 3 % 2305843009213693921 := Int.emod_nonneg _ (by omega)
    have m1b : (c + 1000151 * (k + 1)) ^ 3 % 2305843009213693921 < 2305843009213693921 := Int.emod_lt_of_pos _ (by omega)
    have a2 : ((c + 1000151 * (k + 1)) ^ 3 % 2305843009213693921 + 27644437 * (k + 1)).natAbs < 18446744073709551616 := by omega
    have es : ∀ o : Ho, (h.set i o)[i]? = some o := fun o => by rw [List.getElem?_set_self hl]
    refine ⟨_, h.set i (.lst [.int d, .int c, .int (k + 1)]), ?_, Int.emod_nonneg (((c + 1000151 * (k + 1)) ^ 3 % 2305843009213693921 + 27644437 * (k + 1)) ^ 2 % 2305843009213693951 / 1024) (by omega), Int.emod_lt_of_pos _ h0, ⟨d, c, k + 1, es _, hd, hc, hc2, by omega, by omega⟩, HLx.set _ _ _⟩
    simp [bodyF, xTake, evS, evE, evEs, evT, Rb, Sb, sthen, index, seqOf, obj, e, place, cmpop, ok1, truth, binop, callb, h0, h1, q, es, a1, a2]
theorem of_ok (D : Drw G) {n : Nat} (hn : 4 ≤ n) {h : VH} {i B j : Nat} {xs : List Vv} (b : Bag h i (B + 1)) (hj : h[j]? = some (.lst xs)) (hx : 0 < xs.length) (hx2 : xs.length < 1000000) (hij : j ≠ i) : ∃ (v : Vv) (h' : VH), run G n "_law_of" [.ref i, .ref j] h = some (.ok v h') ∧ v ∈ xs ∧ Bag h' i B ∧ HLx i h h' := by
  rw [run_of D.of_ (by omega)]
  obtain ⟨r, h', e1, r0, r1, b', x⟩ := take_ok D (n := n - 1) (by omega) (m := xs.length) b (by omega) (by omega)
  have hj' := x j _ hij hj
  obtain ⟨k, rfl⟩ := Int.eq_ofNat_of_zero_le r0
  have hk : k < xs.length := by omega
  refine ⟨xs[k], h', ?_, List.getElem_mem hk, b', x⟩
  simp [bodyF, xOf, evS, evE, evEs, evT, Rb, Sb, sthen, index, seqOf, obj, hj, hj', place, ok1, callb, orc_call, call_of D.take, e1, hk]
theorem pow18 {h : VH} : binop .Pow (.int 10) (.int 18) h = some (.ok (.int 1000000000000000000) h) := by
  have e : (10 : Int) ^ 18 = 1000000000000000000 := by decide +kernel
  show (if 0 ≤ (18 : Int) ∧ (18 : Int) ≤ 1000000 ∧ (10 : Int).natAbs < 2 ^ 64 then ok1 (.int ((10 : Int) ^ (18 : Int).toNat)) h else none) = _
  rw [if_pos (by decide)]
  show ok1 (.int ((10 : Int) ^ 18)) h = _
  rw [e]
  rfl
theorem bAdd {i j : Int} {h : VH} : binop .Add (.int i) (.int j) h = some (.ok (.int (i + j)) h) := rfl
theorem bMod {i j : Int} {h : VH} (q : 0 < j) : binop .Mod (.int i) (.int j) h = some (.ok (.int (i % j)) h) := if_pos q
theorem bMul {i j : Int} {h : VH} (q : -(2 ^ 64) < j ∧ j < 2 ^ 64) : binop .Mult (.int i) (.int j) h = some (.ok (.int (i * j)) h) := if_pos (.inr q)
theorem bMulL {i j : Int} {h : VH} (q : -(2 ^ 64) < i ∧ i < 2 ^ 64) : binop .Mult (.int i) (.int j) h = some (.ok (.int (i * j)) h) := if_pos (.inl q)
theorem bag_new {h : VH} {d c : Int} (h1 : 0 ≤ d) (h2 : 0 ≤ c) (h3 : c < 2305843009213693951) {B : Nat} (hB : B ≤ 1000000000) : Bag (h ++ [Ho.lst [.int d, .int c, .int 0]]) h.length B := by
  refine ⟨d, c, 0, get_new, h1, h2, h3, Int.le_refl 0, ?_⟩
  rw [Int.zero_add]
  exact Int.ofNat_le.mpr hB
theorem bag_c (z : Int) (at_ : Nat) : ∃ c : Int, c = (z % 2305843009213693951 + 7817 * at_ + 77) * 6700417 % 2305843009213693951 ∧ 0 ≤ c ∧ c < 2305843009213693951 := ⟨_, rfl, Int.emod_nonneg _ (by decide), Int.emod_lt_of_pos _ (by decide)⟩
theorem bag_d (z : Int) : ∃ u d : Int, u = (if z < 0 then -z else z) ∧ d = (if 1000000000000000000 ≤ u then u else 0) ∧ 0 ≤ d := ⟨_, _, rfl, rfl, by split <;> split <;> omega⟩
def xBag2 : St := (.seq (.asg (.one 3) (.ite (.val (.cmp .GtE (.bf .abs (.cons (.var 2) .nil)) (.bin .Pow (.cst (.int 10)) (.cst (.int 18))))) (.bf .abs (.cons (.var 2) .nil)) (.cst (.int 0)))) (.seq (.ret (.lst (.cons (.var 3) (.cons (.bin .Mod (.bin .Mult (.bf .int (.cons (.bin .Add (.bin .Add (.bin .Mod (.bf .int (.cons (.var 2) .nil)) (.cst (.int 2305843009213693951))) (.bin .Mult (.cst (.int 7817)) (.var 1))) (.cst (.int 77))) .nil)) (.cst (.int 6700417))) (.cst (.int 2305843009213693951))) (.cons (.cst (.int 0)) .nil))))) .skip))
theorem bag2 {o : Orc} {h : VH} {z : Int} {at_ : Nat} {x : Option Vv} {u d c : Int} (hu : u = (if z < 0 then -z else z)) (hd : d = (if 1000000000000000000 ≤ u then u else 0)) (hc : c = (z % 2305843009213693951 + 7817 * at_ + 77) * 6700417 % 2305843009213693951) :
    evS G o xBag2 [x, some (.int at_), some (.int z), none] h = some (.rt (.ref h.length) (h ++ [Ho.lst [.int d, .int c, .int 0]])) := by
  by_cases q : 1000000000000000000 ≤ u
  · rw [if_pos q] at hd
    subst hd
    simp [xBag2, evS, evE, evEs, evT, Rb, Sb, sthen, cmpop, ok1, truth, pow18, bAdd, bMod, bMul, bMulL, callb, q, new, sz, ← hu, ← hc]
  · rw [if_neg q] at hd
    subst hd
    simp [xBag2, evS, evE, evEs, evT, Rb, Sb, sthen, cmpop, ok1, truth, pow18, bAdd, bMod, bMul, bMulL, callb, q, new, sz, ← hu, ← hc]
/-- the bag of a cell -/
theorem bag_ok (D : Drw G) {n : Nat} (hn : 2 ≤ n) {h : VH} {i : Nat} {ns : List Int} {at_ : Nat} (hi : h[i]? = some (.rol (ns.map .int))) : ∃ h', run G n "_law_bag" [.ref i, .int at_] h = some (.ok (.ref h.length) h') ∧ Bag h' h.length 1000000000 ∧ HLe h h' := by
  rw [run_of D.bag hn]
  have go : ∀ z : Int, evS G (orcOf G (run G (n - 1)) (run G (n - 2))) (.asg (.one 2) (.ite (.val (.cmp .Lt (.var 1) (.bf .len (.cons (.var 0) .nil)))) (.idx (.var 0) (.var 1)) (.cst (.int 0)))) [some (.ref i), some (.int at_), none, none] h = some (.nx [some (.ref i), some (.int at_), some (.int z), none] h) →
      ∃ h', bodyF G (orcOf G (run G (n - 1)) (run G (n - 2))) ⟨2, 4, xBag, []⟩ [.ref i, .int at_] h = some (.ok (.ref h.length) h') ∧ Bag h' h.length 1000000000 ∧ HLe h h' := fun z e => by
    obtain ⟨c, hc, h1, h2⟩ := bag_c z at_
    obtain ⟨u, d, hu, hd, h3⟩ := bag_d z
    refine ⟨_, ?_, bag_new h3 h1 h2 (Nat.le_refl _), HLe.app _ _⟩
    rw [body_of rfl]
    exact congrArg retR (seq_nx e (bag2 hu hd hc))
  by_cases q : at_ < ns.length
  · exact go ns[at_] (by simp [evS, evE, evEs, evT, Rb, Sb, index, seqOf, obj, hi, place, cmpop, ok1, truth, callb, q])
  · exact go 0 (by simp [evS, evE, evEs, evT, Rb, Sb, index, seqOf, obj, hi, place, cmpop, ok1, truth, callb, q])
end
end Pl

set_option linter.all false
set_option autoImplicit false
set_option maxRecDepth 100000
set_option maxHeartbeats 1000000
namespace Pl
open PySem Dv
def LETTERS : Str := "abcdefghijklmnopqrstuvwxyz"
def hasS (b a : Str) : Bool := !(Builtin.Str.occurrences b a 0 b.length 1).isEmpty
def letter (c : Nat) : Bool := hasS LETTERS ⟨#[c]⟩
def reserved : List Vv := [(.str "define"), (.str "undef"), (.str "include"), (.str "body"), (.str "need"), (.str "stop"), (.str "if"), (.str "elif"), (.str "else"), (.str "endif"), (.str "not"), (.str "and"), (.str "or"), (.str "was"), (.str "has"), (.str "name"), (.str "header")]
def isRes (z : Str) : Bool := reserved.any fun u => feq u (.str z)
def isW (z : Str) : Bool := decide (1 ≤ (z.length : Int)) && decide ((z.length : Int) ≤ 8) && !isRes z && z.cps.toList.all letter
def isWV : Vv → Bool
  | .str z => isW z
  | _ => false
def xIsInt : St := (.seq (.ret (.and (.bf .isinst (.cons (.var 0) (.cons (.cst (.ty "int")) .nil))) (.not (.bf .isinst (.cons (.var 0) (.cons (.cst (.ty "bool")) .nil)))))) .skip)
def xIsWord : St := (.seq (.ifs (.or (.not (.val (.bf .isinst (.cons (.var 0) (.cons (.cst (.ty "str")) .nil))))) (.or (.not (.val (.chain .LtE .LtE (.cst (.int 1)) (.bf .len (.cons (.var 0) .nil)) (.cst (.int 8))))) (.val (.cmp .In (.var 0) (.cst (.con "RESERVED")))))) (.seq (.ret (.cst (.bl false))) .skip) .skip) (.seq (.ret (.bf .all (.cons (.lc (.cmp .In (.var 1) (.cst (.str "abcdefghijklmnopqrstuvwxyz"))) [1] [1] (.val (.var 0)) .yes) .nil))) .skip))
def xIsVal : St := (.seq (.ret (.or (.cmp .Is (.var 0) (.cst .non)) (.and (.call "is_integer" (.cons (.var 0) .nil)) (.chain .LtE .Lt (.cst (.int 0)) (.var 0) (.var 1))))) .skip)
structure Wrd (G : Tx) : Prop where
  int : G.fns "is_integer" = some ⟨1, 1, xIsInt, []⟩
  word : G.fns "is_word" = some ⟨1, 2, xIsWord, []⟩
  val : G.fns "is_value" = some ⟨2, 2, xIsVal, []⟩
  res : G.cons "RESERVED" = some (.tup reserved)
section
variable {G : Tx} {n : Nat} {h : VH} {v : Vv} {T : String}
theorem isi_ty {m : String} (t : tyv G h v = some (.ty T)) (hm : m ∈ ["int", "bool", "str", "list", "tuple", "dict"]) : isinst G v (.ty m) h = some (T == m || (T == "bool" && m == "int")) := by
  unfold isinst
  rw [t]
  show (if (["int", "bool", "str", "list", "tuple", "dict"].contains m) = true then some (T == m || (T == "bool" && m == "int")) else none) = _
  exact if_pos (List.contains_iff_mem.mpr hm)
theorem ty_obj {o : Option Ho} (t : (match o with
    | some (.lst _) => some (.ty "list")
    | some (.rol _) => some (.ty "list")
    | some (.tup _) => some (.ty "tuple")
    | some (.dct _) => some (.ty "dict")
    | some (.ins c _) => if G.clsI.contains c then some (.cls c) else none
    | _ => none) = some (Vv.ty T)) : T = "list" ∨ T = "tuple" ∨ T = "dict" := by
  split at t
  · simp only [Option.some.injEq, Vv.ty.injEq] at t; exact .inl t.symm
  · simp only [Option.some.injEq, Vv.ty.injEq] at t; exact .inl t.symm
  · simp only [Option.some.injEq, Vv.ty.injEq] at t; exact .inr (.inl t.symm)
  · simp only [Option.some.injEq, Vv.ty.injEq] at t; exact .inr (.inr t.symm)
  · split at t <;> cases t
  · cases t
theorem ty_ref {i : Nat} (t : tyv G h (.ref i) = some (.ty T)) : T = "list" ∨ T = "tuple" ∨ T = "dict" := ty_obj (o := h[i]?) t
theorem ty_con {i : Str} (t : tyv G h (.con i) = some (.ty T)) : T = "list" ∨ T = "tuple" ∨ T = "dict" := ty_obj (o := G.cons i) t
theorem isint_ok (D : Wrd G) (hn : 2 ≤ n) (t : tyv G h v = some (.ty T)) : run G n "is_integer" [v] h = some (.ok (.bl (T == "int")) h) := by
  refine run_ev D.int hn rfl rfl (r := some (.rt (.bl (T == "int")) h)) ?_ rfl
  have e1 := isi_ty (m := "int") t (by decide)
  have e2 := isi_ty (m := "bool") t (by decide)
  by_cases q : T = "int"
  · subst q
    simp [-List.append_assoc, evS, evE, evEs, evT, evI, Rb, Sb, sthen, ok1, truth, xIsInt, callb, e1, e2]
  · by_cases q2 : T = "bool"
    · subst q2
      simp [-List.append_assoc, evS, evE, evEs, evT, evI, Rb, Sb, sthen, ok1, truth, xIsInt, callb, e1, e2]
    · have q' : (T == "int") = false := by simpa using q
      have q2' : (T == "bool") = false := by simpa using q2
      simp [-List.append_assoc, evS, evE, evEs, evT, evI, Rb, Sb, sthen, ok1, truth, xIsInt, callb, e1, e2, q', q2']
/-- a comprehension whose parts only read -/
theorem lc_pure {α : Type} {e : Sl → VH → Option (Re Vv)} {cd : Sl → VH → Option (Re Bool)} {s : Sl} {tg : List Nat} {kp : VH → Bool} {it : α → List Vv} {g : α → Bool} {f : α → Vv} (hk : ∀ acc, kp (h ++ [.lst acc]) = true)
    (he : ∀ x acc, ∃ s1, setT tg s (it x) = some s1 ∧ cd s1 (h ++ [.lst acc]) = some (.ok (g x) (h ++ [.lst acc])) ∧ (g x = true → e s1 (h ++ [.lst acc]) = some (.ok (f x) (h ++ [.lst acc])))) :
    ∀ (xs : List α) (acc : List Vv), acc.length + xs.length ≤ sz → lcF e cd s tg kp h.length (xs.map it) (h ++ [.lst acc]) = some (.ok (.ref h.length) (h ++ [.lst (acc ++ (xs.filter g).map f)]))
  | [], acc, _ => by simp [lcF, hk]
  | x :: xs, acc, hl => by
    obtain ⟨s1, e1, e2, e3⟩ := he x acc
    simp only [List.length_cons] at hl
    have ac : acc.length < sz := by omega
    cases q : g x with
    | true =>
      have ih := lc_pure (it := it) (g := g) (f := f) hk he xs (acc ++ [f x]) (by rw [List.length_append, List.length_singleton]; omega)
      simp only [List.map_cons, lcF, hk, e1, e2, q, e3 q, get_new, ac, if_true]
      rw [show (h ++ [Ho.lst acc]).set h.length (.lst (acc ++ [f x])) = h ++ [.lst (acc ++ [f x])] by simp]
      rw [ih]
      simp [List.filter_cons, q]
    | false =>
      have ih := lc_pure (it := it) (g := g) (f := f) hk he xs acc (by omega)
      simp only [List.map_cons, lcF, hk, e1, e2, q, if_true]
      rw [ih]
      simp [List.filter_cons, q]
theorem bools_map {α : Type} (f : α → Bool) : ∀ xs : List α, bools (xs.map fun x => .bl (f x)) = some (xs.map f)
  | [] => rfl
  | x :: xs => by
    show (bools (xs.map fun x => .bl (f x))).map (f x :: ·) = _
    rw [bools_map f xs]; rfl
theorem bools_all (bs : List Bool) : bools (bs.map .bl) = some bs := by
  induction bs with
  | nil => rfl
  | cons b r ih => show (bools (r.map .bl)).map (b :: ·) = _; rw [ih]; rfl
theorem filter_true {α : Type} (xs : List α) : xs.filter (fun _ => true) = xs := by simp
theorem word_no (D : Wrd G) (hn : 2 ≤ n) (t : tyv G h v = some (.ty T)) (q : T ≠ "str") : run G n "is_word" [v] h = some (.ok (.bl false) h) := by
  refine run_ev D.word hn rfl rfl (r := some (.rt (.bl false) h)) ?_ rfl
  have e1 := isi_ty (m := "str") t (by decide)
  have q' : (T == "str") = false := by simpa using q
  simp [-List.append_assoc, evS, evE, evEs, evT, evI, Rb, Sb, sthen, ok1, truth, xIsWord, callb, e1, q']
theorem word_str (D : Wrd G) (hn : 2 ≤ n) {z : Str} (hz : z.length ≤ 1000000) : ∃ g, run G n "is_word" [.str z] h = some (.ok (.bl (isW z)) (h ++ g)) := by
  have hz2 : z.length ≤ sz := Nat.le_trans hz (by decide)
  have e1 := isi_ty (G := G) (h := h) (v := .str z) (m := "str") (T := "str") rfl (by decide)
  have hin : cmpop G (orcOf G (run G (n - 1)) (run G (n - 2))) .In (.str z) (.con "RESERVED") h = some (.ok (.bl (isRes z)) h) := by
    have hf : (flat (.str z) && reserved.all flat) = true := rfl
    show (seqOf G h (.con "RESERVED")).bind _ = _
    have hs : seqOf G h (.con "RESERVED") = some reserved := by simp [seqOf, obj, D.res]
    rw [hs]
    show (if (flat (.str z) && reserved.all flat) = true then _ else none) = _
    rw [if_pos hf]
    rfl
  by_cases q1 : 1 ≤ (z.length : Int)
  · by_cases q2 : (z.length : Int) ≤ 8
    · cases q3 : isRes z with
      | true =>
        refine ⟨[], run_ev D.word hn rfl rfl (r := some (.rt (.bl false) h)) ?_ (by simp [retR, isW, q3])⟩
        have l1 : cmpop G (orcOf G (run G (n - 1)) (run G (n - 2))) .LtE (.int 1) (.int z.length) h = some (.ok (.bl true) h) := by simp [cmpop, ok1, q1]
        have l2 : cmpop G (orcOf G (run G (n - 1)) (run G (n - 2))) .LtE (.int z.length) (.int 8) h = some (.ok (.bl true) h) := by simp [cmpop, ok1, q2]
        simp [-List.append_assoc, evS, evE, evEs, evT, evI, Rb, Sb, sthen, ok1, truth, xIsWord, callb, e1, hz2, l1, l2, hin, q3]
      | false =>
        refine ⟨[.lst (z.cps.toList.map fun c => .bl (letter c))], run_ev D.word hn rfl rfl (r := some (.rt (.bl (z.cps.toList.all letter)) (h ++ [.lst (z.cps.toList.map fun c => .bl (letter c))]))) ?_ (by simp [retR, isW, q1, q2, q3])⟩
        have c1 : callb G .isinst [.str z, .ty "str"] h = some (.ok (.bl true) h) := by simp [callb, e1, ok1]
        have c2 : callb G .len [.str z] h = some (.ok (.int z.length) h) := by simp [callb, hz2, ok1]
        show evS G _ xIsWord [some (.str z), none] h = _
        unfold xIsWord
        refine seq_nx (s1 := [some (.str z), none]) (h1 := h) ?_ (seq_rt (ret_of ?_))
        · have l1 : cmpop G (orcOf G (run G (n - 1)) (run G (n - 2))) .LtE (.int 1) (.int z.length) h = some (.ok (.bl true) h) := by simp [cmpop, ok1, q1]
          have l2 : cmpop G (orcOf G (run G (n - 1)) (run G (n - 2))) .LtE (.int z.length) (.int 8) h = some (.ok (.bl true) h) := by simp [cmpop, ok1, q2]
          simp [-List.append_assoc, evS, evE, evEs, evT, evI, Rb, Sb, sthen, ok1, truth, c1, c2, l1, l2, hin, q3]
        · have lcr := lc_pure (h := h) (e := evE G (orcOf G (run G (n - 1)) (run G (n - 2))) (.cmp .In (.var 1) (.cst (.str "abcdefghijklmnopqrstuvwxyz")))) (cd := evT G (orcOf G (run G (n - 1)) (run G (n - 2))) .yes) (s := [some (.str z), none]) (tg := [1]) (kp := keeps G ⟨z.cps.toList.map fun c => [.str ⟨#[c]⟩], none, [], false, false⟩) (it := fun c : Nat => [.str ⟨#[c]⟩]) (g := fun _ => true) (f := fun c => .bl (letter c)) (fun _ => rfl)
            (fun c acc => ⟨[some (.str z), some (.str ⟨#[c]⟩)], rfl, rfl, fun _ => rfl⟩) z.cps.toList [] (by simp only [List.length_nil, Nat.zero_add]; exact hz2)
          have l1 : evE G (orcOf G (run G (n - 1)) (run G (n - 2))) (.lc (.cmp .In (.var 1) (.cst (.str "abcdefghijklmnopqrstuvwxyz"))) [1] [1] (.val (.var 0)) .yes) [some (.str z), none] h = some (.ok (.ref h.length) (h ++ [.lst (z.cps.toList.map fun c => .bl (letter c))])) := by
            simp only [filter_true, List.nil_append] at lcr
            exact lcr
          show Rb (Rb (evE G _ (.lc _ _ _ _ _) _ h) _) _ = _
          rw [l1]
          show callb G .all [.ref h.length] (h ++ [.lst _]) = _
          show (match (h ++ [Ho.lst (z.cps.toList.map fun c => Vv.bl (letter c))])[h.length]? with | some (.lst xs) => (bools xs).bind fun bs => ok1 (.bl (bs.all id)) (h ++ [Ho.lst (z.cps.toList.map fun c => Vv.bl (letter c))]) | _ => none) = _
          rw [get_new]
          show (bools _).bind _ = _
          rw [bools_map]
          simp [ok1, List.all_map]
    · refine ⟨[], run_ev D.word hn rfl rfl (r := some (.rt (.bl false) h)) ?_ (by simp [retR, isW, q2])⟩
      simp [-List.append_assoc, evS, evE, evEs, evT, evI, Rb, Sb, sthen, ok1, truth, xIsWord, callb, e1, hz2, cmpop, q1, q2]
  · refine ⟨[], run_ev D.word hn rfl rfl (r := some (.rt (.bl false) h)) ?_ (by simp [retR, isW, q1])⟩
    simp [-List.append_assoc, evS, evE, evEs, evT, evI, Rb, Sb, sthen, ok1, truth, xIsWord, callb, e1, hz2, cmpop, q1]
theorem word_ok (D : Wrd G) (hn : 2 ≤ n) (t : tyv G h v = some (.ty T)) (hz : ∀ z, v = .str z → z.length ≤ 1000000) : ∃ g, run G n "is_word" [v] h = some (.ok (.bl (isWV v)) (h ++ g)) := by
  have nos : ∀ u, v = u → (∀ z, u ≠ .str z) → T ≠ "str" → isWV v = false → ∃ g, run G n "is_word" [v] h = some (.ok (.bl (isWV v)) (h ++ g)) := fun u _ _ q e => ⟨[], by rw [e, List.append_nil]; exact word_no D hn t q⟩
  cases v with
  | str z => exact word_str D hn (hz z rfl)
  | non => cases t; exact nos _ rfl nofun (by decide) rfl
  | bl b => cases t; exact nos _ rfl nofun (by decide) rfl
  | int b => cases t; exact nos _ rfl nofun (by decide) rfl
  | ref i =>
    refine nos _ rfl nofun ?_ rfl
    rcases ty_ref t with e | e | e <;> subst e <;> decide
  | con i =>
    refine nos _ rfl nofun ?_ rfl
    rcases ty_con t with e | e | e <;> subst e <;> decide
  | _ => cases t
/-- None, or an integer from 0 to size - 1 -/
def isValV (size : Int) : Vv → Bool
  | .non => true
  | .int i => decide (0 ≤ i) && decide (i < size)
  | _ => false
theorem val_ok (D : Wrd G) (hn : 4 ≤ n) (t : tyv G h v = some (.ty T)) {size : Int} : run G n "is_value" [v, .int size] h = some (.ok (.bl (isValV size v)) h) := by
  refine run_ev D.val (by omega) rfl rfl (r := some (.rt (.bl (isValV size v)) h)) ?_ rfl
  have hi := isint_ok D (n := n - 1) (by omega) t
  have no : T ≠ "int" → v ≠ .non → isValV size v = false → evS G (orcOf G (run G (n - 1)) (run G (n - 2))) xIsVal [some v, some (.int size)] h = some (.rt (.bl (isValV size v)) h) := fun q q2 q3 => by
    have q' : (T == "int") = false := by simpa using q
    rw [q3]
    simp [-List.append_assoc, evS, evE, evEs, evT, evI, Rb, Sb, sthen, ok1, truth, xIsVal, cmpop, orc_call, call_of D.int, hi, q', q2]
  cases v with
  | non => simp [-List.append_assoc, evS, evE, evEs, evT, evI, Rb, Sb, sthen, ok1, truth, xIsVal, cmpop, isValV]
  | int i =>
    cases t
    by_cases q : 0 ≤ i
    · simp [-List.append_assoc, evS, evE, evEs, evT, evI, Rb, Sb, sthen, ok1, truth, xIsVal, cmpop, isValV, orc_call, call_of D.int, hi, q]
    · simp [-List.append_assoc, evS, evE, evEs, evT, evI, Rb, Sb, sthen, ok1, truth, xIsVal, cmpop, isValV, orc_call, call_of D.int, hi, q]
  | str z => cases t; exact no (by decide) nofun rfl
  | bl z => cases t; exact no (by decide) nofun rfl
  | ref i =>
    refine no ?_ nofun rfl
    rcases ty_ref t with e | e | e <;> subst e <;> decide
  | con i =>
    refine no ?_ nofun rfl
    rcases ty_con t with e | e | e <;> subst e <;> decide
  | _ => cases t
end
end Pl

set_option linter.all false
set_option autoImplicit false
set_option maxRecDepth 100000
set_option maxHeartbeats 1000000
namespace Pl
open PySem Dv
def HLd (h h' : VH) : Prop := ∀ (j : Nat) (o : Ho), o ≠ .dead → h[j]? = some o → h'[j]? = some o
theorem HLe.d {h h' : VH} (a : HLe h h') : HLd h h' := fun j o _ e => a j o e
theorem HLd.trans {a b c : VH} (x : HLd a b) (y : HLd b c) : HLd a c := fun j o n e => y j o n (x j o n e)
theorem HLx.d {i : Nat} {h h' : VH} (a : HLx i h h') : HLd (h.set i .dead) h' := fun j o n e => by
  by_cases q : j = i
  · subst q
    have hl := lt_of_get e
    rw [List.length_set] at hl
    rw [List.getElem?_set_self hl] at e
    cases e
    exact absurd rfl n
  · rw [List.getElem?_set_ne (Ne.symm q)] at e
    exact a j o q e
theorem HLx.dd {i : Nat} {h h' : VH} (a : HLx i h h') : HLd (h.set i .dead) (h'.set i .dead) := fun j o n e => by
  by_cases q : j = i
  · subst q
    have hl := lt_of_get e
    rw [List.length_set] at hl
    rw [List.getElem?_set_self hl] at e
    cases e
    exact absurd rfl n
  · rw [List.getElem?_set_ne (Ne.symm q)] at e ⊢
    exact a j o q e
theorem HLd.self (i : Nat) (h : VH) : HLd (h.set i .dead) h := HLx.d (i := i) (fun j o _ e => e)
section
variable {G : Tx} {n : Nat} {h h' : VH} {v : Vv} {d : PyData}
theorem mapM_mono {f g : Vv → Option PyData} (k : ∀ x y, f x = some y → g x = some y) : ∀ {xs : List Vv} {ys : List PyData}, xs.mapM f = some ys → xs.mapM g = some ys
  | [], ys, e => e
  | x :: xs, ys, e => by
    rw [List.mapM_cons] at e ⊢
    cases q : f x with
    | none => rw [q] at e; cases e
    | some y =>
      rw [q] at e
      rw [k x y q]
      cases q2 : xs.mapM f with
      | none => rw [q2] at e; cases e
      | some zs => rw [q2] at e; rw [mapM_mono k q2]; exact e
theorem dat_mono (l : HLd h h') : ∀ (n : Nat) {v : Vv} {d : PyData}, dat G h n v = some d → dat G h' n v = some d
  | 0, v, d, e => by cases v <;> first | exact e | cases e
  | n + 1, v, d, e => by
    cases v with
    | ref i =>
      simp only [dat] at e ⊢
      cases q : h[i]? with
      | none => rw [q] at e; cases e
      | some o =>
        rw [q] at e
        cases o with
        | lst xs =>
          rw [l i (.lst xs) (fun z => nomatch z) q]
          obtain ⟨ds, h1, rfl⟩ := Option.map_eq_some_iff.mp e
          simp only [mapM_mono (fun x y z => dat_mono l n z) h1, Option.map_some]
        | tup xs =>
          rw [l i (.tup xs) (fun z => nomatch z) q]
          obtain ⟨ds, h1, rfl⟩ := Option.map_eq_some_iff.mp e
          simp only [mapM_mono (fun x y z => dat_mono l n z) h1, Option.map_some]
        | _ => cases e
    | con i =>
      simp only [dat] at e ⊢
      cases q : G.cons i with
      | none => rw [q] at e; cases e
      | some o =>
        rw [q] at e
        cases o with
        | lst xs =>
          obtain ⟨ds, h1, rfl⟩ := Option.map_eq_some_iff.mp e
          simp only [mapM_mono (fun x y z => dat_mono l n z) h1, Option.map_some]
        | tup xs =>
          obtain ⟨ds, h1, rfl⟩ := Option.map_eq_some_iff.mp e
          simp only [mapM_mono (fun x y z => dat_mono l n z) h1, Option.map_some]
        | _ => cases e
    | _ => exact e
def tyD : PyData → String
  | .none => "NoneType"
  | .bool _ => "bool"
  | .int _ => "int"
  | .str _ => "str"
  | .list _ => "list"
  | .tuple _ => "tuple"
  | .dict _ => "dict"
/-- a value that reads as data -/
inductive DatV (G : Tx) (h : VH) (n : Nat) : Vv → PyData → Prop where
  | non : DatV G h n .non .none
  | bl (b : Bool) : DatV G h n (.bl b) (.bool b)
  | int (i : Int) : DatV G h n (.int i) (.int i)
  | str (z : Str) : DatV G h n (.str z) (.str z)
  | lst {i : Nat} {xs : List Vv} {ds : List PyData} (e : h[i]? = some (.lst xs)) : DatV G h n (.ref i) (.list ds)
  | tup {i : Nat} {xs : List Vv} {ds : List PyData} (e : h[i]? = some (.tup xs)) : DatV G h n (.ref i) (.tuple ds)
  | clst {i : Str} {xs : List Vv} {ds : List PyData} (e : G.cons i = some (.lst xs)) : DatV G h n (.con i) (.list ds)
  | ctup {i : Str} {xs : List Vv} {ds : List PyData} (e : G.cons i = some (.tup xs)) : DatV G h n (.con i) (.tuple ds)
theorem datv : ∀ {n : Nat} {v : Vv} {d : PyData}, dat G h n v = some d → DatV G h n v d
  | 0, v, d, e => by cases v <;> first | (cases e; constructor) | cases e
  | n + 1, v, d, e => by
    cases v with
    | ref i =>
      simp only [dat] at e
      cases q : h[i]? with
      | none => rw [q] at e; cases e
      | some o =>
        rw [q] at e
        cases o with
        | lst xs => obtain ⟨ds, h1, rfl⟩ := Option.map_eq_some_iff.mp e; exact .lst q
        | tup xs => obtain ⟨ds, h1, rfl⟩ := Option.map_eq_some_iff.mp e; exact .tup q
        | _ => cases e
    | con i =>
      simp only [dat] at e
      cases q : G.cons i with
      | none => rw [q] at e; cases e
      | some o =>
        rw [q] at e
        cases o with
        | lst xs => obtain ⟨ds, h1, rfl⟩ := Option.map_eq_some_iff.mp e; exact .clst q
        | tup xs => obtain ⟨ds, h1, rfl⟩ := Option.map_eq_some_iff.mp e; exact .ctup q
        | _ => cases e
    | non => cases e; constructor
    | bl _ => cases e; constructor
    | int _ => cases e; constructor
    | str _ => cases e; constructor
    | _ => cases e
theorem dat_ty (e : dat G h n v = some d) : tyv G h v = some (.ty (tyD d)) := by
  cases datv e with
  | non => rfl
  | bl b => rfl
  | int i => rfl
  | str z => rfl
  | lst q => simp [tyv, obj, q, tyD]
  | tup q => simp [tyv, obj, q, tyD]
  | clst q => simp [tyv, obj, q, tyD]
  | ctup q => simp [tyv, obj, q, tyD]
def isWD : PyData → Bool
  | .str z => isW z
  | _ => false
theorem dat_w (e : dat G h n v = some d) : isWV v = isWD d := by cases datv e <;> rfl
def isFD (size : Int) : PyData → Bool
  | .none => true
  | .int i => decide (0 ≤ i) && decide (i < size)
  | _ => false
theorem dat_f (e : dat G h n v = some d) (size : Int) : isValV size v = isFD size d := by cases datv e <;> rfl
/-- data that is shown, compared -/
def okD (d : PyData) : Bool := d.showable && !d.hasDict && decide (d.depth ≤ 60) && decide (d.shown.length ≤ 1000) && SeqAt.shaped d && PyData.strOk d.shown && (match d with | .str z => decide (z.length ≤ 1000) | _ => true)
theorem repr_ok (e : dat G h 8 v = some d) (k : okD d = true) : callb G .repr [v] h = some (.ok (.str d.shown) h) := by
  unfold okD at k
  simp only [Bool.and_eq_true] at k
  obtain ⟨⟨⟨⟨⟨⟨k1, k2⟩, k3⟩, k4⟩, k5⟩, k6⟩, k7⟩ := k
  have k4 := of_decide_eq_true k4
  have k8 : d.shown.length ≤ sz := Nat.le_trans k4 (by decide)
  show (dat G h 8 v).bind _ = _
  rw [e]
  show (if (d.showable && !d.hasDict && decide (d.depth ≤ 60) && decide (d.shown.length ≤ sz)) = true then ok1 (.str d.shown) h else none) = _
  rw [if_pos (by simp only [Bool.and_eq_true]; exact ⟨⟨⟨k1, k2⟩, k3⟩, decide_eq_true k8⟩)]
  rfl
theorem eqd_ok {u : Vv} {d' : PyData} (e : dat G h 8 v = some d) (e' : dat G h 8 u = some d') (k : SeqAt.shaped d = true) (k' : SeqAt.shaped d' = true) : eqd G h v u = some (PyData.eqv d d') := by
  unfold eqd
  rw [e, e']
  show (if (SeqAt.shaped d && SeqAt.shaped d') = true then _ else none) = _
  rw [if_pos (by rw [k, k']; rfl)]
theorem okD_sh (k : okD d = true) : SeqAt.shaped d = true := by
  unfold okD at k
  simp only [Bool.and_eq_true] at k
  exact k.1.1.2
theorem okD_len {z : Str} (e : dat G h n v = some d) (k : okD d = true) (q : v = .str z) : z.length ≤ 1000000 := by
  subst q
  cases datv e
  unfold okD at k
  simp only [Bool.and_eq_true] at k
  have := of_decide_eq_true k.2
  omega
end
end Pl

set_option linter.all false
set_option autoImplicit false
set_option maxRecDepth 100000
set_option maxHeartbeats 1000000
namespace Pl
open PySem Dv
def xNInit : St := (.seq (.ifs (.not (.val (.call "is_word" (.cons (.var 1) .nil)))) (.seq (.rais "BadWord" (.cons (.var 1) .nil)) .skip) .skip) (.seq (.ifs (.or (.not (.val (.bf .isinst (.cons (.var 2) (.cons (.cst (.ty "str")) .nil))))) (.val (.cmp .NotIn (.var 2) (.cst (.con "KINDS"))))) (.seq (.rais "BadKind" (.cons (.var 2) .nil)) .skip) .skip) (.seq (.ifs (.or (.not (.val (.call "is_integer" (.cons (.var 3) .nil)))) (.not (.val (.chain .LtE .LtE (.cst (.int 1)) (.var 3) (.cst (.int 8)))))) (.seq (.rais "BadSize" (.cons (.var 3) .nil)) .skip) .skip) (.seq (.ifs (.and (.val (.cmp .IsNot (.var 4) (.cst .non))) (.or (.val (.cmp .NotEq (.var 2) (.cst (.str "inner")))) (.not (.val (.call "is_value" (.cons (.var 4) (.cons (.var 3) .nil))))))) (.seq (.rais "BadValue" (.cons (.var 4) .nil)) .skip) .skip) (.seq (.fld (.var 0) "word" (.var 1)) (.seq (.fld (.var 0) "kind" (.var 2)) (.seq (.fld (.var 0) "size" (.var 3)) (.seq (.fld (.var 0) "start" (.var 4)) .skip))))))))
def xNFields : St := (.seq (.ret (.tup (.cons (.attr (.var 0) "word") (.cons (.attr (.var 0) "kind") (.cons (.attr (.var 0) "size") (.cons (.attr (.var 0) "start") .nil)))))) .skip)
def xNEq : St := (.seq (.ret (.and (.bf .isinst (.cons (.var 1) (.cons (.cst (.cls "Name")) .nil))) (.cmp .Eq (.meth (.var 0) "fields" .nil) (.meth (.var 1) "fields" .nil)))) .skip)
def kinds : List Vv := [(.str "setting"), (.str "open"), (.str "inner")]
def clName : Cl := { flds := ["word", "kind", "size", "start"], props := [], meths := [("__init__", "Name.__init__"), ("fields", "Name.fields"), ("__eq__", "Name.__eq__")] }
def errC : Nat → Str
  | 0 => "BadWord" | 1 => "BadKind" | 2 => "BadSize" | _ => "BadValue"
def errF : Nat → Str
  | 0 => "word" | 1 => "kind" | 2 => "size" | _ => "value"
structure Nam (G : Tx) (kws : List Kp) : Prop where
  wrd : Wrd G
  ini : G.fns "Name.__init__" = some ⟨5, 5, xNInit, kws⟩
  fields : G.fns "Name.fields" = some ⟨1, 1, xNFields, []⟩
  eq : G.fns "Name.__eq__" = some ⟨2, 2, xNEq, []⟩
  kin : G.cons "KINDS" = some (.tup kinds)
  cls : G.cls "Name" = some clName
  err : ∀ j, G.cls (errC j) = some { exc := some [errF j], flds := [errF j] }
  inI : G.clsI.contains "Name" = true
  inL : G.clsL.contains "Name" = true
def isKD : PyData → Bool
  | .str z => kinds.any fun u => feq u (.str z)
  | _ => false
def isSD : PyData → Bool
  | .int i => decide (1 ≤ i) && decide (i ≤ 8)
  | _ => false
def isIntD : PyData → Bool
  | .int _ => true
  | _ => false
def szD : PyData → Int
  | .int i => i
  | _ => 0
/-- is there a start that may not be -/
def badF (k : PyData) (size : Int) : PyData → Bool
  | .none => false
  | f => !(PyData.eqv k (.str "inner") && isFD size f)
/-- the error that is due: its number -/
def dueD (w k s f : PyData) : Option Nat := if isWD w = false then some 0 else if isKD k = false then some 1 else if isSD s = false then some 2 else if badF k (szD s) f = true then some 3 else none
def pick {α : Type} (w k s f : α) : Nat → α
  | 0 => w | 1 => k | 2 => s | _ => f
section
variable {G : Tx} {n : Nat} {h h' : VH} {v w k s f : Vv} {dw dk ds df : PyData} {i : Nat} {kws : List Kp} {o : Orc}
theorem kind_ok (D : Nam G kws) (e : dat G h 8 k = some dk) : evT G o (.or (.not (.val (.bf .isinst (.cons (.var 2) (.cons (.cst (.ty "str")) .nil))))) (.val (.cmp .NotIn (.var 2) (.cst (.con "KINDS"))))) [some v, some w, some k, some s, some f] h = some (.ok (!isKD dk) h) := by
  have t := isi_ty (m := "str") (dat_ty e) (by decide)
  have hin : ∀ z : Str, cmpop G o .NotIn (.str z) (.con "KINDS") h = some (.ok (.bl (!isKD (.str z))) h) := fun z => by
    have hf : (flat (.str z) && kinds.all flat) = true := rfl
    show (seqOf G h (.con "KINDS")).bind _ = _
    have hs : seqOf G h (.con "KINDS") = some kinds := by simp [seqOf, obj, D.kin]
    rw [hs]
    show (if (flat (.str z) && kinds.all flat) = true then _ else none) = _
    rw [if_pos hf]
    rfl
  cases datv e with
  | str z =>
    have t' : isinst G (.str z) (.ty "str") h = some true := t
    simp [-List.append_assoc, evS, evE, evEs, evT, evI, Rb, Sb, sthen, ok1, truth, callb, t', hin]
  | non => simp [-List.append_assoc, evS, evE, evEs, evT, evI, Rb, Sb, sthen, ok1, truth, callb, t, tyD, isKD]
  | bl _ => simp [-List.append_assoc, evS, evE, evEs, evT, evI, Rb, Sb, sthen, ok1, truth, callb, t, tyD, isKD]
  | int _ => simp [-List.append_assoc, evS, evE, evEs, evT, evI, Rb, Sb, sthen, ok1, truth, callb, t, tyD, isKD]
  | lst _ => simp [-List.append_assoc, evS, evE, evEs, evT, evI, Rb, Sb, sthen, ok1, truth, callb, t, tyD, isKD]
  | tup _ => simp [-List.append_assoc, evS, evE, evEs, evT, evI, Rb, Sb, sthen, ok1, truth, callb, t, tyD, isKD]
  | clst _ => simp [-List.append_assoc, evS, evE, evEs, evT, evI, Rb, Sb, sthen, ok1, truth, callb, t, tyD, isKD]
  | ctup _ => simp [-List.append_assoc, evS, evE, evEs, evT, evI, Rb, Sb, sthen, ok1, truth, callb, t, tyD, isKD]
theorem size_ok (D : Nam G kws) (hn : 4 ≤ n) (e : dat G h 8 s = some ds) : evT G (orcOf G (run G (n - 1)) (run G (n - 2))) (.or (.not (.val (.call "is_integer" (.cons (.var 3) .nil)))) (.not (.val (.chain .LtE .LtE (.cst (.int 1)) (.var 3) (.cst (.int 8)))))) [some v, some w, some k, some s, some f] h = some (.ok (!isSD ds) h) := by
  have hi := isint_ok D.wrd (n := n - 1) (by omega) (dat_ty e)
  cases datv e with
  | int i =>
    by_cases q : 1 ≤ i
    · by_cases q2 : i ≤ 8
      · simp [-List.append_assoc, evS, evE, evEs, evT, evI, Rb, Sb, sthen, ok1, truth, cmpop, orc_call, call_of D.wrd.int, hi, tyD, isSD, q, q2]
      · simp [-List.append_assoc, evS, evE, evEs, evT, evI, Rb, Sb, sthen, ok1, truth, cmpop, orc_call, call_of D.wrd.int, hi, tyD, isSD, q, q2]
    · simp [-List.append_assoc, evS, evE, evEs, evT, evI, Rb, Sb, sthen, ok1, truth, cmpop, orc_call, call_of D.wrd.int, hi, tyD, isSD, q]
  | non => simp [-List.append_assoc, evS, evE, evEs, evT, evI, Rb, Sb, sthen, ok1, truth, orc_call, call_of D.wrd.int, hi, tyD, isSD]
  | bl _ => simp [-List.append_assoc, evS, evE, evEs, evT, evI, Rb, Sb, sthen, ok1, truth, orc_call, call_of D.wrd.int, hi, tyD, isSD]
  | str _ => simp [-List.append_assoc, evS, evE, evEs, evT, evI, Rb, Sb, sthen, ok1, truth, orc_call, call_of D.wrd.int, hi, tyD, isSD]
  | lst _ => simp [-List.append_assoc, evS, evE, evEs, evT, evI, Rb, Sb, sthen, ok1, truth, orc_call, call_of D.wrd.int, hi, tyD, isSD]
  | tup _ => simp [-List.append_assoc, evS, evE, evEs, evT, evI, Rb, Sb, sthen, ok1, truth, orc_call, call_of D.wrd.int, hi, tyD, isSD]
  | clst _ => simp [-List.append_assoc, evS, evE, evEs, evT, evI, Rb, Sb, sthen, ok1, truth, orc_call, call_of D.wrd.int, hi, tyD, isSD]
  | ctup _ => simp [-List.append_assoc, evS, evE, evEs, evT, evI, Rb, Sb, sthen, ok1, truth, orc_call, call_of D.wrd.int, hi, tyD, isSD]
theorem start_ok (D : Nam G kws) (hn : 6 ≤ n) {size : Int} (ek : dat G h 8 k = some dk) (ok : SeqAt.shaped dk = true) (e : dat G h 8 f = some df) : evT G (orcOf G (run G (n - 1)) (run G (n - 2))) (.and (.val (.cmp .IsNot (.var 4) (.cst .non))) (.or (.val (.cmp .NotEq (.var 2) (.cst (.str "inner")))) (.not (.val (.call "is_value" (.cons (.var 4) (.cons (.var 3) .nil))))))) [some v, some w, some k, some (.int size), some f] h = some (.ok (badF dk size df) h) := by
  have hv := val_ok D.wrd (n := n - 1) (by omega) (dat_ty e) (size := size)
  rw [dat_f e] at hv
  have hq : cmpop G (orcOf G (run G (n - 1)) (run G (n - 2))) .NotEq k (.str "inner") h = some (.ok (.bl (!PyData.eqv dk (.str "inner"))) h) := by
    show (eqd G h k (.str "inner")).bind _ = _
    rw [eqd_ok ek (u := .str "inner") (d' := .str "inner") rfl ok (by decide +kernel)]
    rfl
  have hc : ∀ vs, callP G (run G (n - 1)) "is_value" vs h = run G (n - 1) "is_value" vs h := fun vs => call_of D.wrd.val rfl
  have nn : f ≠ .non → df ≠ .none → evT G (orcOf G (run G (n - 1)) (run G (n - 2))) (.and (.val (.cmp .IsNot (.var 4) (.cst .non))) (.or (.val (.cmp .NotEq (.var 2) (.cst (.str "inner")))) (.not (.val (.call "is_value" (.cons (.var 4) (.cons (.var 3) .nil))))))) [some v, some w, some k, some (.int size), some f] h = some (.ok (!(PyData.eqv dk (.str "inner") && isFD size df)) h) := fun q q2 => by
    have h1 : cmpop G (orcOf G (run G (n - 1)) (run G (n - 2))) .IsNot f .non h = some (.ok (.bl true) h) := by simp [cmpop, ok1, q]
    cases q3 : PyData.eqv dk (.str "inner") with
    | true =>
      rw [q3] at hq
      simp [-List.append_assoc, evS, evE, evEs, evT, evI, Rb, Sb, sthen, ok1, truth, h1, hq, orc_call, hc, hv]
    | false =>
      rw [q3] at hq
      simp [-List.append_assoc, evS, evE, evEs, evT, evI, Rb, Sb, sthen, ok1, truth, h1, hq]
  cases datv e with
  | non => simp [-List.append_assoc, evS, evE, evEs, evT, evI, Rb, Sb, sthen, ok1, truth, cmpop, badF]
  | _ => exact nn nofun nofun
theorem init_ok (D : Nam G kws) (hn : 6 ≤ n) (hi : h[i]? = some (.ins "Name" [])) (ew : dat G h 8 w = some dw) (ek : dat G h 8 k = some dk) (es : dat G h 8 s = some ds) (ef : dat G h 8 f = some df) (ow : okD dw = true) (okk : okD dk = true) :
    ∃ h', HLx i h h' ∧ i < h'.length ∧ match dueD dw dk ds df with
      | some j => run G n "Name.__init__" [.ref i, w, k, s, f] h = some (.ex ⟨errC j, [(errF j, pick w k s f j)]⟩ h')
      | none => run G n "Name.__init__" [.ref i, w, k, s, f] h = some (.ok .non h') ∧ h'[i]? = some (.ins "Name" [("word", w), ("kind", k), ("size", s), ("start", f)]) := by
  obtain ⟨g, e1⟩ := word_ok D.wrd (n := n - 1) (by omega) (dat_ty ew) (fun z q => okD_len ew ow q)
  rw [dat_w ew] at e1
  have hc : callP G (run G (n - 1)) "is_word" [w] h = run G (n - 1) "is_word" [w] h := call_of D.wrd.word rfl
  have l1 : HLe h (h ++ g) := HLe.app _ _
  have hlen : i < (h ++ g).length := by rw [List.length_append]; have := lt_of_get hi; omega
  have ek1 := dat_mono l1.d 8 ek
  have es1 := dat_mono l1.d 8 es
  have ef1 := dat_mono l1.d 8 ef
  have hi1 := l1 i _ hi
  have sl : [Vv.ref i, w, k, s, f].map some ++ List.replicate (5 - 5) none = [some (.ref i), some w, some k, some s, some f] := rfl
  have rai : ∀ (j a : Nat) (x : Vv) (h2 : VH), [some (Vv.ref i), some w, some k, some s, some f][a]? = some (some x) → evS G (orcOf G (run G (n - 1)) (run G (n - 2))) (.seq (.rais (errC j) (.cons (.var a) .nil)) .skip) [some (.ref i), some w, some k, some s, some f] h2 = some (.ex ⟨errC j, [(errF j, x)]⟩ [some (.ref i), some w, some k, some s, some f] h2) := fun j a x h2 q => by
    have z := D.err j
    simp [-List.append_assoc, evS, evE, evEs, evT, evI, Rb, Sb, sthen, ok1, truth, q, z]
  unfold dueD
  cases q1 : isWD dw with
  | false =>
    rw [q1] at e1
    refine ⟨h ++ g, l1.x i, hlen, ?_⟩
    rw [if_pos rfl]
    refine run_ev D.ini (by omega) rfl sl (r := some (.ex ⟨errC 0, [(errF 0, w)]⟩ [some (.ref i), some w, some k, some s, some f] (h ++ g))) (seq_ex (ifs_t (h1 := h ++ g) ?_ (rai 0 1 w _ rfl))) rfl
    simp [-List.append_assoc, evS, evE, evEs, evT, evI, Rb, Sb, sthen, ok1, truth, orc_call, hc, e1]
  | true =>
    rw [q1] at e1
    rw [if_neg (by simp)]
    have st1 : evS G (orcOf G (run G (n - 1)) (run G (n - 2))) (.ifs (.not (.val (.call "is_word" (.cons (.var 1) .nil)))) (.seq (.rais "BadWord" (.cons (.var 1) .nil)) .skip) .skip) [some (.ref i), some w, some k, some s, some f] h = some (.nx [some (.ref i), some w, some k, some s, some f] (h ++ g)) := by
      refine ifs_f (h1 := h ++ g) ?_ rfl
      simp [-List.append_assoc, evS, evE, evEs, evT, evI, Rb, Sb, sthen, ok1, truth, orc_call, hc, e1]
    have k1 := kind_ok (o := orcOf G (run G (n - 1)) (run G (n - 2))) (v := .ref i) (w := w) (s := s) (f := f) D ek1
    cases q2 : isKD dk with
    | false =>
      rw [q2] at k1
      refine ⟨h ++ g, l1.x i, hlen, ?_⟩
      rw [if_pos rfl]
      exact run_ev D.ini (by omega) rfl sl (r := some (.ex ⟨errC 1, [(errF 1, k)]⟩ [some (.ref i), some w, some k, some s, some f] (h ++ g))) (seq_nx st1 (seq_ex (ifs_t k1 (rai 1 2 k _ rfl)))) rfl
    | true =>
      rw [q2] at k1
      rw [if_neg (by simp)]
      have s1 := size_ok (n := n) (v := .ref i) (w := w) (k := k) (f := f) D (by omega) es1
      cases q3 : isSD ds with
      | false =>
        rw [q3] at s1
        refine ⟨h ++ g, l1.x i, hlen, ?_⟩
        rw [if_pos rfl]
        exact run_ev D.ini (by omega) rfl sl (r := some (.ex ⟨errC 2, [(errF 2, s)]⟩ [some (.ref i), some w, some k, some s, some f] (h ++ g))) (seq_nx st1 (seq_nx (ifs_f k1 rfl) (seq_ex (ifs_t s1 (rai 2 3 s _ rfl))))) rfl
      | true =>
        rw [q3] at s1
        rw [if_neg (by simp)]
        obtain ⟨z, rfl⟩ : ∃ z, ds = .int z := by cases ds <;> first | exact ⟨_, rfl⟩ | cases q3
        obtain rfl : s = .int z := by cases datv es; rfl
        have f1 := start_ok (v := .ref i) (w := w) (size := z) D hn ek1 (okD_sh okk) ef1
        have fin : badF dk z df = false → ∃ h', HLx i h h' ∧ i < h'.length ∧ run G n "Name.__init__" [.ref i, w, k, .int z, f] h = some (.ok .non h') ∧ h'[i]? = some (.ins "Name" [("word", w), ("kind", k), ("size", .int z), ("start", f)]) := fun q4 => by
          rw [q4] at f1
          have fo : ∀ x, x = ("word" : Str) ∨ x = "kind" ∨ x = "size" ∨ x = "start" → fldOf G "Name" x = true := fun x hx => by
            unfold fldOf
            rw [D.cls]
            rcases hx with rfl | rfl | rfl | rfl <;> decide +kernel
          refine ⟨(h ++ g).set i (.ins "Name" [("word", w), ("kind", k), ("size", .int z), ("start", f)]), (l1.x i).trans (HLx.set _ _ _), by rw [List.length_set]; exact hlen, ?_, List.getElem?_set_self hlen⟩
          have one : ∀ (fs : List (Str × Vv)) (x : Str) (a : Nat) (u : Vv) (h2 : VH), fs.length < 900 → fldOf G "Name" x = true → h2[i]? = some (.ins "Name" fs) → [some (Vv.ref i), some w, some k, some (.int z), some f][a]? = some (some u) → evS G (orcOf G (run G (n - 1)) (run G (n - 2))) (.fld (.var 0) x (.var a)) [some (.ref i), some w, some k, some (.int z), some f] h2 = some (.nx [some (.ref i), some w, some k, some (.int z), some f] (h2.set i (.ins "Name" (putF x u fs)))) := fun fs x a u h2 y1 y2 y3 y4 => by
            simp [-List.append_assoc, evS, evE, evEs, evT, evI, Rb, Sb, sthen, ok1, truth, y1, y2, y3, y4]
          have t1 := one [] "word" 1 w (h ++ g) (by decide) (fo _ (.inl rfl)) hi1 rfl
          have hl2 : ∀ x, ((h ++ g).set i x)[i]? = some x := fun x => List.getElem?_set_self hlen
          have t2 := one [("word", w)] "kind" 2 k _ (by simp) (fo _ (.inr (.inl rfl))) (hl2 _) rfl
          have t3 := one [("word", w), ("kind", k)] "size" 3 (.int z) _ (by simp) (fo _ (.inr (.inr (.inl rfl)))) (hl2 _) rfl
          have t4 := one [("word", w), ("kind", k), ("size", .int z)] "start" 4 f _ (by simp) (fo _ (.inr (.inr (.inr rfl)))) (hl2 _) rfl
          have e0 : ∀ x y, ((h ++ g).set i x).set i y = (h ++ g).set i y := fun x y => List.set_set _
          rw [e0] at t2 t3 t4
          exact run_ev D.ini (by omega) rfl sl (r := some (.nx [some (.ref i), some w, some k, some (.int z), some f] _)) (seq_nx st1 (seq_nx (ifs_f k1 rfl) (seq_nx (ifs_f s1 rfl) (seq_nx (ifs_f f1 rfl) (seq_nx t1 (seq_nx t2 (seq_nx t3 (seq_nx t4 rfl)))))))) rfl
        have bad : badF dk z df = true → run G n "Name.__init__" [.ref i, w, k, .int z, f] h = some (.ex ⟨errC 3, [(errF 3, f)]⟩ (h ++ g)) := fun q4 => by
          rw [q4] at f1
          exact run_ev D.ini (by omega) rfl sl (r := some (.ex ⟨errC 3, [(errF 3, f)]⟩ [some (.ref i), some w, some k, some (.int z), some f] (h ++ g))) (seq_nx st1 (seq_nx (ifs_f k1 rfl) (seq_nx (ifs_f s1 rfl) (seq_ex (ifs_t f1 (rai 3 4 f _ rfl)))))) rfl
        show ∃ h', HLx i h h' ∧ i < h'.length ∧ match (if badF dk z df = true then some 3 else none) with | some j => _ | none => _
        cases q4 : badF dk z df with
        | true => exact ⟨h ++ g, l1.x i, hlen, bad q4⟩
        | false =>
          obtain ⟨h', a, b, c⟩ := fin q4
          exact ⟨h', a, b, c⟩
end
end Pl

set_option linter.all false
set_option autoImplicit false
set_option maxRecDepth 100000
set_option maxHeartbeats 1000000
namespace Pl
open PySem Dv
def datF : Vv → PyData
  | .bl b => .bool b
  | .int i => .int i
  | .str z => .str z
  | _ => .none
section
variable {G : Tx} {n m : Nat} {h h' : VH} {v w k s f : Vv} {dw dk ds df : PyData} {i j : Nat} {kws : List Kp} {o : Orc}
theorem dat_flat (q : flat v = true) : dat G h m v = some (datF v) := by
  cases v <;> first | (cases m <;> rfl) | cases q
theorem attr_ok (D : Nam G kws) {fs : List (Str × Vv)} {x : Str} {u : Vv} (hi : h[i]? = some (.ins "Name" fs)) (hx : clName.flds.contains x = true) (hl : fs.lookup x = some u) : getattr G o (.ref i) x h = some (.ok u h) := by
  have fo : fldOf G "Name" x = true := by
    unfold fldOf; rw [D.cls]; exact hx
  simp only [getattr, obj, hi]
  rw [if_pos fo, hl]
  rfl
abbrev nam (w k s f : Vv) : Ho := .ins "Name" [("word", w), ("kind", k), ("size", s), ("start", f)]
theorem at_w (D : Nam G kws) (hi : h[i]? = some (nam w k s f)) : getattr G o (.ref i) "word" h = some (.ok w h) := attr_ok D hi (by decide +kernel) (by rfl)
theorem at_k (D : Nam G kws) (hi : h[i]? = some (nam w k s f)) : getattr G o (.ref i) "kind" h = some (.ok k h) := attr_ok D hi (by decide +kernel) (by rfl)
theorem at_s (D : Nam G kws) (hi : h[i]? = some (nam w k s f)) : getattr G o (.ref i) "size" h = some (.ok s h) := attr_ok D hi (by decide +kernel) (by rfl)
theorem at_f (D : Nam G kws) (hi : h[i]? = some (nam w k s f)) : getattr G o (.ref i) "start" h = some (.ok f h) := attr_ok D hi (by decide +kernel) (by rfl)
theorem fields_ok (D : Nam G kws) (hn : 2 ≤ n) (hi : h[i]? = some (nam w k s f)) : run G n "Name.fields" [.ref i] h = some (.ok (.ref h.length) (h ++ [.tup [w, k, s, f]])) := by
  refine run_ev D.fields hn rfl rfl (r := some (.rt (.ref h.length) (h ++ [.tup [w, k, s, f]]))) ?_ rfl
  simp [-List.append_assoc, evS, evE, evEs, evT, evI, Rb, Sb, sthen, ok1, truth, xNFields, at_w D hi, at_k D hi, at_s D hi, at_f D hi, sz, new]
theorem tyv_nam (D : Nam G kws) (hi : h[i]? = some (nam w k s f)) : tyv G h (.ref i) = some (.cls "Name") := by
  have := D.inI
  simp only [tyv, obj, hi]
  exact if_pos this
theorem isi_nam (D : Nam G kws) (hi : h[i]? = some (nam w k s f)) : isinst G (.ref i) (.cls "Name") h = some true := by
  unfold isinst
  rw [tyv_nam D hi]
  show (if G.clsL.contains "Name" = true then some (decide (("Name" : Str) = "Name")) else none) = _
  rw [if_pos D.inL]
  simp
theorem isi_no {T : String} (D : Nam G kws) (t : tyv G h v = some (.ty T)) : isinst G v (.cls "Name") h = some false := by
  unfold isinst
  rw [t]
  show (if G.clsL.contains "Name" = true then some false else none) = _
  rw [if_pos D.inL]
theorem eq_no {T : String} (D : Nam G kws) (hn : 2 ≤ n) (t : tyv G h v = some (.ty T)) : run G n "Name.__eq__" [.ref i, v] h = some (.ok (.bl false) h) := by
  refine run_ev D.eq hn rfl rfl (r := some (.rt (.bl false) h)) ?_ rfl
  simp [-List.append_assoc, evS, evE, evEs, evT, evI, Rb, Sb, sthen, ok1, truth, xNEq, callb, isi_no D t]
theorem eq_nam (D : Nam G kws) (hn : 4 ≤ n) {w' k' s' f' : Vv} (hi : h[i]? = some (nam w k s f)) (hj : h[j]? = some (nam w' k' s' f')) (fl : [w, k, s, f].all flat = true) (fl' : [w', k', s', f'].all flat = true)
    (sh : SeqAt.shaped (.tuple [datF w, datF k, datF s, datF f]) = true) (sh' : SeqAt.shaped (.tuple [datF w', datF k', datF s', datF f']) = true) :
    run G n "Name.__eq__" [.ref i, .ref j] h = some (.ok (.bl (PyData.eqv (.tuple [datF w, datF k, datF s, datF f]) (.tuple [datF w', datF k', datF s', datF f']))) (h ++ [.tup [w, k, s, f]] ++ [.tup [w', k', s', f']])) := by
  refine run_ev D.eq (by omega) rfl (s := [some (.ref i), some (.ref j)]) rfl (r := some (.rt (.bl (PyData.eqv (.tuple [datF w, datF k, datF s, datF f]) (.tuple [datF w', datF k', datF s', datF f']))) (h ++ [.tup [w, k, s, f]] ++ [.tup [w', k', s', f']]))) ?_ rfl
  simp only [List.all_cons, List.all_nil, Bool.and_true, Bool.and_eq_true] at fl fl'
  obtain ⟨a1, a2, a3, a4⟩ := fl
  obtain ⟨b1, b2, b3, b4⟩ := fl'
  have f1 := fields_ok D (n := n - 1) (by omega) hi
  have hj1 : (h ++ [Ho.tup [w, k, s, f]])[j]? = some (nam w' k' s' f') := get_app hj
  have f2 := fields_ok D (n := n - 1) (by omega) hj1
  have hc : ∀ vs h, callP G (run G (n - 1)) "Name.fields" vs h = run G (n - 1) "Name.fields" vs h := fun vs h => call_of D.fields rfl
  have m1 : methOf G "Name" "fields" = some ("Name.fields" : Str) := by unfold methOf; rw [D.cls]; rfl
  have l1 : (nam w k s f) = nam w k s f := rfl
  have lk : ∀ a b c d : Vv, ([("word", a), ("kind", b), ("size", c), ("start", d)] : List (Str × Vv)).lookup ("fields" : Str) = none := fun a b c d => rfl
  have e1 : (h ++ [Ho.tup [w, k, s, f]] ++ [Ho.tup [w', k', s', f']])[h.length]? = some (.tup [w, k, s, f]) := by
    rw [List.getElem?_append_left (by simp)]; exact get_new
  have e2 : (h ++ [Ho.tup [w, k, s, f]] ++ [Ho.tup [w', k', s', f']])[(h ++ [Ho.tup [w, k, s, f]]).length]? = some (.tup [w', k', s', f']) := get_new
  have d1 : dat G (h ++ [Ho.tup [w, k, s, f]] ++ [Ho.tup [w', k', s', f']]) 8 (.ref h.length) = some (.tuple [datF w, datF k, datF s, datF f]) := by
    simp only [dat, e1]
    simp [List.mapM_cons, dat_flat a1, dat_flat a2, dat_flat a3, dat_flat a4]
  have d2 : dat G (h ++ [Ho.tup [w, k, s, f]] ++ [Ho.tup [w', k', s', f']]) 8 (.ref (h ++ [Ho.tup [w, k, s, f]]).length) = some (.tuple [datF w', datF k', datF s', datF f']) := by
    simp only [dat, e2]
    simp [List.mapM_cons, dat_flat b1, dat_flat b2, dat_flat b3, dat_flat b4]
  have q := eqd_ok (G := G) d1 d2 sh sh'
  have cq : cmpop G (orcOf G (run G (n - 1)) (run G (n - 2))) .Eq (.ref h.length) (.ref (h ++ [Ho.tup [w, k, s, f]]).length) (h ++ [Ho.tup [w, k, s, f]] ++ [Ho.tup [w', k', s', f']]) = some (.ok (.bl (PyData.eqv (.tuple [datF w, datF k, datF s, datF f]) (.tuple [datF w', datF k', datF s', datF f']))) (h ++ [Ho.tup [w, k, s, f]] ++ [Ho.tup [w', k', s', f']])) := by
    show (eqd G _ _ _).bind _ = _
    rw [q]; rfl
  have A : evE G (orcOf G (run G (n - 1)) (run G (n - 2))) (.meth (.var 0) "fields" .nil) [some (.ref i), some (.ref j)] h = some (.ok (.ref h.length) (h ++ [.tup [w, k, s, f]])) := by
    simp [-List.append_assoc, evS, evE, evEs, evT, evI, Rb, Sb, sthen, ok1, truth, obj, hi, m1, lk, orc_call, hc, f1]
  have B : evE G (orcOf G (run G (n - 1)) (run G (n - 2))) (.meth (.var 1) "fields" .nil) [some (.ref i), some (.ref j)] (h ++ [.tup [w, k, s, f]]) = some (.ok (.ref (h ++ [Ho.tup [w, k, s, f]]).length) (h ++ [.tup [w, k, s, f]] ++ [.tup [w', k', s', f']])) := by
    simp [-List.append_assoc, evS, evE, evEs, evT, evI, Rb, Sb, sthen, ok1, truth, obj, hj1, m1, lk, orc_call, hc]
    simpa using f2
  refine seq_rt (ret_of ?_)
  have C : evE G (orcOf G (run G (n - 1)) (run G (n - 2))) (.bf .isinst (.cons (.var 1) (.cons (.cst (.cls "Name")) .nil))) [some (.ref i), some (.ref j)] h = some (.ok (.bl true) h) := by
    simp [-List.append_assoc, evS, evE, evEs, evT, evI, Rb, Sb, sthen, ok1, truth, callb, isi_nam D hj]
  show Rb (evE G _ (.bf .isinst _) _ h) _ = _
  rw [C]
  show Rb (evE G _ (.meth (.var 0) "fields" .nil) _ h) _ = _
  rw [A]
  show Rb (evE G _ (.meth (.var 1) "fields" .nil) _ _) _ = _
  rw [B]
  exact cq
def xOut : St := (.seq (.try_ (.seq (.ret (.mkk "Name" ⟨4, ["start"], [], [.inl 0, .inl 1, .inl 2, .inl 3, .inl 4]⟩ (.cons (.var 0) (.cons (.var 1) (.cons (.var 2) .nil))) (.cons (.var 3) .nil))) .skip) (.hnd "BadWord" (some 4) (.seq (.ret (.tup (.cons (.cst (.str "word")) (.cons (.bf .repr (.cons (.attr (.var 4) "word") .nil)) .nil)))) .skip) (.hnd "BadKind" (some 4) (.seq (.ret (.tup (.cons (.cst (.str "kind")) (.cons (.bf .repr (.cons (.attr (.var 4) "kind") .nil)) .nil)))) .skip) (.hnd "BadSize" (some 4) (.seq (.ret (.tup (.cons (.cst (.str "size")) (.cons (.bf .repr (.cons (.attr (.var 4) "size") .nil)) .nil)))) .skip) (.hnd "BadValue" (some 4) (.seq (.ret (.tup (.cons (.cst (.str "value")) (.cons (.bf .repr (.cons (.attr (.var 4) "value") .nil)) .nil)))) .skip) .hnil))))) .skip)
def kpF : Kp := ⟨4, ["start"], [], [.inl 0, .inl 1, .inl 2, .inl 3, .inl 4]⟩
def kp0 : Kp := ⟨4, [], [("start", .non)], [.inl 0, .inl 1, .inl 2, .inl 3, .inr 0]⟩
theorem hnd_hit {x : Xv} {s1 : Sl} {h1 h2 : VH} {c : Str} {sl : Option Nat} {su r : St} (hx : ((G.cls x.c).bind (·.exc)).isSome = true) (hc : x.c = c) (k : evS G o su (inS sl h1.length s1) (h1 ++ [.exn x.c x.fs]) = some (.rt v h2)) : evS.evH G o (.hnd c sl su r) x s1 h1 = some (.rt v (h2.set h1.length .dead)) := by
  simp only [evS.evH]
  rw [hx]
  simp only [Bool.true_eq_false, if_false]
  rw [if_pos hc, k]
theorem hnd_miss {x : Xv} {s1 : Sl} {h1 : VH} {c : Str} {sl : Option Nat} {su r : St} {q : Option Sr} (hx : ((G.cls x.c).bind (·.exc)).isSome = true) (hc : x.c ≠ c) (k : evS.evH G o r x s1 h1 = q) : evS.evH G o (.hnd c sl su r) x s1 h1 = q := by
  simp only [evS.evH]
  rw [hx]
  simp only [Bool.true_eq_false, if_false]
  rw [if_neg hc, k]
theorem try_ex {b hs : St} {x : Xv} {s1 s2 : Sl} {h1 : VH} {q : Option Sr} (k : evS G o b s2 h = some (.ex x s1 h1)) (k2 : evS.evH G o hs x s1 h1 = q) : evS G o (.try_ b hs) s2 h = q := by
  simp only [evS]
  rw [k]
  exact k2
theorem try_rt {b hs : St} {s2 : Sl} {h1 : VH} (k : evS G o b s2 h = some (.rt v h1)) : evS G o (.try_ b hs) s2 h = some (.rt v h1) := by
  simp only [evS]
  rw [k]
theorem out_ok (D : Nam G kws) (hk : kpF ∈ kws) (ho : G.fns "_law_outcome" = some ⟨4, 5, xOut, []⟩) (hn : 10 ≤ n) (ew : dat G h 8 w = some dw) (ek : dat G h 8 k = some dk) (es : dat G h 8 s = some ds) (ef : dat G h 8 f = some df) (ow : okD dw = true) (okk : okD dk = true) (os : okD ds = true) (of_ : okD df = true) :
    ∃ a h', run G n "_law_outcome" [w, k, s, f] h = some (.ok (.ref a) h') ∧ HLe h h' ∧ match dueD dw dk ds df with
      | some j => h'[a]? = some (.tup [.str (errF j), .str (pick dw dk ds df j).shown])
      | none => h'[a]? = some (nam w k s f) := by
  have l0 : HLe h (h ++ [.ins "Name" []]) := HLe.app _ _
  obtain ⟨h1, x1, hl1, e1⟩ := init_ok (n := n - 2) (i := h.length) D (by omega) (get_new (h := h) (o := .ins "Name" [])) (dat_mono l0.d 8 ew) (dat_mono l0.d 8 ek) (dat_mono l0.d 8 es) (dat_mono l0.d 8 ef) ow okk
  have l1 : HLe h h1 := fun j u q => x1 j u (by have := lt_of_get q; omega) (l0 j u q)
  have m1 : methOf G "Name" "__init__" = some ("Name.__init__" : Str) := by unfold methOf; rw [D.cls]; rfl
  have ck : ∀ h0, callK G (run G (n - 2)) "Name.__init__" kpF [.ref h.length, w, k, s, f] h0 = run G (n - 2) "Name.__init__" [.ref h.length, w, k, s, f] h0 := fun h0 => by
    unfold callK
    rw [D.ini]
    show (if kpF ∈ kws then _ else _) = _
    rw [if_pos hk]
    rfl
  have mk : evE G (orcOf G (run G (n - 1)) (run G (n - 2))) (.mkk "Name" kpF (.cons (.var 0) (.cons (.var 1) (.cons (.var 2) .nil))) (.cons (.var 3) .nil)) [some w, some k, some s, some f, none] h = Rb (run G (n - 2) "Name.__init__" [.ref h.length, w, k, s, f] (h ++ [.ins "Name" []])) (fun r h3 => match r with
      | .non => some (.ok (.ref h.length) h3)
      | _ => none) := by
    rw [← ck]
    have he : evEs G (orcOf G (run G (n - 1)) (run G (n - 2))) (.cons (.var 0) (.cons (.var 1) (.cons (.var 2) .nil))) [some w, some k, some s, some f, none] h = some (.ok [w, k, s] h) := rfl
    have hf : evEs G (orcOf G (run G (n - 1)) (run G (n - 2))) (.cons (.var 3) .nil) [some w, some k, some s, some f, none] h = some (.ok [f] h) := rfl
    simp only [evE, he, hf, Rb_ok, m1]
    rw [if_pos ⟨rfl, rfl⟩]
    rfl
  cases q : dueD dw dk ds df with
  | none =>
    rw [q] at e1
    obtain ⟨e1, e2⟩ := e1
    refine ⟨h.length, h1, run_ev ho (by omega) rfl (s := [some w, some k, some s, some f, none]) rfl (r := some (.rt (.ref h.length) h1)) (seq_rt (try_rt (seq_rt (ret_of ?_)))) rfl, l1, e2⟩
    show evE G _ (.mkk "Name" kpF _ _) [some w, some k, some s, some f, none] h = _
    rw [mk, e1]
    rfl
  | some j =>
    rw [q] at e1
    have tr : evS G (orcOf G (run G (n - 1)) (run G (n - 2))) (.seq (.ret (.mkk "Name" kpF (.cons (.var 0) (.cons (.var 1) (.cons (.var 2) .nil))) (.cons (.var 3) .nil))) .skip) [some w, some k, some s, some f, none] h = some (.ex ⟨errC j, [(errF j, pick w k s f j)]⟩ [some w, some k, some s, some f, none] h1) := by
      refine seq_ex ?_
      show Sb (evE G _ _ _ h) _ _ = _
      rw [mk, e1]
      rfl
    have hx : ((G.cls (errC j)).bind (·.exc)).isSome = true := by rw [D.err j]; rfl
    have hpd : dat G h1 8 (pick w k s f j) = some (pick dw dk ds df j) ∧ okD (pick dw dk ds df j) = true := by
      match j with
      | 0 => exact ⟨dat_mono l1.d 8 ew, ow⟩
      | 1 => exact ⟨dat_mono l1.d 8 ek, okk⟩
      | 2 => exact ⟨dat_mono l1.d 8 es, os⟩
      | _ + 3 => exact ⟨dat_mono l1.d 8 ef, of_⟩
    have suite : ∀ t : Str, t = errF j → evS G (orcOf G (run G (n - 1)) (run G (n - 2))) (.seq (.ret (.tup (.cons (.cst (.str t)) (.cons (.bf .repr (.cons (.attr (.var 4) t) .nil)) .nil)))) .skip) (inS (some 4) h1.length [some w, some k, some s, some f, none]) (h1 ++ [.exn (errC j) [(errF j, pick w k s f j)]]) = some (.rt (.ref (h1.length + 1)) (h1 ++ [.exn (errC j) [(errF j, pick w k s f j)]] ++ [.tup [.str t, .str (pick dw dk ds df j).shown]])) := fun t ht => by
      subst ht
      have at1 : getattr G (orcOf G (run G (n - 1)) (run G (n - 2))) (.ref h1.length) (errF j) (h1 ++ [.exn (errC j) [(errF j, pick w k s f j)]]) = some (.ok (pick w k s f j) (h1 ++ [.exn (errC j) [(errF j, pick w k s f j)]])) := by
        simp only [getattr, obj, get_new]
        have fx : fldX G (errC j) (errF j) = true := by unfold fldX; rw [D.err j]; simp
        rw [if_pos fx]
        simp [ok1]
      have rp := repr_ok (dat_mono (HLe.app h1 [.exn (errC j) [(errF j, pick w k s f j)]]).d 8 hpd.1) hpd.2
      refine seq_rt (ret_of ?_)
      simp [-List.append_assoc, evS, evE, evEs, evT, evI, Rb, Sb, sthen, ok1, truth, inS, at1, rp, new, sz]
    have go : ∀ (u : VH), u = (h1 ++ [Ho.exn (errC j) [(errF j, pick w k s f j)]] ++ [Ho.tup [.str (errF j), .str (pick dw dk ds df j).shown]]).set h1.length .dead → u[h1.length + 1]? = some (.tup [.str (errF j), .str (pick dw dk ds df j).shown]) ∧ HLe h u := fun u hu => by
      subst hu
      refine ⟨?_, fun a b c => ?_⟩
      · rw [List.getElem?_set_ne (by omega), List.getElem?_append_right (by simp)]
        simp
      · have := lt_of_get (l1 a b c)
        rw [List.getElem?_set_ne (by omega), List.getElem?_append_left (by simp; omega), List.getElem?_append_left this]
        exact l1 a b c
    have fin : evS.evH G (orcOf G (run G (n - 1)) (run G (n - 2))) (.hnd "BadWord" (some 4) (.seq (.ret (.tup (.cons (.cst (.str "word")) (.cons (.bf .repr (.cons (.attr (.var 4) "word") .nil)) .nil)))) .skip) (.hnd "BadKind" (some 4) (.seq (.ret (.tup (.cons (.cst (.str "kind")) (.cons (.bf .repr (.cons (.attr (.var 4) "kind") .nil)) .nil)))) .skip) (.hnd "BadSize" (some 4) (.seq (.ret (.tup (.cons (.cst (.str "size")) (.cons (.bf .repr (.cons (.attr (.var 4) "size") .nil)) .nil)))) .skip) (.hnd "BadValue" (some 4) (.seq (.ret (.tup (.cons (.cst (.str "value")) (.cons (.bf .repr (.cons (.attr (.var 4) "value") .nil)) .nil)))) .skip) .hnil)))) ⟨errC j, [(errF j, pick w k s f j)]⟩ [some w, some k, some s, some f, none] h1 = some (.rt (.ref (h1.length + 1)) ((h1 ++ [Ho.exn (errC j) [(errF j, pick w k s f j)]] ++ [Ho.tup [.str (errF j), .str (pick dw dk ds df j).shown]]).set h1.length .dead)) := by
      match j, hx, suite with
      | 0, hx, suite => exact hnd_hit hx rfl (suite "word" rfl)
      | 1, hx, suite => exact hnd_miss hx (show ("BadKind" : Str) ≠ "BadWord" by decide) (hnd_hit hx rfl (suite "kind" rfl))
      | 2, hx, suite => exact hnd_miss hx (show ("BadSize" : Str) ≠ "BadWord" by decide) (hnd_miss hx (show ("BadSize" : Str) ≠ "BadKind" by decide) (hnd_hit hx rfl (suite "size" rfl)))
      | _ + 3, hx, suite => exact hnd_miss hx (show ("BadValue" : Str) ≠ "BadWord" by decide) (hnd_miss hx (show ("BadValue" : Str) ≠ "BadKind" by decide) (hnd_miss hx (show ("BadValue" : Str) ≠ "BadSize" by decide) (hnd_hit hx rfl (suite "value" rfl))))
    obtain ⟨g1, g2⟩ := go _ rfl
    exact ⟨h1.length + 1, _, run_ev ho (by omega) rfl (s := [some w, some k, some s, some f, none]) rfl (r := some (.rt _ _)) (seq_rt (try_ex tr fin)) rfl, g2, g1⟩
end
end Pl

set_option linter.all false
set_option autoImplicit false
set_option maxRecDepth 100000
set_option maxHeartbeats 1000000
namespace Pl
open PySem Dv
def W5 : List Str := ["a", "debug", "abcdefgh", "z", "bod"]
def K3 : List Str := ["setting", "open", "inner"]
def inR (ws : List Str) (d : PyData) : Bool := (ws.map fun z => Vv.str (PyData.str z).shown).any fun u => feq u (.str d.shown)
def xWhole : St := (.seq (.ret (.and (.bf .isinst (.cons (.var 0) (.cons (.cst (.ty "int")) .nil))) (.not (.bf .isinst (.cons (.var 0) (.cons (.cst (.ty "bool")) .nil)))))) .skip)
def eW5 : Exs := (.cons (.cst (.str "a")) (.cons (.cst (.str "debug")) (.cons (.cst (.str "abcdefgh")) (.cons (.cst (.str "z")) (.cons (.cst (.str "bod")) .nil)))))
def eK3 : Exs := (.cons (.cst (.str "setting")) (.cons (.cst (.str "open")) (.cons (.cst (.str "inner")) .nil)))
def tNotIn (a : Nat) (e : Exs) : Tt := (.val (.cmp .NotIn (.bf .repr (.cons (.var a) .nil)) (.lc (.bf .repr (.cons (.var 4) .nil)) [4] [4] (.val (.lst e)) .yes)))
def tDue2 : Tt := (.or (.not (.val (.call "_law_is_whole" (.cons (.var 2) .nil)))) (.not (.val (.chain .LtE .LtE (.cst (.int 1)) (.var 2) (.cst (.int 8))))))
def tDue3 : Tt := (.and (.val (.cmp .IsNot (.var 3) (.cst .non))) (.or (.val (.cmp .NotEq (.var 1) (.cst (.str "inner")))) (.or (.not (.val (.call "_law_is_whole" (.cons (.var 3) .nil)))) (.not (.val (.chain .LtE .Lt (.cst (.int 0)) (.var 3) (.var 2)))))))
def sTup (t : Str) (a : Nat) : St := (.seq (.ret (.tup (.cons (.cst (.str t)) (.cons (.bf .repr (.cons (.var a) .nil)) .nil)))) .skip)
def xDue : St := (.seq (.ifs (tNotIn 0 eW5) (sTup "word" 0) .skip) (.seq (.ifs (tNotIn 1 eK3) (sTup "kind" 1) .skip) (.seq (.ifs tDue2 (sTup "size" 2) .skip) (.seq (.ifs tDue3 (sTup "value" 3) .skip) (.seq (.ret (.cst .non)) .skip)))))
structure L04 (G : Tx) (kws : List Kp) : Prop where
  nam : Nam G kws
  drw : Drw G
  kF : kpF ∈ kws
  k0 : kp0 ∈ kws
  whole : G.fns "_law_is_whole" = some ⟨1, 1, xWhole, []⟩
  due : G.fns "_law_due" = some ⟨4, 5, xDue, []⟩
  out : G.fns "_law_outcome" = some ⟨4, 5, xOut, []⟩
section
variable {G : Tx} {n m : Nat} {h h' : VH} {v w k s f : Vv} {dw dk ds df d : PyData} {i j : Nat} {kws : List Kp} {o : Orc} {T : String}
theorem whole_ok (D : L04 G kws) (hn : 2 ≤ n) (t : tyv G h v = some (.ty T)) : run G n "_law_is_whole" [v] h = some (.ok (.bl (T == "int")) h) := by
  refine run_ev D.whole hn rfl (s := [some v]) rfl (r := some (.rt (.bl (T == "int")) h)) ?_ rfl
  have e1 := isi_ty (m := "int") t (by decide)
  have e2 := isi_ty (m := "bool") t (by decide)
  by_cases q : T = "int"
  · subst q
    simp [-List.append_assoc, evS, evE, evEs, evT, evI, Rb, Sb, sthen, ok1, truth, xWhole, callb, e1, e2]
  · by_cases q2 : T = "bool"
    · subst q2
      simp [-List.append_assoc, evS, evE, evEs, evT, evI, Rb, Sb, sthen, ok1, truth, xWhole, callb, e1, e2]
    · have q' : (T == "int") = false := by simpa using q
      have q2' : (T == "bool") = false := by simpa using q2
      simp [-List.append_assoc, evS, evE, evEs, evT, evI, Rb, Sb, sthen, ok1, truth, xWhole, callb, e1, e2, q', q2']
theorem flat_strs : ∀ ws : List Str, (ws.map Vv.str).all flat = true
  | [] => rfl
  | _ :: ws => flat_strs ws
theorem lc_src {e : Ex} {s : Sl} {tg : Nat} {xs : List Vv} {r : Option (Re Vv)} {it : Ex} {h1 : VH} (hi : evE G o it s h = some (.ok (.ref i) h1)) (hx : h1[i]? = some (.lst xs))
    (k : lcF (evE G o e) (evT G o .yes) (wipeV s [tg]) [tg] (keeps G ⟨xs.map fun v => [v], some (.ref i), xs, true, false⟩) h1.length (xs.map fun v => [v]) (h1 ++ [.lst []]) = r) : evE G o (.lc e [tg] [tg] (.val it) .yes) s h = r := by
  have e1 : evI G o (.val it) [tg].length s h = some (.ok ⟨xs.map fun v => [v], some (.ref i), xs, true, false⟩ h1) := by
    simp only [evI, hi, Rb_ok, srcOf, seqOf, obj, hx, isL, List.length_singleton, if_true, Option.map_some]
  show Rb (evI G o (.val it) [tg].length s h) _ = r
  rw [e1]
  exact k
theorem notin_ok {a : Nat} {ws : List Str} {es : Exs} (ha : [some w, some k, some s, some f, (none : Option Vv)][a]? = some (some v)) (e : dat G h 8 v = some d) (od : okD d = true) (hw : ∀ z ∈ ws, okD (.str z) = true) (hl : ws.length ≤ 1000) (he : evEs G o es [some w, some k, some s, some f, none] h = some (.ok (ws.map .str) h)) :
    evT G o (tNotIn a es) [some w, some k, some s, some f, none] h = some (.ok (!inR ws d) (h ++ [.lst (ws.map .str)] ++ [.lst (ws.map fun z => .str (PyData.str z).shown)])) := by
  have r1 : evE G o (.bf .repr (.cons (.var a) .nil)) [some w, some k, some s, some f, none] h = some (.ok (.str d.shown) h) := by
    have := repr_ok e od
    simp [-List.append_assoc, evS, evE, evEs, evT, evI, Rb, Sb, sthen, ok1, truth, ha, this]
  have l1 : evE G o (.lst es) [some w, some k, some s, some f, none] h = some (.ok (.ref h.length) (h ++ [.lst (ws.map .str)])) := by
    show Rb (evEs G o es _ h) _ = _
    rw [he]
    show (if (ws.map Vv.str).length ≤ sz then new (.lst (ws.map .str)) h else none) = _
    rw [if_pos (by rw [List.length_map]; exact Nat.le_trans hl (by decide))]
    rfl
  have go : ∀ (zs : List Str) (acc : List Vv), (∀ z ∈ zs, okD (.str z) = true) → acc.length + zs.length ≤ 1000 → lcF (evE G o (.bf .repr (.cons (.var 4) .nil))) (evT G o .yes) (wipeV [some w, some k, some s, some f, none] [4]) [4] (keeps G ⟨(ws.map Vv.str).map fun v => [v], some (.ref h.length), ws.map .str, true, false⟩) (h ++ [Ho.lst (ws.map Vv.str)]).length ((zs.map Vv.str).map fun v => [v]) (h ++ [.lst (ws.map .str)] ++ [.lst acc]) = some (.ok (.ref (h ++ [Ho.lst (ws.map Vv.str)]).length) (h ++ [.lst (ws.map .str)] ++ [.lst (acc ++ zs.map fun z => .str (PyData.str z).shown)])) := fun zs => by
    have kp : ∀ acc, keeps G ⟨(ws.map Vv.str).map fun v => [v], some (.ref h.length), ws.map .str, true, false⟩ (h ++ [.lst (ws.map .str)] ++ [.lst acc]) = true := fun acc => by
      have e1 : (h ++ [Ho.lst (ws.map .str)] ++ [Ho.lst acc])[h.length]? = some (.lst (ws.map .str)) := by
        rw [List.getElem?_append_left (by simp)]; exact get_new
      simp only [keeps, seqOf, obj, e1, isL]
      simp
    induction zs with
    | nil =>
      intro acc _ _
      show (if keeps G _ (h ++ [Ho.lst (ws.map Vv.str)] ++ [Ho.lst acc]) = true then _ else none) = _
      rw [if_pos (kp acc)]
      simp
    | cons z zs ih =>
      intro acc hz hl
      simp only [List.length_cons] at hl
      have rz := repr_ok (G := G) (h := h ++ [.lst (ws.map .str)] ++ [.lst acc]) (v := .str z) (d := .str z) rfl (hz z List.mem_cons_self)
      have st : setT [4] (wipeV [some w, some k, some s, some f, none] [4]) [Vv.str z] = some [some w, some k, some s, some f, some (.str z)] := rfl
      have ez : evE G o (.bf .repr (.cons (.var 4) .nil)) [some w, some k, some s, some f, some (.str z)] (h ++ [.lst (ws.map .str)] ++ [.lst acc]) = some (.ok (.str (PyData.str z).shown) (h ++ [.lst (ws.map .str)] ++ [.lst acc])) := by
        simp [-List.append_assoc, evS, evE, evEs, evT, evI, Rb, Sb, sthen, ok1, truth, rz]
      have ih2 := ih (acc ++ [.str (PyData.str z).shown]) (fun y hy => hz y (List.mem_cons_of_mem _ hy)) (by rw [List.length_append, List.length_singleton]; omega)
      have ac : acc.length < sz := by have : sz = 16777216 := rfl; omega
      have yes : evT G o .yes [some w, some k, some s, some f, some (.str z)] (h ++ [.lst (ws.map .str)] ++ [.lst acc]) = some (.ok true (h ++ [.lst (ws.map .str)] ++ [.lst acc])) := rfl
      simp only [List.map_cons, lcF, kp, st, yes, ez, get_new, ac, if_true]
      rw [show (h ++ [Ho.lst (ws.map Vv.str)] ++ [Ho.lst acc]).set (h ++ [Ho.lst (ws.map Vv.str)]).length (.lst (acc ++ [.str (PyData.str z).shown])) = h ++ [Ho.lst (ws.map Vv.str)] ++ [.lst (acc ++ [.str (PyData.str z).shown])] by simp]
      rw [ih2]
      simp
  have g1 := go ws [] hw (by simpa using hl)
  have l2 : evE G o (.lc (.bf .repr (.cons (.var 4) .nil)) [4] [4] (.val (.lst es)) .yes) [some w, some k, some s, some f, none] h = some (.ok (.ref (h ++ [Ho.lst (ws.map Vv.str)]).length) (h ++ [.lst (ws.map .str)] ++ [.lst (ws.map fun z => .str (PyData.str z).shown)])) := lc_src l1 get_new g1
  have c : cmpop G o .NotIn (.str d.shown) (.ref (h ++ [Ho.lst (ws.map Vv.str)]).length) (h ++ [.lst (ws.map .str)] ++ [.lst (ws.map fun z => .str (PyData.str z).shown)]) = some (.ok (.bl (!inR ws d)) (h ++ [.lst (ws.map .str)] ++ [.lst (ws.map fun z => .str (PyData.str z).shown)])) := by
    have fl : (ws.map fun z => Vv.str (PyData.str z).shown).all flat = true := by
      have := flat_strs (ws.map fun z => (PyData.str z).shown)
      rw [List.map_map] at this
      exact this
    show (seqOf G _ _).bind _ = _
    have sq : seqOf G (h ++ [.lst (ws.map .str)] ++ [.lst (ws.map fun z => .str (PyData.str z).shown)]) (.ref (h ++ [Ho.lst (ws.map Vv.str)]).length) = some (ws.map fun z => .str (PyData.str z).shown) := by
      simp only [seqOf, obj, get_new]
    rw [sq]
    show (if (flat (.str d.shown) && (ws.map fun z => Vv.str (PyData.str z).shown).all flat) = true then _ else none) = _
    rw [if_pos (by rw [fl]; rfl)]
    rfl
  show Rb (Rb (evE G o (.bf .repr (.cons (.var a) .nil)) _ h) _) _ = _
  rw [r1]
  show Rb (Rb (evE G o (.lc _ _ _ _ _) _ h) _) _ = _
  rw [l2]
  simp only [Rb_ok]
  rw [c]
  rfl
theorem due2_ok (D : L04 G kws) (hn : 4 ≤ n) (e : dat G h 8 s = some ds) : evT G (orcOf G (run G (n - 1)) (run G (n - 2))) tDue2 [some w, some k, some s, some f, none] h = some (.ok (!isSD ds) h) := by
  have hi := whole_ok D (n := n - 1) (by omega) (dat_ty e)
  unfold tDue2
  cases datv e with
  | int i =>
    by_cases q : 1 ≤ i
    · by_cases q2 : i ≤ 8
      · simp [-List.append_assoc, evS, evE, evEs, evT, evI, Rb, Sb, sthen, ok1, truth, cmpop, orc_call, call_of D.whole, hi, tyD, isSD, q, q2]
      · simp [-List.append_assoc, evS, evE, evEs, evT, evI, Rb, Sb, sthen, ok1, truth, cmpop, orc_call, call_of D.whole, hi, tyD, isSD, q, q2]
    · simp [-List.append_assoc, evS, evE, evEs, evT, evI, Rb, Sb, sthen, ok1, truth, cmpop, orc_call, call_of D.whole, hi, tyD, isSD, q]
  | non => simp [-List.append_assoc, evS, evE, evEs, evT, evI, Rb, Sb, sthen, ok1, truth, orc_call, call_of D.whole, hi, tyD, isSD]
  | bl _ => simp [-List.append_assoc, evS, evE, evEs, evT, evI, Rb, Sb, sthen, ok1, truth, orc_call, call_of D.whole, hi, tyD, isSD]
  | str _ => simp [-List.append_assoc, evS, evE, evEs, evT, evI, Rb, Sb, sthen, ok1, truth, orc_call, call_of D.whole, hi, tyD, isSD]
  | lst _ => simp [-List.append_assoc, evS, evE, evEs, evT, evI, Rb, Sb, sthen, ok1, truth, orc_call, call_of D.whole, hi, tyD, isSD]
  | tup _ => simp [-List.append_assoc, evS, evE, evEs, evT, evI, Rb, Sb, sthen, ok1, truth, orc_call, call_of D.whole, hi, tyD, isSD]
  | clst _ => simp [-List.append_assoc, evS, evE, evEs, evT, evI, Rb, Sb, sthen, ok1, truth, orc_call, call_of D.whole, hi, tyD, isSD]
  | ctup _ => simp [-List.append_assoc, evS, evE, evEs, evT, evI, Rb, Sb, sthen, ok1, truth, orc_call, call_of D.whole, hi, tyD, isSD]
theorem due3_ok (D : L04 G kws) (hn : 4 ≤ n) {size : Int} (ek : dat G h 8 k = some dk) (ok : SeqAt.shaped dk = true) (e : dat G h 8 f = some df) : evT G (orcOf G (run G (n - 1)) (run G (n - 2))) tDue3 [some w, some k, some (.int size), some f, none] h = some (.ok (badF dk size df) h) := by
  have hi := whole_ok D (n := n - 1) (by omega) (dat_ty e)
  have hc : ∀ vs, callP G (run G (n - 1)) "_law_is_whole" vs h = run G (n - 1) "_law_is_whole" vs h := fun vs => call_of D.whole rfl
  have hq : cmpop G (orcOf G (run G (n - 1)) (run G (n - 2))) .NotEq k (.str "inner") h = some (.ok (.bl (!PyData.eqv dk (.str "inner"))) h) := by
    show (eqd G h k (.str "inner")).bind _ = _
    rw [eqd_ok ek (u := .str "inner") (d' := .str "inner") rfl ok (by decide +kernel)]
    rfl
  unfold tDue3
  have nn : f ≠ .non → (tyD df = "int" → ∃ z, f = .int z ∧ df = .int z) → badF dk size df = !(PyData.eqv dk (.str "inner") && isFD size df) → (tyD df ≠ "int" → isFD size df = false) → evT G (orcOf G (run G (n - 1)) (run G (n - 2))) (.and (.val (.cmp .IsNot (.var 3) (.cst .non))) (.or (.val (.cmp .NotEq (.var 1) (.cst (.str "inner")))) (.or (.not (.val (.call "_law_is_whole" (.cons (.var 3) .nil)))) (.not (.val (.chain .LtE .Lt (.cst (.int 0)) (.var 3) (.var 2))))))) [some w, some k, some (.int size), some f, none] h = some (.ok (badF dk size df) h) := fun q y1 y2 y3 => by
    have h1 : cmpop G (orcOf G (run G (n - 1)) (run G (n - 2))) .IsNot f .non h = some (.ok (.bl true) h) := by simp [cmpop, ok1, q]
    rw [y2]
    cases q3 : PyData.eqv dk (.str "inner") with
    | false =>
      rw [q3] at hq
      simp [-List.append_assoc, evS, evE, evEs, evT, evI, Rb, Sb, sthen, ok1, truth, h1, hq]
    | true =>
      rw [q3] at hq
      by_cases q4 : tyD df = "int"
      · obtain ⟨z, rfl, rfl⟩ := y1 q4
        have c1 : ∀ a b : Int, cmpop G (orcOf G (run G (n - 1)) (run G (n - 2))) .LtE (.int a) (.int b) h = some (.ok (.bl (decide (a ≤ b))) h) := fun a b => rfl
        have c2 : ∀ a b : Int, cmpop G (orcOf G (run G (n - 1)) (run G (n - 2))) .Lt (.int a) (.int b) h = some (.ok (.bl (decide (a < b))) h) := fun a b => rfl
        by_cases q5 : 0 ≤ z
        · simp [-List.append_assoc, evS, evE, evEs, evT, evI, Rb, Sb, sthen, ok1, truth, h1, hq, orc_call, hc, hi, tyD, c1, c2, isFD, q5]
        · simp [-List.append_assoc, evS, evE, evEs, evT, evI, Rb, Sb, sthen, ok1, truth, h1, hq, orc_call, hc, hi, tyD, c1, c2, isFD, q5]
      · have q4' : (tyD df == "int") = false := by simpa using q4
        rw [q4'] at hi
        simp [-List.append_assoc, evS, evE, evEs, evT, evI, Rb, Sb, sthen, ok1, truth, h1, hq, orc_call, hc, hi, y3 q4]
  cases datv e with
  | non => simp [-List.append_assoc, evS, evE, evEs, evT, evI, Rb, Sb, sthen, ok1, truth, cmpop, badF]
  | int z => exact nn nofun (fun _ => ⟨z, rfl, rfl⟩) rfl (fun q => absurd rfl q)
  | _ => exact nn nofun (fun q => by simp [tyD] at q) rfl (fun _ => rfl)
theorem due_ok (D : L04 G kws) (hn : 6 ≤ n) (ew : dat G h 8 w = some dw) (ek : dat G h 8 k = some dk) (es : dat G h 8 s = some ds) (ef : dat G h 8 f = some df) (ow : okD dw = true) (okk : okD dk = true) (os : okD ds = true) (of_ : okD df = true)
    (hw : inR W5 dw = isWD dw) (hk : inR K3 dk = isKD dk) :
    ∃ h', HLe h h' ∧ match dueD dw dk ds df with
      | some j => ∃ a, run G n "_law_due" [w, k, s, f] h = some (.ok (.ref a) h') ∧ h'[a]? = some (.tup [.str (errF j), .str (pick dw dk ds df j).shown])
      | none => run G n "_law_due" [w, k, s, f] h = some (.ok .non h') := by
  have t1 := notin_ok (o := orcOf G (run G (n - 1)) (run G (n - 2))) (w := w) (k := k) (s := s) (f := f) (a := 0) (ws := W5) (es := eW5) rfl ew ow (by decide +kernel) (by decide) rfl
  rw [hw] at t1
  have l1 : HLe h (h ++ [.lst (W5.map .str)] ++ [.lst (W5.map fun z => .str (PyData.str z).shown)]) := (HLe.app _ _).trans (HLe.app _ _)
  generalize hg1 : (h ++ [Ho.lst (W5.map .str)] ++ [Ho.lst (W5.map fun z => .str (PyData.str z).shown)]) = h1 at t1 l1
  have t2 := notin_ok (o := orcOf G (run G (n - 1)) (run G (n - 2))) (w := w) (k := k) (s := s) (f := f) (a := 1) (ws := K3) (es := eK3) rfl (dat_mono l1.d 8 ek) okk (by decide +kernel) (by decide) rfl
  rw [hk] at t2
  have l2 : HLe h1 (h1 ++ [.lst (K3.map .str)] ++ [.lst (K3.map fun z => .str (PyData.str z).shown)]) := (HLe.app _ _).trans (HLe.app _ _)
  generalize hg2 : (h1 ++ [Ho.lst (K3.map .str)] ++ [Ho.lst (K3.map fun z => .str (PyData.str z).shown)]) = h2 at t2 l2
  have l12 := l1.trans l2
  have t3 := due2_ok (n := n) (w := w) (k := k) (f := f) D (by omega) (dat_mono l12.d 8 es)
  have tup : ∀ (t : Str) (a : Nat) (u : Vv) (du : PyData) (h0 : VH), [some w, some k, some s, some f, (none : Option Vv)][a]? = some (some u) → dat G h0 8 u = some du → okD du = true → evS G (orcOf G (run G (n - 1)) (run G (n - 2))) (sTup t a) [some w, some k, some s, some f, none] h0 = some (.rt (.ref h0.length) (h0 ++ [.tup [.str t, .str du.shown]])) := fun t a u du h0 y1 y2 y3 => by
    have := repr_ok y2 y3
    unfold sTup
    simp [-List.append_assoc, evS, evE, evEs, evT, evI, Rb, Sb, sthen, ok1, truth, y1, this, new, sz]
  unfold dueD
  cases q1 : isWD dw with
  | false =>
    rw [q1] at t1
    rw [if_pos rfl]
    exact ⟨_, l1.trans (HLe.app _ _), h1.length, run_ev D.due (by omega) rfl (s := [some w, some k, some s, some f, none]) rfl (r := some (.rt _ _)) (seq_rt (ifs_t t1 (tup "word" 0 w dw h1 rfl (dat_mono l1.d 8 ew) ow))) rfl, get_new⟩
  | true =>
    rw [q1] at t1
    rw [if_neg (by simp)]
    cases q2 : isKD dk with
    | false =>
      rw [q2] at t2
      rw [if_pos rfl]
      exact ⟨_, l12.trans (HLe.app _ _), h2.length, run_ev D.due (by omega) rfl (s := [some w, some k, some s, some f, none]) rfl (r := some (.rt _ _)) (seq_nx (ifs_f t1 rfl) (seq_rt (ifs_t t2 (tup "kind" 1 k dk h2 rfl (dat_mono l12.d 8 ek) okk)))) rfl, get_new⟩
    | true =>
      rw [q2] at t2
      rw [if_neg (by simp)]
      cases q3 : isSD ds with
      | false =>
        rw [q3] at t3
        rw [if_pos rfl]
        exact ⟨_, l12.trans (HLe.app _ _), h2.length, run_ev D.due (by omega) rfl (s := [some w, some k, some s, some f, none]) rfl (r := some (.rt _ _)) (seq_nx (ifs_f t1 rfl) (seq_nx (ifs_f t2 rfl) (seq_rt (ifs_t t3 (tup "size" 2 s ds h2 rfl (dat_mono l12.d 8 es) os))))) rfl, get_new⟩
      | true =>
        rw [q3] at t3
        rw [if_neg (by simp)]
        obtain ⟨z, rfl⟩ : ∃ z, ds = .int z := by cases ds <;> first | exact ⟨_, rfl⟩ | cases q3
        obtain rfl : s = .int z := by cases datv es; rfl
        have t4 := due3_ok (n := n) (w := w) (size := z) D (by omega) (dat_mono l12.d 8 ek) (okD_sh okk) (dat_mono l12.d 8 ef)
        show ∃ h', HLe h h' ∧ match (if badF dk z df = true then some 3 else none) with | some j => _ | none => _
        cases q4 : badF dk z df with
        | true =>
          rw [q4] at t4
          exact ⟨_, l12.trans (HLe.app _ _), h2.length, run_ev D.due (by omega) rfl (s := [some w, some k, some (.int z), some f, none]) rfl (r := some (.rt _ _)) (seq_nx (ifs_f t1 rfl) (seq_nx (ifs_f t2 rfl) (seq_nx (ifs_f t3 rfl) (seq_rt (ifs_t t4 (tup "value" 3 f df h2 rfl (dat_mono l12.d 8 ef) of_)))))) rfl, get_new⟩
        | false =>
          rw [q4] at t4
          exact ⟨h2, l12, run_ev D.due (by omega) rfl (s := [some w, some k, some (.int z), some f, none]) rfl (r := some (.rt .non h2)) (seq_nx (ifs_f t1 rfl) (seq_nx (ifs_f t2 rfl) (seq_nx (ifs_f t3 rfl) (seq_nx (ifs_f t4 rfl) (seq_rt rfl))))) rfl⟩
end
end Pl

set_option linter.all false
set_option autoImplicit false
set_option maxRecDepth 100000
set_option maxHeartbeats 1000000
namespace Pl
open PySem Dv
def t0 : St := (.asg (.one 6) (.call "_law_of" (.cons (.var 4) (.cons (.bin .Add (.bin .Mult (.var 1) (.cst (.int 5))) (.var 2)) .nil))))
def t1 : St := (.asg (.one 7) (.lst (.cons (.cst .non) (.cons (.cst (.int 0)) (.cons (.cst (.str "Inner")) (.cons (.cst (.str "")) (.cons (.lst (.cons (.cst (.str "open")) .nil)) (.cons (.tup (.cons (.cst (.str "open")) .nil)) (.cons (.cst (.str "openinner")) .nil)))))))))
def t2 : St := (.asg (.one 8) (.call "_law_of" (.cons (.var 4) (.cons (.bin .Add (.bin .Mult (.lst (.cons (.cst (.str "setting")) (.cons (.cst (.str "open")) (.cons (.cst (.str "inner")) .nil)))) (.cst (.int 6))) (.var 7)) .nil))))
def t3 : St := (.asg (.one 9) (.call "_law_of" (.cons (.var 4) (.cons (.bin .Add (.bin .Mult (.lst (.cons (.cst (.int 1)) (.cons (.cst (.int 2)) (.cons (.cst (.int 3)) (.cons (.cst (.int 8)) .nil))))) (.cst (.int 5))) (.lst (.cons (.cst (.int 0)) (.cons (.cst (.int 9)) (.cons (.neg (.cst (.int 1))) (.cons (.cst (.bl true)) (.cons (.cst .non) (.cons (.cst (.str "3")) (.cons (.tup (.cons (.cst (.int 2)) .nil)) (.cons (.bin .Pow (.cst (.int 10)) (.cst (.int 30))) .nil)))))))))) .nil))))
def t4 : St := (.asg (.one 10) (.call "_law_of" (.cons (.var 4) (.cons (.bin .Add (.bin .Mult (.lst (.cons (.cst .non) .nil)) (.cst (.int 6))) (.lst (.cons (.cst (.int 0)) (.cons (.cst (.int 1)) (.cons (.cst (.int 2)) (.cons (.cst (.int 7)) (.cons (.cst (.int 8)) (.cons (.neg (.cst (.int 1))) (.cons (.cst (.bl true)) (.cons (.cst (.bl false)) (.cons (.cst (.str "0")) (.cons (.tup (.cons (.cst (.int 0)) .nil)) (.cons (.bin .Pow (.cst (.int 10)) (.cst (.int 30))) .nil))))))))))))) .nil))))
def t5 : St := (.asg (.many [11, 12]) (.tup (.cons (.call "_law_outcome" (.cons (.var 6) (.cons (.var 8) (.cons (.var 9) (.cons (.var 10) .nil))))) (.cons (.call "_law_due" (.cons (.var 6) (.cons (.var 8) (.cons (.var 9) (.cons (.var 10) .nil))))) .nil))))
def t6 : St := (.ifs (.val (.cmp .IsNot (.var 12) (.cst .non))) (.seq (.ifs (.val (.cmpo .NotEq (.var 11) (.var 12))) (.seq (.ret (.cst (.bl false))) .skip) .skip) (.seq .cnt .skip)) .skip)
def t7 : St := (.ifs (.or (.not (.val (.bf .isinst (.cons (.var 11) (.cons (.cst (.cls "Name")) .nil))))) (.val (.cmpo .NotEq (.lst (.cons (.attr (.var 11) "word") (.cons (.attr (.var 11) "kind") (.cons (.attr (.var 11) "size") .nil)))) (.lst (.cons (.var 6) (.cons (.var 8) (.cons (.var 9) .nil))))))) (.seq (.ret (.cst (.bl false))) .skip) .skip)
def t8 : St := (.ifs (.val (.cmpo .NotEq (.attr (.var 11) "start") (.var 10))) (.seq (.ret (.cst (.bl false))) .skip) .skip)
def t9 : St := (.asg (.one 13) (.call "_law_outcome" (.cons (.call "_law_of" (.cons (.var 4) (.cons (.lst (.cons (.var 6) (.cons (.cst (.str "os")) .nil))) .nil))) (.cons (.var 8) (.cons (.call "_law_of" (.cons (.var 4) (.cons (.lst (.cons (.var 9) (.cons (.cst (.int 8)) .nil))) .nil))) (.cons (.var 10) .nil))))))
def t10 : St := (.asg (.one 14) (.cmpo .Eq (.lst (.cons (.attr (.var 13) "word") (.cons (.attr (.var 13) "size") .nil))) (.lst (.cons (.var 6) (.cons (.var 9) .nil)))))
def t11 : St := (.ifs (.val (.cmpo .NotEq (.bf .repr (.cons (.lst (.cons (.cmpo .Eq (.var 11) (.var 13)) (.cons (.cmpo .Eq (.var 13) (.var 11)) (.cons (.cmpo .NotEq (.var 11) (.var 13)) .nil)))) .nil)) (.bf .repr (.cons (.lst (.cons (.var 14) (.cons (.var 14) (.cons (.not (.var 14)) .nil)))) .nil)))) (.seq (.ret (.cst (.bl false))) .skip) .skip)
def t12 : St := (.ifs (.val (.bf .any (.cons (.lc (.cmpo .Eq (.var 11) (.var 15)) [15] [15] (.val (.lst (.cons (.cst .non) (.cons (.var 6) (.cons (.tup (.cons (.var 6) (.cons (.var 8) (.cons (.var 9) (.cons (.var 10) .nil))))) .nil))))) .yes) .nil))) (.seq (.ret (.cst (.bl false))) .skip) .skip)
def sTurn : St := (.seq t0 (.seq t1 (.seq t2 (.seq t3 (.seq t4 (.seq t5 (.seq t6 (.seq t7 (.seq t8 (.seq t9 (.seq t10 (.seq t11 (.seq t12 .skip)))))))))))))
def sCell : St := (.seq (.asg (.one 4) (.call "_law_bag" (.cons (.var 0) (.cons (.var 3) .nil)))) (.seq (.for_ [5] (.rng (.cons (.cst (.int 40)) .nil)) sTurn) .skip))
def u0 : St := (.asg (.one 1) (.lst (.cons (.cst (.str "a")) (.cons (.cst (.str "debug")) (.cons (.cst (.str "abcdefgh")) (.cons (.cst (.str "z")) (.cons (.cst (.str "bod")) .nil)))))))
def u1 : St := (.asg (.one 2) (.lst (.cons (.cst .non) (.cons (.cst (.int 0)) (.cons (.cst (.str "")) (.cons (.cst (.str "A")) (.cons (.cst (.str "abcdefghi")) (.cons (.cst (.str "a1")) (.cons (.cst (.str "a b")) (.cons (.cst (.str "if")) (.cons (.cst (.str "was")) (.cons (.cst (.str "header")) (.cons (.cst (.str "name")) (.cons (.cst (.str "stop")) (.cons (.tup (.cons (.cst (.str "a")) .nil)) (.cons (.lst (.cons (.cst (.str "a")) .nil)) .nil))))))))))))))))
def u3 : St := (.ret (.and (.cmp .Is (.attr (.mkk "Name" ⟨4, [], [("start", .non)], [.inl 0, .inl 1, .inl 2, .inl 3, .inr 0]⟩ (.cons (.cst (.str "a")) (.cons (.cst (.str "open")) (.cons (.cst (.int 1)) .nil))) .nil) "start") (.cst .non)) (.cmpo .NotEq (.mkk "Name" ⟨4, ["start"], [], [.inl 0, .inl 1, .inl 2, .inl 3, .inl 4]⟩ (.cons (.cst (.str "a")) (.cons (.cst (.str "inner")) (.cons (.cst (.int 8)) .nil))) (.cons (.cst (.int 0)) .nil)) (.mkk "Name" ⟨4, [], [("start", .non)], [.inl 0, .inl 1, .inl 2, .inl 3, .inr 0]⟩ (.cons (.cst (.str "a")) (.cons (.cst (.str "inner")) (.cons (.cst (.int 8)) .nil))) .nil))))
def u2 : St := (.for_ [3] (.rng (.cons (.bf .max (.cons (.cst (.int 1)) (.cons (.bf .min (.cons (.cst (.int 2)) (.cons (.bf .len (.cons (.var 0) .nil)) .nil))) .nil))) .nil)) sCell)
def xLaw04 : St := (.seq u0 (.seq u1 (.seq u2 (.seq u3 .skip))))
def wordsV : List Vv := W5.map .str
def oddW : List Vv := [.non, .int 0, .str "", .str "A", .str "abcdefghi", .str "a1", .str "a b", .str "if", .str "was", .str "header", .str "name", .str "stop", .ref 2, .ref 3]
def DW : List PyData := [.str "a", .str "debug", .str "abcdefgh", .str "z", .str "bod", .none, .int 0, .str "", .str "A", .str "abcdefghi", .str "a1", .str "a b", .str "if", .str "was", .str "header", .str "name", .str "stop", .tuple [.str "a"], .list [.str "a"]]
def DK : List PyData := [.str "setting", .str "open", .str "inner", .none, .int 0, .str "Inner", .str "", .list [.str "open"], .tuple [.str "open"], .str "openinner"]
def DS : List PyData := [.int 1, .int 2, .int 3, .int 8, .int 0, .int 9, .int (-1), .bool true, .none, .str "3", .tuple [.int 2], .int (10 ^ 30)]
def DF : List PyData := [.none, .int 0, .int 1, .int 2, .int 7, .int 8, .int (-1), .bool true, .bool false, .str "0", .tuple [.int 0], .int (10 ^ 30)]
theorem dw_all : DW.all (fun d => okD d && (inR W5 d == isWD d)) = true := by decide +kernel
theorem dk_all : DK.all (fun d => okD d && (inR K3 d == isKD d)) = true := by decide +kernel
theorem ds_all : DS.all okD = true := by decide +kernel
theorem df_all : DF.all okD = true := by decide +kernel
/-- what stands through the law -/
structure Tn (b : Nat) (h : VH) : Prop where
  b5 : 5 ≤ b
  h1 : h[1]? = some (.lst wordsV)
  h2 : h[2]? = some (.tup [.str "a"])
  h3 : h[3]? = some (.lst [.str "a"])
  h4 : h[4]? = some (.lst oddW)
section
variable {G : Tx} {n m : Nat} {h h' h2 : VH} {v w k s f : Vv} {dw dk ds df d : PyData} {i j b B : Nat} {kws : List Kp} {o : Orc} {T : String} {sl : Sl}
theorem Tn.step (t : Tn b h) (x : HLx b h h') : Tn b h' := by
  have b5 := t.b5
  exact ⟨b5, x 1 _ (by omega) t.h1, x 2 _ (by omega) t.h2, x 3 _ (by omega) t.h3, x 4 _ (by omega) t.h4⟩
theorem draw_ok (D : L04 G kws) (hn : 6 ≤ n) {e : Ex} {xs : List Vv} (hs : sl[4]? = some (some (.ref b))) (he : evE G (orcOf G (run G (n - 1)) (run G (n - 2))) e sl h = some (.ok (.ref j) h2)) (hj : h2[j]? = some (.lst xs)) (hl : HLe h h2) (bg : Bag h b (B + 1)) (h0 : 0 < xs.length) (h1 : xs.length < 1000000) (hb : j ≠ b) :
    ∃ v h', evE G (orcOf G (run G (n - 1)) (run G (n - 2))) (.call "_law_of" (.cons (.var 4) (.cons e .nil))) sl h = some (.ok v h') ∧ v ∈ xs ∧ Bag h' b B ∧ HLx b h h' ∧ HLx b h2 h' := by
  obtain ⟨v, h', e1, hv, bg', x⟩ := of_ok D.drw (n := n - 1) (by omega) (bg.keep hl) hj h0 h1 hb
  refine ⟨v, h', ?_, hv, bg', (hl.x b).trans x, x⟩
  simp only [evE, evEs, hs, Rb_ok, he]
  show callP G (run G (n - 1)) "_law_of" [.ref b, .ref j] h2 = _
  rw [call_of D.drw.of_ rfl, e1]
/-- the data of a list's values, the bag left out -/
def AllD (G : Tx) (b : Nat) (h : VH) (xs : List Vv) (DD : List PyData) : Prop := ∀ v ∈ xs, ∃ d ∈ DD, dat G (h.set b .dead) 8 v = some d
theorem AllD.app {xs ys : List Vv} {DD : List PyData} (a : AllD G b h xs DD) (c : AllD G b h ys DD) : AllD G b h (xs ++ ys) DD := fun v hv => (List.mem_append.mp hv).elim (a v) (c v)
theorem AllD.rep {xs : List Vv} {DD : List PyData} (a : AllD G b h xs DD) (n : Nat) : AllD G b h (List.replicate n xs).flatten DD := fun v hv => by
  obtain ⟨l, h1, h2⟩ := List.mem_flatten.mp hv
  rw [(List.mem_replicate.mp h1).2] at h2
  exact a v h2
theorem AllD.nil {DD : List PyData} : AllD G b h [] DD := fun v hv => by cases hv
theorem AllD.cons {x : Vv} {xs : List Vv} {DD : List PyData} (d : PyData) (hd : d ∈ DD) (e : dat G (h.set b .dead) 8 x = some d) (a : AllD G b h xs DD) : AllD G b h (x :: xs) DD := fun v hv => by
  rcases List.mem_cons.mp hv with rfl | hv
  · exact ⟨d, hd, e⟩
  · exact a v hv
theorem dat_tup1 {x : Vv} (hb : j ≠ b) (e : h[j]? = some (.tup [x])) (q : flat x = true) : dat G (h.set b .dead) 8 (.ref j) = some (.tuple [datF x]) := by
  have e' : (h.set b .dead)[j]? = some (.tup [x]) := by rw [List.getElem?_set_ne (Ne.symm hb)]; exact e
  simp only [dat, e']
  simp [List.mapM_cons, dat_flat q]
theorem dat_lst1 {x : Vv} (hb : j ≠ b) (e : h[j]? = some (.lst [x])) (q : flat x = true) : dat G (h.set b .dead) 8 (.ref j) = some (.list [datF x]) := by
  have e' : (h.set b .dead)[j]? = some (.lst [x]) := by rw [List.getElem?_set_ne (Ne.symm hb)]; exact e
  simp only [dat, e']
  simp [List.mapM_cons, dat_flat q]
theorem words_all (t : Tn b h) : AllD G b h ((List.replicate 5 wordsV).flatten ++ oddW) DW := by
  have b5 := t.b5
  refine AllD.app (AllD.rep ?_ 5) ?_
  · exact .cons (.str "a") (by simp [DW]) rfl (.cons (.str "debug") (by simp [DW]) rfl (.cons (.str "abcdefgh") (by simp [DW]) rfl (.cons (.str "z") (by simp [DW]) rfl (.cons (.str "bod") (by simp [DW]) rfl .nil))))
  · exact .cons .none (by simp [DW]) rfl (.cons (.int 0) (by simp [DW]) rfl (.cons (.str "") (by simp [DW]) rfl (.cons (.str "A") (by simp [DW]) rfl (.cons (.str "abcdefghi") (by simp [DW]) rfl (.cons (.str "a1") (by simp [DW]) rfl (.cons (.str "a b") (by simp [DW]) rfl (.cons (.str "if") (by simp [DW]) rfl (.cons (.str "was") (by simp [DW]) rfl (.cons (.str "header") (by simp [DW]) rfl (.cons (.str "name") (by simp [DW]) rfl (.cons (.str "stop") (by simp [DW]) rfl (.cons (.tuple [.str "a"]) (by simp [DW]) (dat_tup1 (by omega) t.h2 rfl) (.cons (.list [.str "a"]) (by simp [DW]) (dat_lst1 (by omega) t.h3 rfl) .nil)))))))))))))
theorem e_words (t : Tn b h) (h1 : sl[1]? = some (some (.ref 1))) (h2 : sl[2]? = some (some (.ref 4))) : evE G o (.bin .Add (.bin .Mult (.var 1) (.cst (.int 5))) (.var 2)) sl h = some (.ok (.ref (h.length + 1)) (h ++ [.lst (List.replicate 5 wordsV).flatten] ++ [.lst ((List.replicate 5 wordsV).flatten ++ oddW)])) := by
  have g4 : (h ++ [Ho.lst (List.replicate 5 wordsV).flatten])[4]? = some (.lst oddW) := get_app t.h4
  have m1 : binop .Mult (.ref 1) (.int 5) h = some (.ok (.ref h.length) (h ++ [.lst (List.replicate 5 wordsV).flatten])) := by
    simp only [binop, t.h1]
    rw [if_pos (by decide)]
    rfl
  have m2 : binop .Add (.ref h.length) (.ref 4) (h ++ [.lst (List.replicate 5 wordsV).flatten]) = some (.ok (.ref (h.length + 1)) (h ++ [.lst (List.replicate 5 wordsV).flatten] ++ [.lst ((List.replicate 5 wordsV).flatten ++ oddW)])) := by
    simp only [binop, get_new, g4]
    rw [if_pos (by decide)]
    simp [new, -List.append_assoc]
  simp only [evE, h1, h2, Rb_ok, m1, m2]
theorem e_lst {es : Exs} {vs : List Vv} {h1 : VH} (k : evEs G o es sl h = some (.ok vs h1)) (hl : vs.length ≤ 1000) : evE G o (.lst es) sl h = some (.ok (.ref h1.length) (h1 ++ [.lst vs])) := by
  show Rb (evEs G o es sl h) _ = _
  rw [k]
  show (if vs.length ≤ sz then new (.lst vs) h1 else none) = _
  rw [if_pos (Nat.le_trans hl (by decide))]
  rfl
theorem e_tup {es : Exs} {vs : List Vv} {h1 : VH} (k : evEs G o es sl h = some (.ok vs h1)) (hl : vs.length ≤ 1000) : evE G o (.tup es) sl h = some (.ok (.ref h1.length) (h1 ++ [.tup vs])) := by
  show Rb (evEs G o es sl h) _ = _
  rw [k]
  show (if vs.length ≤ sz then new (.tup vs) h1 else none) = _
  rw [if_pos (Nat.le_trans hl (by decide))]
  rfl
theorem es_cons {e : Ex} {es : Exs} {vs : List Vv} {h1 h2 : VH} (k : evE G o e sl h = some (.ok v h1)) (k2 : evEs G o es sl h1 = some (.ok vs h2)) : evEs G o (.cons e es) sl h = some (.ok (v :: vs) h2) := by
  simp only [evEs, k, Rb_ok, k2]
theorem e_bin {op : Operator} {a c : Ex} {x y : Vv} {h1 h2 h3 : VH} (k1 : evE G o a sl h = some (.ok x h1)) (k2 : evE G o c sl h1 = some (.ok y h2)) (k3 : binop op x y h2 = some (.ok v h3)) : evE G o (.bin op a c) sl h = some (.ok v h3) := by
  simp only [evE, k1, Rb_ok, k2, k3]
theorem b_mul {xs : List Vv} {k : Nat} (e : h[i]? = some (.lst xs)) (hk : k ≤ 1000) (hl : xs.length ≤ 1000) : binop .Mult (.ref i) (.int k) h = some (.ok (.ref h.length) (h ++ [.lst (List.replicate k xs).flatten])) := by
  simp only [binop, e]
  rw [if_pos ⟨by omega, by omega, by
    have : xs.length * k ≤ 1000 * 1000 := Nat.mul_le_mul hl hk
    show xs.length * ((k : Int)).toNat ≤ 16777216
    simp only [Int.toNat_natCast]
    omega⟩]
  rfl
theorem b_add {xs ys : List Vv} (e : h[i]? = some (.lst xs)) (e2 : h[j]? = some (.lst ys)) (hl : xs.length ≤ 100000) (hl2 : ys.length ≤ 100000) : binop .Add (.ref i) (.ref j) h = some (.ok (.ref h.length) (h ++ [.lst (xs ++ ys)])) := by
  simp only [binop, e, e2]
  rw [if_pos (by show xs.length + ys.length ≤ 16777216; omega)]
  rfl
def oddK (L : Nat) : List Vv := [.non, .int 0, .str "Inner", .str "", .ref L, .ref (L + 1), .str "openinner"]
theorem t1_ok : evS G o t1 sl h = some (.nx (sl.set 7 (some (.ref (h.length + 2)))) (h ++ [.lst [.str "open"]] ++ [.tup [.str "open"]] ++ [.lst (oddK h.length)])) := by
  have k : evE G o (.lst (.cons (.cst .non) (.cons (.cst (.int 0)) (.cons (.cst (.str "Inner")) (.cons (.cst (.str "")) (.cons (.lst (.cons (.cst (.str "open")) .nil)) (.cons (.tup (.cons (.cst (.str "open")) .nil)) (.cons (.cst (.str "openinner")) .nil)))))))) sl h = some (.ok (.ref (h ++ [Ho.lst [.str "open"]] ++ [Ho.tup [.str "open"]]).length) (h ++ [.lst [.str "open"]] ++ [.tup [.str "open"]] ++ [.lst [.non, .int 0, .str "Inner", .str "", .ref h.length, .ref (h ++ [Ho.lst [.str "open"]]).length, .str "openinner"]])) :=
    e_lst (es_cons rfl (es_cons rfl (es_cons rfl (es_cons rfl (es_cons (e_lst (vs := [.str "open"]) rfl (by simp)) (es_cons (e_tup (vs := [.str "open"]) rfl (by simp)) (es_cons rfl rfl))))))) (by simp)
  have k2 := asg_of (i := 7) k
  rw [show (h ++ [Ho.lst [Vv.str "open"]] ++ [Ho.tup [Vv.str "open"]]).length = h.length + 2 by simp, show (h ++ [Ho.lst [Vv.str "open"]]).length = h.length + 1 by simp] at k2
  exact k2
theorem e_kinds {q L : Nat} (h7 : sl[7]? = some (some (.ref q))) (hq : h[q]? = some (.lst (oddK L))) :
    evE G o (.bin .Add (.bin .Mult (.lst (.cons (.cst (.str "setting")) (.cons (.cst (.str "open")) (.cons (.cst (.str "inner")) .nil)))) (.cst (.int 6))) (.var 7)) sl h = some (.ok (.ref (h ++ [Ho.lst (K3.map .str)] ++ [Ho.lst (List.replicate 6 (K3.map Vv.str)).flatten]).length) (h ++ [.lst (K3.map .str)] ++ [.lst (List.replicate 6 (K3.map Vv.str)).flatten] ++ [.lst ((List.replicate 6 (K3.map Vv.str)).flatten ++ oddK L)])) := by
  refine e_bin (e_bin (e_lst (vs := K3.map .str) rfl (by simp [K3])) rfl (b_mul (k := 6) get_new (by omega) (by simp [K3]))) (y := .ref q) (by simp only [evE, h7]) (b_add get_new (get_app (get_app hq)) (by decide) (by simp [oddK]))
theorem kinds_all {L : Nat} (hb : L + 1 < b ∨ b < L) (e1 : h[L]? = some (.lst [.str "open"])) (e2 : h[L + 1]? = some (.tup [.str "open"])) : AllD G b h ((List.replicate 6 (K3.map Vv.str)).flatten ++ oddK L) DK := by
  refine AllD.app (AllD.rep ?_ 6) ?_
  · exact .cons (.str "setting") (by simp [DK]) rfl (.cons (.str "open") (by simp [DK]) rfl (.cons (.str "inner") (by simp [DK]) rfl .nil))
  · exact .cons .none (by simp [DK]) rfl (.cons (.int 0) (by simp [DK]) rfl (.cons (.str "Inner") (by simp [DK]) rfl (.cons (.str "") (by simp [DK]) rfl (.cons (.list [.str "open"]) (by simp [DK]) (dat_lst1 (by omega) e1 rfl) (.cons (.tuple [.str "open"]) (by simp [DK]) (dat_tup1 (by omega) e2 rfl) (.cons (.str "openinner") (by simp [DK]) rfl .nil))))))
def S4 : List Vv := [.int 1, .int 2, .int 3, .int 8]
def oddS (L : Nat) : List Vv := [.int 0, .int 9, .int (-1), .bl true, .non, .str "3", .ref L, .int (10 ^ 30)]
theorem pow30 : binop .Pow (.int 10) (.int 30) h = some (.ok (.int (10 ^ 30)) h) := by
  show (if 0 ≤ (30 : Int) ∧ (30 : Int) ≤ 1000000 ∧ (10 : Int).natAbs < 2 ^ 64 then ok1 (.int ((10 : Int) ^ (30 : Int).toNat)) h else none) = _
  rw [if_pos (by decide)]
  rfl
theorem e_sizes : ∃ j h2, evE G o (.bin .Add (.bin .Mult (.lst (.cons (.cst (.int 1)) (.cons (.cst (.int 2)) (.cons (.cst (.int 3)) (.cons (.cst (.int 8)) .nil))))) (.cst (.int 5))) (.lst (.cons (.cst (.int 0)) (.cons (.cst (.int 9)) (.cons (.neg (.cst (.int 1))) (.cons (.cst (.bl true)) (.cons (.cst .non) (.cons (.cst (.str "3")) (.cons (.tup (.cons (.cst (.int 2)) .nil)) (.cons (.bin .Pow (.cst (.int 10)) (.cst (.int 30))) .nil)))))))))) sl h = some (.ok (.ref j) h2) ∧ HLe h h2 ∧ h.length ≤ j ∧ ∃ L, h2[j]? = some (.lst ((List.replicate 5 S4).flatten ++ oddS L)) ∧ h.length ≤ L ∧ h2[L]? = some (.tup [.int 2]) := by
  refine ⟨_, _, e_bin (e_bin (e_lst (vs := S4) rfl (by simp [S4])) rfl (b_mul (k := 5) get_new (by omega) (by simp [S4]))) (e_lst (es_cons rfl (es_cons rfl (es_cons rfl (es_cons rfl (es_cons rfl (es_cons rfl (es_cons (e_tup (vs := [.int 2]) rfl (by simp)) (es_cons (e_bin rfl rfl pow30) rfl)))))))) (by simp)) (b_add (get_app (get_app get_new)) get_new (by decide) (by simp)), ?_, ?_, (h ++ [Ho.lst S4] ++ [Ho.lst (List.replicate 5 S4).flatten]).length, get_new, ?_, get_app (get_app get_new)⟩
  · exact (((((HLe.app _ _).trans (HLe.app _ _)).trans (HLe.app _ _)).trans (HLe.app _ _)).trans (HLe.app _ _))
  · simp
  · simp
theorem sizes_all {L : Nat} (hb : L ≠ b) (e1 : h[L]? = some (.tup [.int 2])) : AllD G b h ((List.replicate 5 S4).flatten ++ oddS L) DS := by
  refine AllD.app (AllD.rep ?_ 5) ?_
  · exact .cons (.int 1) (by simp [DS]) rfl (.cons (.int 2) (by simp [DS]) rfl (.cons (.int 3) (by simp [DS]) rfl (.cons (.int 8) (by simp [DS]) rfl .nil)))
  · exact .cons (.int 0) (by simp [DS]) rfl (.cons (.int 9) (by simp [DS]) rfl (.cons (.int (-1)) (by simp [DS]) rfl (.cons (.bool true) (by simp [DS]) rfl (.cons .none (by simp [DS]) rfl (.cons (.str "3") (by simp [DS]) rfl (.cons (.tuple [.int 2]) (by simp [DS]) (dat_tup1 hb e1 rfl) (.cons (.int (10 ^ 30)) (by simp [DS]) rfl .nil)))))))
def oddF (L : Nat) : List Vv := [.int 0, .int 1, .int 2, .int 7, .int 8, .int (-1), .bl true, .bl false, .str "0", .ref L, .int (10 ^ 30)]
theorem e_firsts : ∃ j h2, evE G o (.bin .Add (.bin .Mult (.lst (.cons (.cst .non) .nil)) (.cst (.int 6))) (.lst (.cons (.cst (.int 0)) (.cons (.cst (.int 1)) (.cons (.cst (.int 2)) (.cons (.cst (.int 7)) (.cons (.cst (.int 8)) (.cons (.neg (.cst (.int 1))) (.cons (.cst (.bl true)) (.cons (.cst (.bl false)) (.cons (.cst (.str "0")) (.cons (.tup (.cons (.cst (.int 0)) .nil)) (.cons (.bin .Pow (.cst (.int 10)) (.cst (.int 30))) .nil))))))))))))) sl h = some (.ok (.ref j) h2) ∧ HLe h h2 ∧ h.length ≤ j ∧ ∃ L, h2[j]? = some (.lst ((List.replicate 6 [Vv.non]).flatten ++ oddF L)) ∧ h.length ≤ L ∧ h2[L]? = some (.tup [.int 0]) := by
  refine ⟨_, _, e_bin (e_bin (e_lst (vs := [.non]) rfl (by simp)) rfl (b_mul (k := 6) get_new (by omega) (by simp))) (e_lst (es_cons rfl (es_cons rfl (es_cons rfl (es_cons rfl (es_cons rfl (es_cons rfl (es_cons rfl (es_cons rfl (es_cons rfl (es_cons (e_tup (vs := [.int 0]) rfl (by simp)) (es_cons (e_bin rfl rfl pow30) rfl))))))))))) (by simp)) (b_add (get_app (get_app get_new)) get_new (by decide) (by simp)), ?_, ?_, (h ++ [Ho.lst [Vv.non]] ++ [Ho.lst (List.replicate 6 [Vv.non]).flatten]).length, get_new, ?_, get_app (get_app get_new)⟩
  · exact (((((HLe.app _ _).trans (HLe.app _ _)).trans (HLe.app _ _)).trans (HLe.app _ _)).trans (HLe.app _ _))
  · simp
  · simp
theorem firsts_all {L : Nat} (hb : L ≠ b) (e1 : h[L]? = some (.tup [.int 0])) : AllD G b h ((List.replicate 6 [Vv.non]).flatten ++ oddF L) DF := by
  refine AllD.app (AllD.rep ?_ 6) ?_
  · exact .cons .none (by simp [DF]) rfl .nil
  · exact .cons (.int 0) (by simp [DF]) rfl (.cons (.int 1) (by simp [DF]) rfl (.cons (.int 2) (by simp [DF]) rfl (.cons (.int 7) (by simp [DF]) rfl (.cons (.int 8) (by simp [DF]) rfl (.cons (.int (-1)) (by simp [DF]) rfl (.cons (.bool true) (by simp [DF]) rfl (.cons (.bool false) (by simp [DF]) rfl (.cons (.str "0") (by simp [DF]) rfl (.cons (.tuple [.int 0]) (by simp [DF]) (dat_tup1 hb e1 rfl) (.cons (.int (10 ^ 30)) (by simp [DF]) rfl .nil))))))))))
end
end Pl

set_option linter.all false
set_option autoImplicit false
set_option maxRecDepth 100000
set_option maxHeartbeats 1000000
namespace Pl
open PySem Dv
section
variable {G : Tx} {n m : Nat} {h h' h2 : VH} {v w k s f : Vv} {dw dk ds df d : PyData} {i j b B : Nat} {kws : List Kp} {o : Orc} {T : String} {sl : Sl}
theorem dr_all {P : PyData → Bool} {DD : List PyData} (a : DD.all P = true) {d : PyData} (hd : d ∈ DD) : P d = true := List.all_eq_true.mp a d hd
theorem eqv_flat (q : flat v = true) (hs : ∀ z, v = .str z → True) : PyData.eqv (datF v) (datF v) = true := by
  cases v <;> first | (simp [datF, PyData.eqv]; done) | cases q
/-- four values drawn: their data, the bag left out -/
structure Fo (G : Tx) (b : Nat) (h : VH) (w k s f : Vv) (dw dk ds df : PyData) : Prop where
  inW : dw ∈ DW
  inK : dk ∈ DK
  inS : ds ∈ DS
  inF : df ∈ DF
  ew : dat G (h.set b .dead) 8 w = some dw
  ek : dat G (h.set b .dead) 8 k = some dk
  es : dat G (h.set b .dead) 8 s = some ds
  ef : dat G (h.set b .dead) 8 f = some df
theorem Fo.step (F : Fo G b h w k s f dw dk ds df) (x : HLx b h h') : Fo G b h' w k s f dw dk ds df :=
  ⟨F.inW, F.inK, F.inS, F.inF, dat_mono x.dd 8 F.ew, dat_mono x.dd 8 F.ek, dat_mono x.dd 8 F.es, dat_mono x.dd 8 F.ef⟩
abbrev S16 (x3 : Option Vv) (b : Nat) (x5 x6 x7 x8 x9 x10 x11 x12 x13 x14 x15 : Option Vv) : Sl := [some (.ref 0), some (.ref 1), some (.ref 4), x3, some (.ref b), x5, x6, x7, x8, x9, x10, x11, x12, x13, x14, x15]
theorem draws_ok (D : L04 G kws) (hn : 6 ≤ n) {x3 x5 x6 x7 x8 x9 x10 x11 x12 x13 x14 x15 : Option Vv} (t : Tn b h) (bg : Bag h b (B + 4)) :
    ∃ (w k s f : Vv) (dw dk ds df : PyData) (y7 : Option Vv) (h' : VH), HLx b h h' ∧ Fo G b h' w k s f dw dk ds df ∧ Tn b h' ∧ Bag h' b B ∧ ∀ rest, evS G (orcOf G (run G (n - 1)) (run G (n - 2))) (.seq t0 (.seq t1 (.seq t2 (.seq t3 (.seq t4 rest))))) (S16 x3 b x5 x6 x7 x8 x9 x10 x11 x12 x13 x14 x15) h = evS G (orcOf G (run G (n - 1)) (run G (n - 2))) rest (S16 x3 b x5 (some w) y7 (some k) (some s) (some f) x11 x12 x13 x14 x15) h' := by
  have b5 := t.b5
  have hbl : b < h.length := lt_of_get bg.choose_spec.choose_spec.choose_spec.1
  have lA : HLe h (h ++ [.lst (List.replicate 5 wordsV).flatten] ++ [.lst ((List.replicate 5 wordsV).flatten ++ oddW)]) := (HLe.app _ _).trans (HLe.app _ _)
  have gA : (h ++ [Ho.lst (List.replicate 5 wordsV).flatten] ++ [.lst ((List.replicate 5 wordsV).flatten ++ oddW)])[h.length + 1]? = some (.lst ((List.replicate 5 wordsV).flatten ++ oddW)) := by
    have := get_new (h := h ++ [Ho.lst (List.replicate 5 wordsV).flatten]) (o := .lst ((List.replicate 5 wordsV).flatten ++ oddW))
    rw [List.length_append, List.length_singleton] at this
    exact this
  obtain ⟨w, h1, e1, hw, bg1, x1, x1'⟩ := draw_ok (n := n) (B := B + 3) D hn (sl := S16 x3 b x5 x6 x7 x8 x9 x10 x11 x12 x13 x14 x15) rfl (e_words t rfl rfl) gA lA bg (by decide) (by decide) (by omega)
  obtain ⟨dw, mw, ew⟩ := words_all (G := G) (t.step (lA.x b)) w hw
  have ew1 := dat_mono x1'.dd 8 ew
  have t1' := t.step x1
  -- the kinds
  have lB : HLe h1 (h1 ++ [.lst [.str "open"]] ++ [.tup [.str "open"]] ++ [.lst (oddK h1.length)]) := ((HLe.app _ _).trans (HLe.app _ _)).trans (HLe.app _ _)
  have hbl1 : b < h1.length := lt_of_get bg1.choose_spec.choose_spec.choose_spec.1
  have q1 : (h1 ++ [Ho.lst [.str "open"]] ++ [.tup [.str "open"]] ++ [.lst (oddK h1.length)])[h1.length]? = some (.lst [.str "open"]) := get_app (get_app get_new)
  have q2 : (h1 ++ [Ho.lst [.str "open"]] ++ [.tup [.str "open"]] ++ [.lst (oddK h1.length)])[h1.length + 1]? = some (.tup [.str "open"]) := by
    have := get_new (h := h1 ++ [Ho.lst [.str "open"]]) (o := .tup [.str "open"])
    rw [List.length_append, List.length_singleton] at this
    exact get_app this
  have q3 : (h1 ++ [Ho.lst [.str "open"]] ++ [.tup [.str "open"]] ++ [.lst (oddK h1.length)])[h1.length + 2]? = some (.lst (oddK h1.length)) := by
    have := get_new (h := h1 ++ [Ho.lst [.str "open"]] ++ [.tup [.str "open"]]) (o := .lst (oddK h1.length))
    rw [List.length_append, List.length_append, List.length_singleton, List.length_singleton] at this
    exact this
  generalize hB : (h1 ++ [Ho.lst [.str "open"]] ++ [.tup [.str "open"]] ++ [.lst (oddK h1.length)]) = hb at lB q1 q2 q3
  have T1 : evS G (orcOf G (run G (n - 1)) (run G (n - 2))) t1 (S16 x3 b x5 (some w) x7 x8 x9 x10 x11 x12 x13 x14 x15) h1 = some (.nx (S16 x3 b x5 (some w) (some (.ref (h1.length + 2))) x8 x9 x10 x11 x12 x13 x14 x15) hb) := by
    rw [← hB]; exact t1_ok
  have lC : HLe hb (hb ++ [.lst (K3.map .str)] ++ [.lst (List.replicate 6 (K3.map Vv.str)).flatten] ++ [.lst ((List.replicate 6 (K3.map Vv.str)).flatten ++ oddK h1.length)]) := ((HLe.app _ _).trans (HLe.app _ _)).trans (HLe.app _ _)
  have bgb := bg1.keep lB
  have hbl2 : b < hb.length := lt_of_get bgb.choose_spec.choose_spec.choose_spec.1
  obtain ⟨k, h3, e3, hk, bg3, x3', x3''⟩ := draw_ok (n := n) (B := B + 2) D hn (sl := S16 x3 b x5 (some w) (some (.ref (h1.length + 2))) x8 x9 x10 x11 x12 x13 x14 x15) rfl (e_kinds (L := h1.length) rfl q3) get_new lC bgb (by simp [K3, oddK]) (by simp [K3, oddK]) (by simp; omega)
  obtain ⟨dk, mk, ek⟩ := kinds_all (G := G) (b := b) (L := h1.length) (by omega) (lC _ _ q1) (lC _ _ q2) k hk
  have ek3 := dat_mono x3''.dd 8 ek
  have ew3 := dat_mono ((lB.x b).trans x3').dd 8 ew1
  have t3' := (t1'.step (lB.x b)).step x3'
  -- the sizes
  have hbl3 : b < h3.length := lt_of_get bg3.choose_spec.choose_spec.choose_spec.1
  obtain ⟨j4, h4a, e4a, l4a, hj4, L4, g4, hL4, g4t⟩ := e_sizes (G := G) (o := orcOf G (run G (n - 1)) (run G (n - 2))) (sl := S16 x3 b x5 (some w) (some (.ref (h1.length + 2))) (some k) x9 x10 x11 x12 x13 x14 x15) (h := h3)
  obtain ⟨s, h4, e4, hs, bg4, x4', x4''⟩ := draw_ok (n := n) (B := B + 1) D hn (sl := S16 x3 b x5 (some w) (some (.ref (h1.length + 2))) (some k) x9 x10 x11 x12 x13 x14 x15) rfl e4a g4 l4a bg3 (by simp [S4, oddS]) (by simp [S4, oddS]) (by omega)
  obtain ⟨ds, ms, es⟩ := sizes_all (G := G) (b := b) (L := L4) (by omega) g4t s hs
  have es4 := dat_mono x4''.dd 8 es
  have ek4 := dat_mono x4'.dd 8 ek3
  have ew4 := dat_mono x4'.dd 8 ew3
  have t4' := t3'.step x4'
  -- the starts
  have hbl4 : b < h4.length := lt_of_get bg4.choose_spec.choose_spec.choose_spec.1
  obtain ⟨j5, h5a, e5a, l5a, hj5, L5, g5, hL5, g5t⟩ := e_firsts (G := G) (o := orcOf G (run G (n - 1)) (run G (n - 2))) (sl := S16 x3 b x5 (some w) (some (.ref (h1.length + 2))) (some k) (some s) x10 x11 x12 x13 x14 x15) (h := h4)
  obtain ⟨f, h5, e5, hf, bg5, x5', x5''⟩ := draw_ok (n := n) (B := B) D hn (sl := S16 x3 b x5 (some w) (some (.ref (h1.length + 2))) (some k) (some s) x10 x11 x12 x13 x14 x15) rfl e5a g5 l5a bg4 (by simp [oddF]) (by simp [oddF]) (by omega)
  obtain ⟨df, mf, ef⟩ := firsts_all (G := G) (b := b) (L := L5) (by omega) g5t f hf
  have ef5 := dat_mono x5''.dd 8 ef
  exact ⟨w, k, s, f, dw, dk, ds, df, some (.ref (h1.length + 2)), h5, (((x1.trans (lB.x b)).trans x3').trans x4').trans x5', ⟨mw, mk, ms, mf, dat_mono x5'.dd 8 ew4, dat_mono x5'.dd 8 ek4, dat_mono x5'.dd 8 es4, ef5⟩, t4'.step x5', bg5,
    fun rest => seq_nx (asg_of e1) (seq_nx T1 (seq_nx (asg_of e3) (seq_nx (asg_of e4) (seq_nx (asg_of e5) rfl))))⟩
end
end Pl

set_option linter.all false
set_option autoImplicit false
set_option maxRecDepth 100000
set_option maxHeartbeats 1000000
namespace Pl
open PySem Dv
section
variable {G : Tx} {n m : Nat} {h h' h2 : VH} {v w k s f : Vv} {dw dk ds df d : PyData} {i j b B : Nat} {kws : List Kp} {o : Orc} {T : String} {sl : Sl}
theorem lc_mem {e : Sl → VH → Option (Re Vv)} {cd : Sl → VH → Option (Re Bool)} {s : Sl} {tg : List Nat} {kp : VH → Bool} {f : Vv → Vv} (hk : ∀ acc, kp (h ++ [.lst acc]) = true) :
    ∀ (xs : List Vv) (acc : List Vv), (∀ x ∈ xs, ∀ acc, ∃ s1, setT tg s [x] = some s1 ∧ cd s1 (h ++ [.lst acc]) = some (.ok true (h ++ [.lst acc])) ∧ e s1 (h ++ [.lst acc]) = some (.ok (f x) (h ++ [.lst acc]))) →
      acc.length + xs.length ≤ 1000 → lcF e cd s tg kp h.length (xs.map fun v => [v]) (h ++ [.lst acc]) = some (.ok (.ref h.length) (h ++ [.lst (acc ++ xs.map f)]))
  | [], acc, _, _ => by simp [lcF, hk]
  | x :: xs, acc, he, hl => by
    obtain ⟨s1, e1, e2, e3⟩ := he x List.mem_cons_self acc
    simp only [List.length_cons] at hl
    have ac : acc.length < sz := by have : sz = 16777216 := rfl; omega
    have ih := lc_mem (f := f) hk xs (acc ++ [f x]) (fun y hy => he y (List.mem_cons_of_mem _ hy)) (by rw [List.length_append, List.length_singleton]; omega)
    simp only [List.map_cons, lcF, hk, e1, e2, e3, get_new, ac, if_true]
    rw [show (h ++ [Ho.lst acc]).set h.length (.lst (acc ++ [f x])) = h ++ [.lst (acc ++ [f x])] by simp]
    rw [ih]
    simp
theorem eqv_refl_flat : flat v = true → PyData.eqv (datF v) (datF v) = true := by
  intro q
  cases v <;> first | (simp [datF, PyData.eqv]; done) | cases q
theorem mapM_flat : ∀ {xs : List Vv}, xs.all flat = true → xs.mapM (dat G h m) = some (xs.map datF)
  | [], _ => rfl
  | x :: xs, q => by
    rw [List.all_cons, Bool.and_eq_true] at q
    rw [List.mapM_cons, dat_flat q.1, mapM_flat q.2]
    rfl
theorem dat_lstF {xs : List Vv} (e : h[i]? = some (.lst xs)) (q : xs.all flat = true) : dat G h 8 (.ref i) = some (.list (xs.map datF)) := by
  simp only [dat, e, mapM_flat q, Option.map_some]
theorem dat_tupF {xs : List Vv} (e : h[i]? = some (.tup xs)) (q : xs.all flat = true) : dat G h 8 (.ref i) = some (.tuple (xs.map datF)) := by
  simp only [dat, e, mapM_flat q, Option.map_some]
theorem errF_ok (j : Nat) : PyData.strOk (errF j) = true := by
  match j with
  | 0 => decide +kernel
  | 1 => decide +kernel
  | 2 => decide +kernel
  | _ + 3 => show PyData.strOk ("value" : Str) = true; decide +kernel
theorem okD_str (k : okD d = true) : PyData.strOk d.shown = true := by
  unfold okD at k
  simp only [Bool.and_eq_true] at k
  exact k.1.2
theorem ts_shaped {a c : Str} (ha : PyData.strOk a = true) (hc : PyData.strOk c = true) : SeqAt.shaped (.tuple [.str a, .str c]) = true := by
  unfold SeqAt.shaped
  simp [PyData.canLay0, PyData.canLayAll0, ha, hc, PyData.depth, PyData.depthAll]
/-- two tuples of the same two texts -/
theorem ne_same {a c : Str} {p q : Nat} (ha : PyData.strOk a = true) (hc : PyData.strOk c = true) (hp : h[p]? = some (.tup [.str a, .str c])) (hq : h[q]? = some (.tup [.str a, .str c])) : cmpoF G o .NotEq (.ref p) (.ref q) h = some (.ok (.bl false) h) := by
  have d1 : ∀ {r : Nat}, h[r]? = some (.tup [.str a, .str c]) → dat G h 8 (.ref r) = some (.tuple [.str a, .str c]) := fun {r} hr => dat_tupF hr rfl
  have e := eqd_ok (G := G) (d1 hp) (d1 hq) (ts_shaped ha hc) (ts_shaped ha hc)
  simp only [cmpoF, obj, hp]
  show (eqd G h _ _).bind _ = _
  rw [e]
  simp [PyData.eqv, PyData.eqvAll, ok1]
theorem t5_ok (D : L04 G kws) (hn : 12 ≤ n) {x3 x5 y7 x11 x12 x13 x14 x15 : Option Vv} (F : Fo G b h w k s f dw dk ds df) :
    ∃ a v2 h2, evS G (orcOf G (run G (n - 1)) (run G (n - 2))) t5 (S16 x3 b x5 (some w) y7 (some k) (some s) (some f) x11 x12 x13 x14 x15) h = some (.nx (S16 x3 b x5 (some w) y7 (some k) (some s) (some f) (some (.ref a)) (some v2) x13 x14 x15) h2) ∧ HLe h h2 ∧ (match dueD dw dk ds df with
      | some j => h2[a]? = some (.tup [.str (errF j), .str (pick dw dk ds df j).shown]) ∧ ∃ a2, v2 = .ref a2 ∧ h2[a2]? = some (.tup [.str (errF j), .str (pick dw dk ds df j).shown])
      | none => h2[a]? = some (nam w k s f) ∧ v2 = .non) := by
  have pw := dr_all dw_all F.inW
  have pk := dr_all dk_all F.inK
  simp only [Bool.and_eq_true, beq_iff_eq] at pw pk
  have ps := dr_all ds_all F.inS
  have pf := dr_all df_all F.inF
  have sd := HLd.self b h
  have ew := dat_mono sd 8 F.ew
  have ek := dat_mono sd 8 F.ek
  have es := dat_mono sd 8 F.es
  have ef := dat_mono sd 8 F.ef
  obtain ⟨a, h1, e1, l1, r1⟩ := out_ok (n := n - 1) D.nam D.kF D.out (by omega) ew ek es ef pw.1 pk.1 ps pf
  obtain ⟨h2, l2, r2⟩ := due_ok (n := n - 1) D (by omega) (dat_mono l1.d 8 ew) (dat_mono l1.d 8 ek) (dat_mono l1.d 8 es) (dat_mono l1.d 8 ef) pw.1 pk.1 ps pf pw.2 pk.2
  have st : ∀ v2, run G (n - 1) "_law_due" [w, k, s, f] h1 = some (.ok v2 h2) → evS G (orcOf G (run G (n - 1)) (run G (n - 2))) t5 (S16 x3 b x5 (some w) y7 (some k) (some s) (some f) x11 x12 x13 x14 x15) h = some (.nx (S16 x3 b x5 (some w) y7 (some k) (some s) (some f) (some (.ref a)) (some v2) x13 x14 x15) (h2 ++ [.tup [.ref a, v2]])) := fun v2 q => by
    have c1 : ∀ vs hh, callP G (run G (n - 1)) "_law_outcome" vs hh = run G (n - 1) "_law_outcome" vs hh := fun vs hh => call_of D.out rfl
    have c2 : ∀ vs hh, callP G (run G (n - 1)) "_law_due" vs hh = run G (n - 1) "_law_due" vs hh := fun vs hh => call_of D.due rfl
    have A : evE G (orcOf G (run G (n - 1)) (run G (n - 2))) (.tup (.cons (.call "_law_outcome" (.cons (.var 6) (.cons (.var 8) (.cons (.var 9) (.cons (.var 10) .nil))))) (.cons (.call "_law_due" (.cons (.var 6) (.cons (.var 8) (.cons (.var 9) (.cons (.var 10) .nil))))) .nil))) (S16 x3 b x5 (some w) y7 (some k) (some s) (some f) x11 x12 x13 x14 x15) h = some (.ok (.ref h2.length) (h2 ++ [.tup [.ref a, v2]])) := by
      refine e_tup (es_cons (v := .ref a) (h1 := h1) ?_ (es_cons (v := v2) (h1 := h2) ?_ rfl)) (by simp)
      · show callP G (run G (n - 1)) "_law_outcome" [w, k, s, f] h = _
        rw [c1, e1]
      · show callP G (run G (n - 1)) "_law_due" [w, k, s, f] h1 = _
        rw [c2, q]
    unfold t5
    show Sb (evE G _ (.tup _) _ h) _ _ = _
    rw [A]
    show (match obj G (h2 ++ [Ho.tup [.ref a, v2]]) (.ref h2.length) with | some (.tup xs) => (setT [11, 12] _ xs).map fun s1 => Sr.nx s1 (h2 ++ [Ho.tup [.ref a, v2]]) | _ => none) = _
    simp only [obj, get_new]
    rfl
  cases q : dueD dw dk ds df with
  | some j =>
    rw [q] at r1 r2
    obtain ⟨a2, e2, g2⟩ := r2
    exact ⟨a, .ref a2, _, st _ e2, (l1.trans l2).trans (HLe.app _ _), get_app (l2 _ _ r1), a2, rfl, get_app g2⟩
  | none =>
    rw [q] at r1 r2
    exact ⟨a, .non, _, st _ r2, (l1.trans l2).trans (HLe.app _ _), get_app (l2 _ _ r1), rfl⟩
/-- the turn ends by a continue: an error was due, and came -/
theorem t6_err (D : L04 G kws) {x3 x5 y7 x13 x14 x15 : Option Vv} {a a2 j : Nat} (hs : PyData.strOk d.shown = true) (ha : h[a]? = some (.tup [.str (errF j), .str d.shown])) (ha2 : h[a2]? = some (.tup [.str (errF j), .str d.shown])) :
    evS G o t6 (S16 x3 b x5 (some w) y7 (some k) (some s) (some f) (some (.ref a)) (some (.ref a2)) x13 x14 x15) h = some (.ct (S16 x3 b x5 (some w) y7 (some k) (some s) (some f) (some (.ref a)) (some (.ref a2)) x13 x14 x15) h) := by
  have c := ne_same (G := G) (o := o) (errF_ok j) hs ha ha2
  refine ifs_t (h1 := h) rfl (seq_nx (s1 := S16 x3 b x5 (some w) y7 (some k) (some s) (some f) (some (.ref a)) (some (.ref a2)) x13 x14 x15) (h1 := h) (ifs_f (h1 := h) ?_ rfl) (seq_ct rfl))
  show Rb (cmpoF G o .NotEq (.ref a) (.ref a2) h) _ = _
  rw [c]
  rfl
end
end Pl

set_option linter.all false
set_option autoImplicit false
set_option maxRecDepth 100000
set_option maxHeartbeats 1000000
namespace Pl
open PySem Dv
section
variable {G : Tx} {n m : Nat} {h h' h2 : VH} {v w k s f : Vv} {dw dk ds df d : PyData} {i j b B : Nat} {kws : List Kp} {o : Orc} {T : String} {sl : Sl}
theorem sh_all {l : List PyData} (q : ∀ d ∈ l, SeqAt.shaped d = true ∧ d.depth = 0) : SeqAt.shaped (.list l) = true ∧ SeqAt.shaped (.tuple l) = true := by
  have c : PyData.canLayAll0 l = true ∧ PyData.depthAll l = 0 := by
    induction l with
    | nil => exact ⟨rfl, rfl⟩
    | cons d l ih =>
      obtain ⟨i1, i2⟩ := ih fun x hx => q x (List.mem_cons_of_mem _ hx)
      obtain ⟨q1, q2⟩ := q d List.mem_cons_self
      refine ⟨?_, ?_⟩
      · show (d.canLay0 && PyData.canLayAll0 l) = true
        rw [i1, SeqAt.canLay_of_shaped q1]; rfl
      · show max d.depth (PyData.depthAll l) = 0
        rw [q2, i2]; rfl
  unfold SeqAt.shaped
  simp [PyData.canLay0, PyData.depth, c.1, c.2]
theorem dep_flat (q : flat v = true) : (datF v).depth = 0 := by cases v <;> first | rfl | cases q
theorem sh_flats {xs : List Vv} (q : xs.all flat = true) (q2 : ∀ x ∈ xs, SeqAt.shaped (datF x) = true) : SeqAt.shaped (.list (xs.map datF)) = true ∧ SeqAt.shaped (.tuple (xs.map datF)) = true :=
  sh_all fun d hd => by
    obtain ⟨x, hx, rfl⟩ := List.mem_map.mp hd
    exact ⟨q2 x hx, dep_flat (List.all_eq_true.mp q x hx)⟩
theorem cmpo_lst {xs ys : List Vv} {p q : Nat} (hp : h[p]? = some (.lst xs)) (hq : h[q]? = some (.lst ys)) (fx : xs.all flat = true) (fy : ys.all flat = true) (sx : ∀ x ∈ xs, SeqAt.shaped (datF x) = true) (sy : ∀ x ∈ ys, SeqAt.shaped (datF x) = true) :
    cmpoF G o .Eq (.ref p) (.ref q) h = some (.ok (.bl (PyData.eqv (.list (xs.map datF)) (.list (ys.map datF)))) h) ∧ cmpoF G o .NotEq (.ref p) (.ref q) h = some (.ok (.bl (!PyData.eqv (.list (xs.map datF)) (.list (ys.map datF)))) h) := by
  have e := eqd_ok (G := G) (dat_lstF hp fx) (dat_lstF hq fy) (sh_flats fx sx).1 (sh_flats fy sy).1
  constructor
  · simp only [cmpoF, obj, hp]
    show (eqd G h _ _).bind _ = _
    rw [e]
    rfl
  · simp only [cmpoF, obj, hp]
    show (eqd G h _ _).bind _ = _
    rw [e]
    rfl
theorem eqvAll_refl : ∀ {xs : List Vv}, xs.all flat = true → PyData.eqvAll (xs.map datF) (xs.map datF) = true
  | [], _ => rfl
  | x :: xs, q => by
    rw [List.all_cons, Bool.and_eq_true] at q
    show (PyData.eqv (datF x) (datF x) && PyData.eqvAll (xs.map datF) (xs.map datF)) = true
    rw [eqv_refl_flat q.1, eqvAll_refl q.2]
    rfl
theorem cmpo_flat {u : Vv} (q : flat v = true) (q2 : flat u = true) (s1 : SeqAt.shaped (datF v) = true) (s2 : SeqAt.shaped (datF u) = true) : cmpoF G o .NotEq v u h = some (.ok (.bl (!PyData.eqv (datF v) (datF u))) h) := by
  have e := eqd_ok (G := G) (h := h) (dat_flat (m := 8) q) (dat_flat (m := 8) q2) s1 s2
  have ob : obj G h v = none := by cases v <;> first | rfl | cases q
  unfold cmpoF
  rw [ob]
  show (eqd G h v u).bind _ = _
  rw [e]
  rfl
/-- a name that may be -/
structure Gd (w k s f : Vv) : Prop where
  fl : [w, k, s, f].all flat = true
  sh : ∀ x ∈ [w, k, s, f], SeqAt.shaped (datF x) = true
  w1 : ∃ z, w = .str z ∧ isW z = true ∧ okD (.str z) = true
  k1 : ∃ z, k = .str z ∧ isKD (.str z) = true ∧ okD (.str z) = true
  s1 : ∃ z, s = .int z ∧ 1 ≤ z ∧ z ≤ 8
  f1 : f = .non ∨ ∃ z, f = .int z ∧ PyData.eqv (datF k) (.str "inner") = true ∧ 0 ≤ z ∧ ∀ z', s = .int z' → z < z'
theorem gd_of (e : dueD dw dk ds df = none) (ew : dat G h 8 w = some dw) (ek : dat G h 8 k = some dk) (es : dat G h 8 s = some ds) (ef : dat G h 8 f = some df) (ow : okD dw = true) (okk : okD dk = true) (os : okD ds = true) (of_ : okD df = true) : Gd w k s f := by
  unfold dueD at e
  split at e
  · cases e
  · rename_i q1
    split at e
    · cases e
    · rename_i q2
      split at e
      · cases e
      · rename_i q3
        split at e
        · cases e
        · rename_i q4
          obtain ⟨zw, rfl⟩ : ∃ z, dw = .str z := by cases dw <;> first | exact ⟨_, rfl⟩ | exact absurd rfl q1
          obtain rfl : w = .str zw := by cases datv ew; rfl
          obtain ⟨zk, rfl⟩ : ∃ z, dk = .str z := by cases dk <;> first | exact ⟨_, rfl⟩ | exact absurd rfl q2
          obtain rfl : k = .str zk := by cases datv ek; rfl
          obtain ⟨zs, rfl⟩ : ∃ z, ds = .int z := by cases ds <;> first | exact ⟨_, rfl⟩ | exact absurd rfl q3
          obtain rfl : s = .int zs := by cases datv es; rfl
          have q3' : 1 ≤ zs ∧ zs ≤ 8 := by simpa [isSD] using q3
          have w1 : isW zw = true := by simpa [isWD] using q1
          have k1 : isKD (.str zk) = true := by simpa using q2
          have si : ∀ z : Int, SeqAt.shaped (.int z) = true := fun z => rfl
          cases datv ef with
          | non => exact ⟨rfl, fun x hx => by
              simp only [List.mem_cons, List.not_mem_nil, or_false] at hx
              rcases hx with rfl | rfl | rfl | rfl
              · exact okD_sh ow
              · exact okD_sh okk
              · rfl
              · rfl, ⟨zw, rfl, w1, ow⟩, ⟨zk, rfl, k1, okk⟩, ⟨zs, rfl, q3'⟩, .inl rfl⟩
          | int zf =>
            have q5 : PyData.eqv (.str zk) (.str "inner") = true ∧ (0 ≤ zf ∧ zf < zs) := by
              have z := q4
              simp [badF, isFD, szD] at z
              exact ⟨z.1, z.2.1, of_decide_eq_true z.2.2⟩
            exact ⟨rfl, fun x hx => by
              simp only [List.mem_cons, List.not_mem_nil, or_false] at hx
              rcases hx with rfl | rfl | rfl | rfl
              · exact okD_sh ow
              · exact okD_sh okk
              · rfl
              · rfl, ⟨zw, rfl, w1, ow⟩, ⟨zk, rfl, k1, okk⟩, ⟨zs, rfl, q3'⟩, .inr ⟨zf, rfl, q5.1, q5.2.1, fun z' hz => by cases hz; exact q5.2.2⟩⟩
          | bl _ => exact absurd (by simp [badF, isFD]) q4
          | str _ => exact absurd (by simp [badF, isFD]) q4
          | lst _ => exact absurd (by simp [badF, isFD]) q4
          | tup _ => exact absurd (by simp [badF, isFD]) q4
          | clst _ => exact absurd (by simp [badF, isFD]) q4
          | ctup _ => exact absurd (by simp [badF, isFD]) q4
theorem Gd.due {w k s f : Vv} (g : Gd w k s f) : dueD (datF w) (datF k) (datF s) (datF f) = none := by
  obtain ⟨zw, rfl, w1, _⟩ := g.w1
  obtain ⟨zk, rfl, k1, _⟩ := g.k1
  obtain ⟨zs, rfl, s1⟩ := g.s1
  unfold dueD
  have a1 : isWD (datF (.str zw)) = true := w1
  have a2 : isKD (datF (.str zk)) = true := k1
  have a3 : isSD (datF (.int zs)) = true := by simp [isSD, datF, s1]
  rw [a1, a2, a3]
  simp only [Bool.true_eq_false, if_false]
  rcases g.f1 with rfl | ⟨z, rfl, q1, q2, q3⟩
  · rfl
  · have := q3 zs rfl
    have e : badF (datF (.str zk)) (szD (datF (.int zs))) (datF (.int z)) = false := by
      simp only [badF, datF, isFD, szD]
      have q1' : PyData.eqv (.str zk) (.str "inner") = true := q1
      rw [q1']
      simp [q2, this]
    rw [e]
    rfl
/-- the other name: another word, another size -/
theorem Gd.other {w k s f w2 s2 : Vv} (g : Gd w k s f) (hw : w2 ∈ [w, .str "os"]) (hs : s2 ∈ [s, .int 8]) : Gd w2 k s2 f := by
  obtain ⟨zw, rfl, w1, w3⟩ := g.w1
  obtain ⟨zk, rfl, k1, k3⟩ := g.k1
  obtain ⟨zs, rfl, s1⟩ := g.s1
  have W : ∃ z, w2 = .str z ∧ isW z = true ∧ okD (.str z) = true := by
    simp only [List.mem_cons, List.not_mem_nil, or_false] at hw
    rcases hw with rfl | rfl
    · exact ⟨zw, rfl, w1, w3⟩
    · exact ⟨"os", rfl, by decide +kernel, by decide +kernel⟩
  have S : ∃ z, s2 = .int z ∧ (1 ≤ z ∧ z ≤ 8) ∧ zs ≤ z := by
    simp only [List.mem_cons, List.not_mem_nil, or_false] at hs
    rcases hs with rfl | rfl
    · exact ⟨zs, rfl, s1, Int.le_refl _⟩
    · exact ⟨8, rfl, by omega, s1.2⟩
  obtain ⟨z2, rfl, w4, w5⟩ := W
  obtain ⟨z3, rfl, s4, s5⟩ := S
  have ff : flat f = true ∧ SeqAt.shaped (datF f) = true := by
    rcases g.f1 with rfl | ⟨z, rfl, _⟩ <;> exact ⟨rfl, rfl⟩
  refine ⟨by show (true && (true && (true && (flat f && true)))) = true; rw [ff.1]; rfl, fun x hx => ?_, ⟨z2, rfl, w4, w5⟩, ⟨zk, rfl, k1, k3⟩, ⟨z3, rfl, s4⟩, ?_⟩
  · simp only [List.mem_cons, List.not_mem_nil, or_false] at hx
    rcases hx with rfl | rfl | rfl | rfl
    · exact okD_sh w5
    · exact okD_sh k3
    · rfl
    · exact ff.2
  · rcases g.f1 with rfl | ⟨z, rfl, q1, q2, q3⟩
    · exact .inl rfl
    · exact .inr ⟨z, rfl, q1, q2, fun z' hz => by cases hz; have := q3 zs rfl; omega⟩
end
end Pl

set_option linter.all false
set_option autoImplicit false
set_option maxRecDepth 100000
set_option maxHeartbeats 1000000
namespace Pl
open PySem Dv
section
variable {G : Tx} {n m : Nat} {h h' h2 : VH} {v w k s f w2 s2 : Vv} {dw dk ds df d : PyData} {i j a a3 b B : Nat} {kws : List Kp} {o : Orc} {T : String} {sl : Sl}
theorem t7_ok (D : L04 G kws) (g : Gd w k s f) {x3 x5 y7 x12 x13 x14 x15 : Option Vv} (ha : h[a]? = some (nam w k s f)) :
    evS G o t7 (S16 x3 b x5 (some w) y7 (some k) (some s) (some f) (some (.ref a)) x12 x13 x14 x15) h = some (.nx (S16 x3 b x5 (some w) y7 (some k) (some s) (some f) (some (.ref a)) x12 x13 x14 x15) (h ++ [.lst [w, k, s]] ++ [.lst [w, k, s]])) := by
  have A : evE G o (.lst (.cons (.attr (.var 11) "word") (.cons (.attr (.var 11) "kind") (.cons (.attr (.var 11) "size") .nil)))) (S16 x3 b x5 (some w) y7 (some k) (some s) (some f) (some (.ref a)) x12 x13 x14 x15) h = some (.ok (.ref h.length) (h ++ [.lst [w, k, s]])) := by
    refine e_lst (es_cons (h1 := h) ?_ (es_cons (h1 := h) ?_ (es_cons (h1 := h) ?_ rfl))) (by simp)
    · exact at_w D.nam ha
    · exact at_k D.nam ha
    · exact at_s D.nam ha
  have Bq : evE G o (.lst (.cons (.var 6) (.cons (.var 8) (.cons (.var 9) .nil)))) (S16 x3 b x5 (some w) y7 (some k) (some s) (some f) (some (.ref a)) x12 x13 x14 x15) (h ++ [.lst [w, k, s]]) = some (.ok (.ref (h ++ [Ho.lst [w, k, s]]).length) (h ++ [.lst [w, k, s]] ++ [.lst [w, k, s]])) := e_lst rfl (by simp)
  have fl : [w, k, s].all flat = true := by
    have := g.fl
    simp only [List.all_cons, List.all_nil, Bool.and_true, Bool.and_eq_true] at this ⊢
    exact ⟨this.1, this.2.1, this.2.2.1⟩
  have sh : ∀ x ∈ [w, k, s], SeqAt.shaped (datF x) = true := fun x hx => g.sh x (by simp only [List.mem_cons, List.not_mem_nil, or_false] at hx ⊢; rcases hx with h | h | h <;> simp [h])
  have C := (cmpo_lst (G := G) (o := o) (get_app (g := [Ho.lst [w, k, s]]) (get_new (h := h) (o := .lst [w, k, s]))) (get_new (h := h ++ [Ho.lst [w, k, s]]) (o := .lst [w, k, s])) fl fl sh sh).2
  rw [show PyData.eqv (.list ([w, k, s].map datF)) (.list ([w, k, s].map datF)) = true from eqvAll_refl fl] at C
  have I : callb G .isinst [.ref a, .cls "Name"] h = some (.ok (.bl true) h) := by
    show (isinst G (.ref a) (.cls "Name") h).bind _ = _
    rw [isi_nam D.nam ha]
    rfl
  refine ifs_f (h1 := h ++ [.lst [w, k, s]] ++ [.lst [w, k, s]]) ?_ rfl
  have T1 : evT G o (.not (.val (.bf .isinst (.cons (.var 11) (.cons (.cst (.cls "Name")) .nil))))) (S16 x3 b x5 (some w) y7 (some k) (some s) (some f) (some (.ref a)) x12 x13 x14 x15) h = some (.ok false h) := by
    show Rb (Rb (callb G .isinst [.ref a, .cls "Name"] h) _) _ = _
    rw [I]; rfl
  have T2 : evT G o (.val (.cmpo .NotEq (.lst (.cons (.attr (.var 11) "word") (.cons (.attr (.var 11) "kind") (.cons (.attr (.var 11) "size") .nil)))) (.lst (.cons (.var 6) (.cons (.var 8) (.cons (.var 9) .nil)))))) (S16 x3 b x5 (some w) y7 (some k) (some s) (some f) (some (.ref a)) x12 x13 x14 x15) h = some (.ok false (h ++ [.lst [w, k, s]] ++ [.lst [w, k, s]])) := by
    show Rb (Rb (evE G o (.lst _) _ h) _) _ = _
    rw [A]
    simp only [Rb_ok]
    rw [Bq]
    simp only [Rb_ok]
    rw [C]
    rfl
  show Rb (evT G o (.not _) _ h) _ = _
  rw [T1]
  exact T2
theorem t8_ok (D : L04 G kws) (g : Gd w k s f) {x3 x5 y7 x12 x13 x14 x15 : Option Vv} (ha : h[a]? = some (nam w k s f)) :
    evS G o t8 (S16 x3 b x5 (some w) y7 (some k) (some s) (some f) (some (.ref a)) x12 x13 x14 x15) h = some (.nx (S16 x3 b x5 (some w) y7 (some k) (some s) (some f) (some (.ref a)) x12 x13 x14 x15) h) := by
  have ff : flat f = true ∧ SeqAt.shaped (datF f) = true := by
    rcases g.f1 with rfl | ⟨z, rfl, _⟩ <;> exact ⟨rfl, rfl⟩
  have C := cmpo_flat (G := G) (o := o) (h := h) ff.1 ff.1 ff.2 ff.2
  rw [eqv_refl_flat ff.1] at C
  refine ifs_f (h1 := h) ?_ rfl
  show Rb (Rb (getattr G o (.ref a) "start" h) _) _ = _
  rw [at_f D.nam ha]
  show Rb (cmpoF G o .NotEq f f h) _ = _
  rw [C]
  rfl
theorem okD_small {z : Int} (h0 : 0 ≤ z) (h1 : z ≤ 8) : okD (.int z) = true := by
  have : z = 0 ∨ z = 1 ∨ z = 2 ∨ z = 3 ∨ z = 4 ∨ z = 5 ∨ z = 6 ∨ z = 7 ∨ z = 8 := by omega
  rcases this with rfl | rfl | rfl | rfl | rfl | rfl | rfl | rfl | rfl <;> decide +kernel
theorem Gd.oks (g : Gd w k s f) : okD (datF w) = true ∧ okD (datF k) = true ∧ okD (datF s) = true ∧ okD (datF f) = true := by
  obtain ⟨zw, rfl, w1, w3⟩ := g.w1
  obtain ⟨zk, rfl, k1, k3⟩ := g.k1
  obtain ⟨zs, rfl, s1⟩ := g.s1
  refine ⟨w3, k3, okD_small (by omega) s1.2, ?_⟩
  rcases g.f1 with rfl | ⟨z, rfl, q1, q2, q3⟩
  · decide +kernel
  · have := q3 zs rfl
    exact okD_small q2 (by omega)
theorem Gd.flw (g : Gd w k s f) : flat w = true ∧ flat k = true ∧ flat s = true ∧ flat f = true := by
  have := g.fl
  simp only [List.all_cons, List.all_nil, Bool.and_true, Bool.and_eq_true] at this
  exact this
theorem t9_ok (D : L04 G kws) (hn : 14 ≤ n) (g : Gd w k s f) {x3 x5 y7 x11 x12 x13 x14 x15 : Option Vv} (bg : Bag h b (B + 2)) :
    ∃ w2 s2 a3 h', evS G (orcOf G (run G (n - 1)) (run G (n - 2))) t9 (S16 x3 b x5 (some w) y7 (some k) (some s) (some f) x11 x12 x13 x14 x15) h = some (.nx (S16 x3 b x5 (some w) y7 (some k) (some s) (some f) x11 x12 (some (.ref a3)) x14 x15) h') ∧ w2 ∈ [w, .str "os"] ∧ s2 ∈ [s, .int 8] ∧ HLx b h h' ∧ Bag h' b B ∧ h'[a3]? = some (nam w2 k s2 f) := by
  have hbl : b < h.length := lt_of_get bg.choose_spec.choose_spec.choose_spec.1
  obtain ⟨w2, h1, e1, hw, bg1, x1, _⟩ := draw_ok (n := n) (B := B + 1) D (by omega) (e := .lst (.cons (.var 6) (.cons (.cst (.str "os")) .nil))) (sl := S16 x3 b x5 (some w) y7 (some k) (some s) (some f) x11 x12 x13 x14 x15) rfl (e_lst (vs := [w, .str "os"]) rfl (by simp)) get_new (HLe.app _ _) bg (by simp) (by simp) (by omega)
  have hbl1 : b < h1.length := lt_of_get bg1.choose_spec.choose_spec.choose_spec.1
  obtain ⟨s2, h2, e2, hs, bg2, x2, _⟩ := draw_ok (n := n) (B := B) D (by omega) (e := .lst (.cons (.var 9) (.cons (.cst (.int 8)) .nil))) (sl := S16 x3 b x5 (some w) y7 (some k) (some s) (some f) x11 x12 x13 x14 x15) rfl (e_lst (vs := [s, .int 8]) rfl (by simp)) get_new (HLe.app _ _) bg1 (by simp) (by simp) (by omega)
  have g2 := g.other hw hs
  obtain ⟨f1, f2, f3, f4⟩ := g2.flw
  obtain ⟨k1, k2, k3, k4⟩ := g2.oks
  obtain ⟨a3, h3, e3, l3, r3⟩ := out_ok (n := n - 1) (h := h2) D.nam D.kF D.out (by omega) (dat_flat f1) (dat_flat f2) (dat_flat f3) (dat_flat f4) k1 k2 k3 k4
  rw [g2.due] at r3
  refine ⟨w2, s2, a3, h3, asg_of (i := 13) (v := .ref a3) ?_, hw, hs, (x1.trans x2).trans (l3.x b), bg2.keep l3, r3⟩
  have c1 : ∀ vs hh, callP G (run G (n - 1)) "_law_outcome" vs hh = run G (n - 1) "_law_outcome" vs hh := fun vs hh => call_of D.out rfl
  have E : evEs G (orcOf G (run G (n - 1)) (run G (n - 2))) (.cons (.call "_law_of" (.cons (.var 4) (.cons (.lst (.cons (.var 6) (.cons (.cst (.str "os")) .nil))) .nil))) (.cons (.var 8) (.cons (.call "_law_of" (.cons (.var 4) (.cons (.lst (.cons (.var 9) (.cons (.cst (.int 8)) .nil))) .nil))) (.cons (.var 10) .nil)))) (S16 x3 b x5 (some w) y7 (some k) (some s) (some f) x11 x12 x13 x14 x15) h = some (.ok [w2, k, s2, f] h2) := es_cons e1 (es_cons (h1 := h1) rfl (es_cons e2 rfl))
  show Rb (evEs G _ _ _ h) _ = _
  rw [E]
  show callP G (run G (n - 1)) "_law_outcome" [w2, k, s2, f] h2 = _
  rw [c1, e3]
/-- is the other one the same -/
def same (w s w2 s2 : Vv) : Bool := PyData.eqv (.list [datF w2, datF s2]) (.list [datF w, datF s])
theorem t10_ok (D : L04 G kws) (g : Gd w k s f) (g2 : Gd w2 k s2 f) {x3 x5 y7 x11 x12 x14 x15 : Option Vv} (ha : h[a3]? = some (nam w2 k s2 f)) :
    evS G o t10 (S16 x3 b x5 (some w) y7 (some k) (some s) (some f) x11 x12 (some (.ref a3)) x14 x15) h = some (.nx (S16 x3 b x5 (some w) y7 (some k) (some s) (some f) x11 x12 (some (.ref a3)) (some (.bl (same w s w2 s2))) x15) (h ++ [.lst [w2, s2]] ++ [.lst [w, s]])) := by
  have A : evE G o (.lst (.cons (.attr (.var 13) "word") (.cons (.attr (.var 13) "size") .nil))) (S16 x3 b x5 (some w) y7 (some k) (some s) (some f) x11 x12 (some (.ref a3)) x14 x15) h = some (.ok (.ref h.length) (h ++ [.lst [w2, s2]])) := by
    refine e_lst (es_cons (h1 := h) ?_ (es_cons (h1 := h) ?_ rfl)) (by simp)
    · exact at_w D.nam ha
    · exact at_s D.nam ha
  have Bq : evE G o (.lst (.cons (.var 6) (.cons (.var 9) .nil))) (S16 x3 b x5 (some w) y7 (some k) (some s) (some f) x11 x12 (some (.ref a3)) x14 x15) (h ++ [.lst [w2, s2]]) = some (.ok (.ref (h ++ [Ho.lst [w2, s2]]).length) (h ++ [.lst [w2, s2]] ++ [.lst [w, s]])) := e_lst rfl (by simp)
  obtain ⟨f1, f2, f3, f4⟩ := g.flw
  obtain ⟨p1, p2, p3, p4⟩ := g2.flw
  have fl : ∀ {x y : Vv}, flat x = true → flat y = true → [x, y].all flat = true := fun {x y} q r => by simp only [List.all_cons, List.all_nil, Bool.and_true, q, r]
  have sh : ∀ x ∈ [w, s], SeqAt.shaped (datF x) = true := fun x hx => g.sh x (by simp only [List.mem_cons, List.not_mem_nil, or_false] at hx ⊢; rcases hx with h | h <;> simp [h])
  have sh2 : ∀ x ∈ [w2, s2], SeqAt.shaped (datF x) = true := fun x hx => g2.sh x (by simp only [List.mem_cons, List.not_mem_nil, or_false] at hx ⊢; rcases hx with h | h <;> simp [h])
  have C := (cmpo_lst (G := G) (o := o) (get_app (g := [Ho.lst [w, s]]) (get_new (h := h) (o := .lst [w2, s2]))) (get_new (h := h ++ [Ho.lst [w2, s2]]) (o := .lst [w, s])) (fl p1 p3) (fl f1 f3) sh2 sh).1
  refine asg_of (i := 14) (v := .bl (same w s w2 s2)) ?_
  show Rb (evE G o (.lst _) _ h) _ = _
  rw [A]
  simp only [Rb_ok]
  rw [Bq]
  simp only [Rb_ok]
  rw [C]
  rfl
theorem meq (D : L04 G kws) : methOf G "Name" "__eq__" = some ("Name.__eq__" : Str) := by unfold methOf; rw [D.nam.cls]; rfl
theorem side_nam (D : L04 G kws) (hj : h[j]? = some (nam w k s f)) : (sideOk G h "Name" (.ref j) && G.clsI.contains "Name") = true := by
  unfold sideOk
  rw [tyv_nam D.nam hj, D.nam.inI]
  simp
def E4 (w k s f w2 s2 : Vv) : Bool := PyData.eqv (.tuple [datF w, datF k, datF s, datF f]) (.tuple [datF w2, datF k, datF s2, datF f])
theorem own_eq (D : L04 G kws) (hn : 6 ≤ n) (g : Gd w k s f) (g2 : Gd w2 k s2 f) (ha : h[a]? = some (nam w k s f)) (hj : h[j]? = some (nam w2 k s2 f)) : ∃ gg, cmpoF G (orcOf G (run G (n - 1)) (run G (n - 2))) .Eq (.ref a) (.ref j) h = some (.ok (.bl (E4 w k s f w2 s2)) (h ++ gg)) := by
  have e := eq_nam (n := n - 1) D.nam (by omega) ha hj g.fl g2.fl (sh_flats g.fl g.sh).2 (sh_flats g2.fl g2.sh).2
  refine ⟨[.tup [w, k, s, f]] ++ [.tup [w2, k, s2, f]], ?_⟩
  simp only [cmpoF, obj, ha]
  rw [if_pos (side_nam D hj), meq D]
  show blR false (callP G (run G (n - 1)) "Name.__eq__" [.ref a, .ref j] h) = _
  rw [call_of D.nam.eq rfl, e, ← List.append_assoc]
  rfl
theorem own_ne (D : L04 G kws) (hn : 6 ≤ n) (g : Gd w k s f) (g2 : Gd w2 k s2 f) (ha : h[a]? = some (nam w k s f)) (hj : h[j]? = some (nam w2 k s2 f)) : ∃ gg, cmpoF G (orcOf G (run G (n - 1)) (run G (n - 2))) .NotEq (.ref a) (.ref j) h = some (.ok (.bl (!E4 w k s f w2 s2)) (h ++ gg)) := by
  have e := eq_nam (n := n - 2) D.nam (by omega) ha hj g.fl g2.fl (sh_flats g.fl g.sh).2 (sh_flats g2.fl g2.sh).2
  refine ⟨[.tup [w, k, s, f]] ++ [.tup [w2, k, s2, f]], ?_⟩
  simp only [cmpoF, obj, ha]
  rw [if_pos (side_nam D hj), meq D]
  show blR true (callP G (run G (n - 2)) "Name.__eq__" [.ref a, .ref j] h) = _
  rw [call_of D.nam.eq rfl, e, ← List.append_assoc]
  rfl
theorem own_no {T : String} (D : L04 G kws) (hn : 6 ≤ n) (ha : h[a]? = some (nam w k s f)) (t : tyv G h v = some (.ty T)) : cmpoF G (orcOf G (run G (n - 1)) (run G (n - 2))) .Eq (.ref a) v h = some (.ok (.bl false) h) := by
  have e := eq_no (n := n - 1) (i := a) D.nam (by omega) t
  have sd : (sideOk G h "Name" v && G.clsI.contains "Name") = true := by
    unfold sideOk
    rw [t, D.nam.inI]
    rfl
  simp only [cmpoF, obj, ha]
  rw [if_pos sd, meq D]
  show blR false (callP G (run G (n - 1)) "Name.__eq__" [.ref a, v] h) = _
  rw [call_of D.nam.eq rfl, e]
  rfl
theorem E4_same (g : Gd w k s f) (g2 : Gd w2 k s2 f) : E4 w k s f w2 s2 = same w s w2 s2 ∧ E4 w2 k s2 f w s = same w s w2 s2 := by
  obtain ⟨zw, rfl, _⟩ := g.w1
  obtain ⟨zs, rfl, _⟩ := g.s1
  obtain ⟨zw2, rfl, _⟩ := g2.w1
  obtain ⟨zs2, rfl, _⟩ := g2.s1
  obtain ⟨f1, f2, f3, f4⟩ := g.flw
  have k1 := eqv_refl_flat f2
  have k2 := eqv_refl_flat f4
  constructor
  · show (PyData.eqv (.str zw) (.str zw2) && (PyData.eqv (datF k) (datF k) && (PyData.eqv (.int zs) (.int zs2) && (PyData.eqv (datF f) (datF f) && true)))) = (PyData.eqv (.str zw2) (.str zw) && (PyData.eqv (.int zs2) (.int zs) && true))
    rw [k1, k2]
    simp only [PyData.eqv, Bool.true_and, Bool.and_true]
    rw [Bool.beq_comm (a := zw), Bool.beq_comm (a := zs)]
  · show (PyData.eqv (.str zw2) (.str zw) && (PyData.eqv (datF k) (datF k) && (PyData.eqv (.int zs2) (.int zs) && (PyData.eqv (datF f) (datF f) && true)))) = (PyData.eqv (.str zw2) (.str zw) && (PyData.eqv (.int zs2) (.int zs) && true))
    rw [k1, k2]
    simp only [Bool.true_and, Bool.and_true]
theorem bools_okD (x y z : Bool) : okD (.list [.bool x, .bool y, .bool z]) = true := by cases x <;> cases y <;> cases z <;> decide +kernel
theorem str_sh {z : Str} (q : PyData.strOk z = true) : SeqAt.shaped (.str z) = true := by
  unfold SeqAt.shaped
  simp [PyData.canLay0, q, PyData.depth]
theorem t11_ok (D : L04 G kws) (hn : 6 ≤ n) (g : Gd w k s f) (g2 : Gd w2 k s2 f) {x3 x5 y7 x12 x15 : Option Vv} (ha : h[a]? = some (nam w k s f)) (hj : h[a3]? = some (nam w2 k s2 f)) :
    ∃ h', HLe h h' ∧ evS G (orcOf G (run G (n - 1)) (run G (n - 2))) t11 (S16 x3 b x5 (some w) y7 (some k) (some s) (some f) (some (.ref a)) x12 (some (.ref a3)) (some (.bl (same w s w2 s2))) x15) h = some (.nx (S16 x3 b x5 (some w) y7 (some k) (some s) (some f) (some (.ref a)) x12 (some (.ref a3)) (some (.bl (same w s w2 s2))) x15) h') := by
  obtain ⟨q1, q2⟩ := E4_same g g2
  obtain ⟨g1', e1⟩ := own_eq (n := n) D hn g g2 ha hj
  rw [q1] at e1
  obtain ⟨g2', e2⟩ := own_eq (n := n) (h := h ++ g1') D hn g2 g (get_app hj) (get_app ha)
  rw [q2] at e2
  obtain ⟨g3', e3⟩ := own_ne (n := n) (h := h ++ g1' ++ g2') D hn g g2 (get_app (get_app ha)) (get_app (get_app hj))
  rw [q1] at e3
  generalize hc : same w s w2 s2 = c at *
  have l3 : HLe h (h ++ g1' ++ g2' ++ g3') := ((HLe.app _ _).trans (HLe.app _ _)).trans (HLe.app _ _)
  have A : evE G (orcOf G (run G (n - 1)) (run G (n - 2))) (.lst (.cons (.cmpo .Eq (.var 11) (.var 13)) (.cons (.cmpo .Eq (.var 13) (.var 11)) (.cons (.cmpo .NotEq (.var 11) (.var 13)) .nil)))) (S16 x3 b x5 (some w) y7 (some k) (some s) (some f) (some (.ref a)) x12 (some (.ref a3)) (some (.bl c)) x15) h = some (.ok (.ref (h ++ g1' ++ g2' ++ g3').length) (h ++ g1' ++ g2' ++ g3' ++ [.lst [.bl c, .bl c, .bl (!c)]])) := by
    refine e_lst (es_cons (v := .bl c) (h1 := h ++ g1') ?_ (es_cons (v := .bl c) (h1 := h ++ g1' ++ g2') ?_ (es_cons (v := .bl (!c)) (h1 := h ++ g1' ++ g2' ++ g3') ?_ rfl))) (by simp)
    · exact e1
    · exact e2
    · exact e3
  generalize hh : h ++ g1' ++ g2' ++ g3' = h1 at A l3
  have R1 := repr_ok (G := G) (dat_lstF (get_new (h := h1) (o := .lst [.bl c, .bl c, .bl (!c)])) rfl) (bools_okD c c (!c))
  have Bq : evE G (orcOf G (run G (n - 1)) (run G (n - 2))) (.lst (.cons (.var 14) (.cons (.var 14) (.cons (.not (.var 14)) .nil)))) (S16 x3 b x5 (some w) y7 (some k) (some s) (some f) (some (.ref a)) x12 (some (.ref a3)) (some (.bl c)) x15) (h1 ++ [.lst [.bl c, .bl c, .bl (!c)]]) = some (.ok (.ref (h1 ++ [Ho.lst [.bl c, .bl c, .bl (!c)]]).length) (h1 ++ [.lst [.bl c, .bl c, .bl (!c)]] ++ [.lst [.bl c, .bl c, .bl (!c)]])) := e_lst rfl (by simp)
  have R2 := repr_ok (G := G) (dat_lstF (get_new (h := h1 ++ [Ho.lst [.bl c, .bl c, .bl (!c)]]) (o := .lst [.bl c, .bl c, .bl (!c)])) rfl) (bools_okD c c (!c))
  have so := okD_str (bools_okD c c (!c))
  have C := cmpo_flat (G := G) (o := orcOf G (run G (n - 1)) (run G (n - 2))) (v := .str (PyData.list [.bool c, .bool c, .bool (!c)]).shown) (u := .str (PyData.list [.bool c, .bool c, .bool (!c)]).shown) (h := h1 ++ [Ho.lst [.bl c, .bl c, .bl (!c)]] ++ [.lst [.bl c, .bl c, .bl (!c)]]) rfl rfl (str_sh so) (str_sh so)
  rw [show PyData.eqv (datF (.str (PyData.list [.bool c, .bool c, .bool (!c)]).shown)) (datF (.str (PyData.list [.bool c, .bool c, .bool (!c)]).shown)) = true from by simp [datF, PyData.eqv]] at C
  refine ⟨_, (l3.trans (HLe.app _ _)).trans (HLe.app _ _), ifs_f (h1 := h1 ++ [Ho.lst [.bl c, .bl c, .bl (!c)]] ++ [.lst [.bl c, .bl c, .bl (!c)]]) ?_ rfl⟩
  show Rb (Rb (Rb (Rb (evE G _ (.lst _) _ h) _) _) _) _ = _
  rw [A]
  show Rb (Rb (callb G .repr [.ref h1.length] _) _) _ = _
  rw [R1]
  show Rb (Rb (Rb (Rb (evE G _ (.lst _) _ _) _) _) _) _ = _
  rw [Bq]
  show Rb (Rb (callb G .repr [.ref _] _) _) _ = _
  rw [R2]
  simp only [Rb_ok]
  rw [show List.map datF [Vv.bl c, .bl c, .bl !c] = [.bool c, .bool c, .bool (!c)] from rfl, C]
  rfl
theorem t12_ok (D : L04 G kws) (hn : 6 ≤ n) (g : Gd w k s f) {x3 x5 y7 x12 x13 x14 x15 : Option Vv} (ha : h[a]? = some (nam w k s f)) :
    ∃ h', HLe h h' ∧ evS G (orcOf G (run G (n - 1)) (run G (n - 2))) t12 (S16 x3 b x5 (some w) y7 (some k) (some s) (some f) (some (.ref a)) x12 x13 x14 x15) h = some (.nx (S16 x3 b x5 (some w) y7 (some k) (some s) (some f) (some (.ref a)) x12 x13 x14 x15) h') := by
  have A : evE G (orcOf G (run G (n - 1)) (run G (n - 2))) (.lst (.cons (.cst .non) (.cons (.var 6) (.cons (.tup (.cons (.var 6) (.cons (.var 8) (.cons (.var 9) (.cons (.var 10) .nil))))) .nil)))) (S16 x3 b x5 (some w) y7 (some k) (some s) (some f) (some (.ref a)) x12 x13 x14 x15) h = some (.ok (.ref (h ++ [Ho.tup [w, k, s, f]]).length) (h ++ [.tup [w, k, s, f]] ++ [.lst [.non, w, .ref h.length]])) :=
    e_lst (es_cons rfl (es_cons rfl (es_cons (e_tup (vs := [w, k, s, f]) rfl (by simp)) rfl))) (by simp)
  generalize hH : h ++ [Ho.tup [w, k, s, f]] ++ [.lst [.non, w, .ref h.length]] = H at A
  have lH : HLe h H := by rw [← hH]; exact (HLe.app _ _).trans (HLe.app _ _)
  have hx : H[(h ++ [Ho.tup [w, k, s, f]]).length]? = some (.lst [.non, w, .ref h.length]) := by rw [← hH]; exact get_new
  have ht : H[h.length]? = some (.tup [w, k, s, f]) := by rw [← hH]; exact get_app get_new
  have kp : ∀ acc, keeps G ⟨[Vv.non, w, .ref h.length].map fun v => [v], some (.ref (h ++ [Ho.tup [w, k, s, f]]).length), [.non, w, .ref h.length], true, false⟩ (H ++ [.lst acc]) = true := fun acc => by
    have e1 : (H ++ [Ho.lst acc])[(h ++ [Ho.tup [w, k, s, f]]).length]? = some (.lst [.non, w, .ref h.length]) := get_app hx
    simp only [keeps, seqOf, obj, e1, isL]
    simp
  have lcr := lc_mem (h := H) (e := evE G (orcOf G (run G (n - 1)) (run G (n - 2))) (.cmpo .Eq (.var 11) (.var 15))) (cd := evT G (orcOf G (run G (n - 1)) (run G (n - 2))) .yes) (s := wipeV (S16 x3 b x5 (some w) y7 (some k) (some s) (some f) (some (.ref a)) x12 x13 x14 x15) [15]) (tg := [15]) (f := fun _ => .bl false) kp [.non, w, .ref h.length] [] (fun x hx acc => by
    refine ⟨S16 x3 b x5 (some w) y7 (some k) (some s) (some f) (some (.ref a)) x12 x13 x14 (some x), rfl, rfl, ?_⟩
    have ha' : (H ++ [Ho.lst acc])[a]? = some (nam w k s f) := get_app (lH _ _ ha)
    have ty : ∃ T, tyv G (H ++ [Ho.lst acc]) x = some (.ty T) := by
      simp only [List.mem_cons, List.not_mem_nil, or_false] at hx
      rcases hx with rfl | rfl | rfl
      · exact ⟨_, rfl⟩
      · exact ⟨_, dat_ty (dat_flat (m := 8) g.flw.1)⟩
      · have e2 : (H ++ [Ho.lst acc])[h.length]? = some (.tup [w, k, s, f]) := get_app ht
        exact ⟨"tuple", by simp only [tyv, obj, e2]⟩
    obtain ⟨T, ty⟩ := ty
    exact own_no (n := n) D hn ha' ty) (by simp)
  have L := lc_src (G := G) (o := orcOf G (run G (n - 1)) (run G (n - 2))) A hx lcr
  refine ⟨_, lH.trans (HLe.app _ _), ifs_f (h1 := H ++ [.lst ([] ++ [Vv.non, w, .ref h.length].map fun _ => .bl false)]) ?_ rfl⟩
  show Rb (Rb (Rb (evE G _ (.lc _ _ _ _ _) _ h) _) _) _ = _
  rw [L]
  show Rb (callb G .any [.ref H.length] _) _ = _
  have an : callb G .any [.ref H.length] (H ++ [Ho.lst ([] ++ [Vv.non, w, .ref h.length].map fun _ => .bl false)]) = some (.ok (.bl false) (H ++ [Ho.lst ([] ++ [Vv.non, w, .ref h.length].map fun _ => .bl false)])) := by
    simp only [callb, get_new]
    rfl
  rw [an]
  rfl
end
end Pl

set_option linter.all false
set_option autoImplicit false
set_option maxRecDepth 100000
set_option maxHeartbeats 1000000
namespace Pl
open PySem Dv
section
variable {G : Tx} {n m : Nat} {h h' h2 : VH} {v w k s f w2 s2 : Vv} {dw dk ds df d : PyData} {i j a a3 b B : Nat} {kws : List Kp} {o : Orc} {T : String} {sl : Sl}
theorem for_inv {bd : Sl → VH → Option Sr} {tg : List Nat} {kp : VH → Bool} {I : Nat → Sl → VH → Prop} (hk : ∀ h, kp h = true) :
    ∀ (items : List (List Vv)) (s : Sl) (h : VH), (∀ k it s h, it ∈ items → I (k + 1) s h → ∃ s1, setT tg s it = some s1 ∧ ∃ s2 h2, (bd s1 h = some (.nx s2 h2) ∨ bd s1 h = some (.ct s2 h2)) ∧ I k s2 h2) →
      I items.length s h → ∃ s' h', forF bd tg kp items s h = some (.nx s' h') ∧ I 0 s' h'
  | [], s, h, _, i0 => ⟨s, h, by simp [forF, hk], i0⟩
  | it :: r, s, h, st, i0 => by
    obtain ⟨s1, e1, s2, h2, e2, i1⟩ := st r.length it s h List.mem_cons_self i0
    obtain ⟨s', h', e3, i2⟩ := for_inv hk r s2 h2 (fun k it' s h hm => st k it' s h (List.mem_cons_of_mem _ hm)) i1
    refine ⟨s', h', ?_, i2⟩
    rcases e2 with e2 | e2
    · simp only [forF, hk, e1, e2, if_true]; exact e3
    · simp only [forF, hk, e1, e2, if_true]; exact e3
theorem turn_ok (D : L04 G kws) (hn : 16 ≤ n) {x3 x5 x6 x7 x8 x9 x10 x11 x12 x13 x14 x15 : Option Vv} (t : Tn b h) (bg : Bag h b (B + 6)) :
    ∃ y6 y7 y8 y9 y10 y11 y12 y13 y14 y15 h', (evS G (orcOf G (run G (n - 1)) (run G (n - 2))) sTurn (S16 x3 b x5 x6 x7 x8 x9 x10 x11 x12 x13 x14 x15) h = some (.nx (S16 x3 b x5 y6 y7 y8 y9 y10 y11 y12 y13 y14 y15) h') ∨ evS G (orcOf G (run G (n - 1)) (run G (n - 2))) sTurn (S16 x3 b x5 x6 x7 x8 x9 x10 x11 x12 x13 x14 x15) h = some (.ct (S16 x3 b x5 y6 y7 y8 y9 y10 y11 y12 y13 y14 y15) h')) ∧ HLx b h h' ∧ Bag h' b B := by
  obtain ⟨w, k, s, f, dw, dk, ds, df, y7, h1, x1, F, t1', bg1, R⟩ := draws_ok (n := n) (B := B + 2) (x3 := x3) (x5 := x5) (x6 := x6) (x7 := x7) (x8 := x8) (x9 := x9) (x10 := x10) (x11 := x11) (x12 := x12) (x13 := x13) (x14 := x14) (x15 := x15) D (by omega) t bg
  obtain ⟨a, v2, h2, e5, l2, r2⟩ := t5_ok (n := n) (x3 := x3) (x5 := x5) (y7 := y7) (x11 := x11) (x12 := x12) (x13 := x13) (x14 := x14) (x15 := x15) D (by omega) F
  have st : ∀ rest, evS G (orcOf G (run G (n - 1)) (run G (n - 2))) (.seq t0 (.seq t1 (.seq t2 (.seq t3 (.seq t4 (.seq t5 rest)))))) (S16 x3 b x5 x6 x7 x8 x9 x10 x11 x12 x13 x14 x15) h = evS G (orcOf G (run G (n - 1)) (run G (n - 2))) rest (S16 x3 b x5 (some w) y7 (some k) (some s) (some f) (some (.ref a)) (some v2) x13 x14 x15) h2 := fun rest => by
    rw [R]
    exact seq_nx e5 rfl
  have sd := HLd.self b h1
  have pw := dr_all dw_all F.inW
  have pk := dr_all dk_all F.inK
  simp only [Bool.and_eq_true, beq_iff_eq] at pw pk
  have ps := dr_all ds_all F.inS
  have pf := dr_all df_all F.inF
  cases q : dueD dw dk ds df with
  | some j =>
    rw [q] at r2
    obtain ⟨g1, a2, rfl, g2⟩ := r2
    have so : PyData.strOk (pick dw dk ds df j).shown = true := by
      match j with
      | 0 => exact okD_str pw.1
      | 1 => exact okD_str pk.1
      | 2 => exact okD_str ps
      | _ + 3 => exact okD_str pf
    have e6 := t6_err (o := orcOf G (run G (n - 1)) (run G (n - 2))) (b := b) (w := w) (k := k) (s := s) (f := f) (x3 := x3) (x5 := x5) (y7 := y7) (x13 := x13) (x14 := x14) (x15 := x15) D so g1 g2
    refine ⟨some w, y7, some k, some s, some f, some (.ref a), some (.ref a2), x13, x14, x15, h2, .inr ?_, x1.trans (l2.x b), (bg1.keep l2).mono (by omega)⟩
    unfold sTurn
    rw [st]
    exact seq_ct e6
  | none =>
    rw [q] at r2
    obtain ⟨g1, rfl⟩ := r2
    have g := gd_of q (dat_mono sd 8 F.ew) (dat_mono sd 8 F.ek) (dat_mono sd 8 F.es) (dat_mono sd 8 F.ef) pw.1 pk.1 ps pf
    have e6 : evS G (orcOf G (run G (n - 1)) (run G (n - 2))) t6 (S16 x3 b x5 (some w) y7 (some k) (some s) (some f) (some (.ref a)) (some .non) x13 x14 x15) h2 = some (.nx (S16 x3 b x5 (some w) y7 (some k) (some s) (some f) (some (.ref a)) (some .non) x13 x14 x15) h2) := ifs_f (h1 := h2) rfl rfl
    have e7 := t7_ok (o := orcOf G (run G (n - 1)) (run G (n - 2))) (b := b) (x3 := x3) (x5 := x5) (y7 := y7) (x12 := some .non) (x13 := x13) (x14 := x14) (x15 := x15) D g g1
    have l3 : HLe h2 (h2 ++ [.lst [w, k, s]] ++ [.lst [w, k, s]]) := (HLe.app _ _).trans (HLe.app _ _)
    have e8 := t8_ok (o := orcOf G (run G (n - 1)) (run G (n - 2))) (b := b) (x3 := x3) (x5 := x5) (y7 := y7) (x12 := some .non) (x13 := x13) (x14 := x14) (x15 := x15) D g (l3 _ _ g1)
    have bg3 := (bg1.keep l2).keep l3
    obtain ⟨w2, s2, a3, h4, e9, hw, hs, x4, bg4, g3⟩ := t9_ok (n := n) (B := B) (x3 := x3) (x5 := x5) (y7 := y7) (x11 := some (.ref a)) (x12 := some .non) (x13 := x13) (x14 := x14) (x15 := x15) D (by omega) g bg3
    have gg := g.other hw hs
    have ab : a ≠ b := fun z => by
      subst z
      obtain ⟨_, _, _, z, _⟩ := bg3
      rw [l3 _ _ g1] at z
      cases z
    have ga4 := x4 a _ ab (l3 _ _ g1)
    have e10 := t10_ok (o := orcOf G (run G (n - 1)) (run G (n - 2))) (b := b) (x3 := x3) (x5 := x5) (y7 := y7) (x11 := some (.ref a)) (x12 := some .non) (x14 := x14) (x15 := x15) D g gg g3
    have l5 : HLe h4 (h4 ++ [.lst [w2, s2]] ++ [.lst [w, s]]) := (HLe.app _ _).trans (HLe.app _ _)
    obtain ⟨h6, l6, e11⟩ := t11_ok (n := n) (b := b) (x3 := x3) (x5 := x5) (y7 := y7) (x12 := some .non) (x15 := x15) D (by omega) g gg (l5 _ _ ga4) (l5 _ _ g3)
    obtain ⟨h7, l7, e12⟩ := t12_ok (n := n) (b := b) (x3 := x3) (x5 := x5) (y7 := y7) (x12 := some .non) (x13 := some (.ref a3)) (x14 := some (.bl (same w s w2 s2))) (x15 := x15) D (by omega) g (l6 _ _ (l5 _ _ ga4))
    have l57 := (l5.trans l6).trans l7
    refine ⟨some w, y7, some k, some s, some f, some (.ref a), some .non, some (.ref a3), some (.bl (same w s w2 s2)), x15, h7, .inl ?_, ((x1.trans ((l2.trans l3).x b)).trans x4).trans (l57.x b), bg4.keep l57⟩
    unfold sTurn
    rw [st]
    exact seq_nx e6 (seq_nx e7 (seq_nx e8 (seq_nx e9 (seq_nx e10 (seq_nx e11 (seq_nx e12 rfl))))))
end
end Pl

set_option linter.all false
set_option autoImplicit false
set_option maxRecDepth 100000
set_option maxHeartbeats 1000000
namespace Pl
open PySem Dv
section
variable {G : Tx} {n m : Nat} {h h' h2 : VH} {v w k s f w2 s2 : Vv} {dw dk ds df d : PyData} {i j a a3 b B : Nat} {kws : List Kp} {o : Orc} {T : String} {sl : Sl} {ns : List Int}
theorem for_rng {e : Exs} {bd : St} {x : Nat} {vs : List Vv} {items : List (List Vv)} {h1 : VH} {r : Option Sr} (he : evEs G o e sl h = some (.ok vs h1)) (hr : rngOf vs = some ⟨items, none, [], false, false⟩) (k : forF (evS G o bd) [x] (fun _ => true) items sl h1 = r) : evS G o (.for_ [x] (.rng e) bd) sl h = r := by
  show Sb (evI G o (.rng e) 1 sl h) sl _ = r
  have e1 : evI G o (.rng e) 1 sl h = some (.ok ⟨items, none, [], false, false⟩ h1) := by
    simp only [evI, if_true, he, Rb_ok, hr, Option.map_some]
  rw [e1]
  exact k
theorem rng_mem {N : Int} {it : List Vv} (q : it ∈ rngItems 0 N 1) : ∃ i : Nat, it = [.int i] ∧ (i : Int) < N := by
  unfold rngItems at q
  obtain ⟨i, hi, rfl⟩ := List.mem_map.mp q
  refine ⟨i, by simp, ?_⟩
  have := List.mem_range.mp hi
  simp at this
  omega
/-- what stands through the law's loop over the cells -/
structure Cl4 (ns : List Int) (h : VH) : Prop where
  len : 5 ≤ h.length
  h0 : h[0]? = some (.rol (ns.map .int))
  h1 : h[1]? = some (.lst wordsV)
  h2 : h[2]? = some (.tup [.str "a"])
  h3 : h[3]? = some (.lst [.str "a"])
  h4 : h[4]? = some (.lst oddW)
theorem Cl4.step (c : Cl4 ns h) (b5 : 5 ≤ b) (x : HLx b h h') : Cl4 ns h' := by
  have e4 := x 4 _ (by omega) c.h4
  exact ⟨lt_of_get e4, x 0 _ (by omega) c.h0, x 1 _ (by omega) c.h1, x 2 _ (by omega) c.h2, x 3 _ (by omega) c.h3, e4⟩
theorem cell_ok (D : L04 G kws) (hn : 16 ≤ n) {at_ : Nat} {x4 x5 x6 x7 x8 x9 x10 x11 x12 x13 x14 x15 : Option Vv} (c : Cl4 ns h) :
    ∃ y4 y5 y6 y7 y8 y9 y10 y11 y12 y13 y14 y15 h', evS G (orcOf G (run G (n - 1)) (run G (n - 2))) sCell [some (.ref 0), some (.ref 1), some (.ref 4), some (.int at_), x4, x5, x6, x7, x8, x9, x10, x11, x12, x13, x14, x15] h = some (.nx [some (.ref 0), some (.ref 1), some (.ref 4), some (.int at_), y4, y5, y6, y7, y8, y9, y10, y11, y12, y13, y14, y15] h') ∧ Cl4 ns h' := by
  obtain ⟨h1, e1, bg, l1⟩ := bag_ok D.drw (n := n - 1) (by omega) (at_ := at_) c.h0
  have len := c.len
  have st1 : evS G (orcOf G (run G (n - 1)) (run G (n - 2))) (.asg (.one 4) (.call "_law_bag" (.cons (.var 0) (.cons (.var 3) .nil)))) [some (.ref 0), some (.ref 1), some (.ref 4), some (.int at_), x4, x5, x6, x7, x8, x9, x10, x11, x12, x13, x14, x15] h = some (.nx (S16 (some (.int at_)) h.length x5 x6 x7 x8 x9 x10 x11 x12 x13 x14 x15) h1) := by
    refine asg_of (i := 4) (v := .ref h.length) ?_
    show callP G (run G (n - 1)) "_law_bag" [.ref 0, .int at_] h = _
    rw [call_of D.drw.bag rfl, e1]
  have c1 := c.step len (l1.x h.length)
  let I : Nat → Sl → VH → Prop := fun k sl hh => (∃ y5 y6 y7 y8 y9 y10 y11 y12 y13 y14 y15, sl = S16 (some (.int at_)) h.length y5 y6 y7 y8 y9 y10 y11 y12 y13 y14 y15) ∧ Cl4 ns hh ∧ Bag hh h.length (6 * k)
  have loop := for_inv (I := I) (bd := evS G (orcOf G (run G (n - 1)) (run G (n - 2))) sTurn) (tg := [5]) (kp := fun _ => true) (fun _ => rfl) (rngItems 0 40 1) (S16 (some (.int at_)) h.length x5 x6 x7 x8 x9 x10 x11 x12 x13 x14 x15) h1 (fun k it sl hh hm ⟨⟨y5, y6, y7, y8, y9, y10, y11, y12, y13, y14, y15, e⟩, cc, bb⟩ => by
    subst e
    obtain ⟨i, rfl, _⟩ := rng_mem hm
    obtain ⟨z6, z7, z8, z9, z10, z11, z12, z13, z14, z15, h2, r, x, bg2⟩ := turn_ok (n := n) (B := 6 * k) (x3 := some (.int at_)) (x5 := some (.int i)) (x6 := y6) (x7 := y7) (x8 := y8) (x9 := y9) (x10 := y10) (x11 := y11) (x12 := y12) (x13 := y13) (x14 := y14) (x15 := y15) D hn ⟨len, cc.h1, cc.h2, cc.h3, cc.h4⟩ (bb.mono (by omega))
    exact ⟨_, rfl, _, h2, r, ⟨_, _, _, _, _, _, _, _, _, _, _, rfl⟩, cc.step len x, bg2⟩) ⟨⟨_, _, _, _, _, _, _, _, _, _, _, rfl⟩, c1, bg.mono (by
      have : (rngItems 0 40 1).length = 40 := by decide
      omega)⟩
  obtain ⟨s', h', e2, ⟨y5, y6, y7, y8, y9, y10, y11, y12, y13, y14, y15, rfl⟩, c2, _⟩ := loop
  exact ⟨_, _, _, _, _, _, _, _, _, _, _, _, h', seq_nx st1 (seq_nx (for_rng (vs := [.int 40]) rfl rfl e2) rfl), c2⟩
theorem mk_nam (D : L04 G kws) (hn : 8 ≤ n) {kp : Kp} (hk : kp ∈ kws) {es ks : Exs} (g : Gd w k s f) (n4 : kp.n = 4) {vs ws : List Vv} (he : evEs G (orcOf G (run G (n - 1)) (run G (n - 2))) es sl h = some (.ok vs h)) (he2 : evEs G (orcOf G (run G (n - 1)) (run G (n - 2))) ks sl h = some (.ok ws h)) (l1 : vs.length = 3) (l2 : ws.length = kp.ks.length)
    (arr : arrG .non kp.arr (.ref h.length :: (vs ++ ws)) (kp.ms.map (·.2)) = [.ref h.length, w, k, s, f]) :
    ∃ h', evE G (orcOf G (run G (n - 1)) (run G (n - 2))) (.mkk "Name" kp es ks) sl h = some (.ok (.ref h.length) h') ∧ HLe h h' ∧ h'[h.length]? = some (nam w k s f) := by
  have l0 : HLe h (h ++ [.ins "Name" []]) := HLe.app _ _
  obtain ⟨f1, f2, f3, f4⟩ := g.flw
  obtain ⟨k1, k2, k3, k4⟩ := g.oks
  obtain ⟨h1, x1, hl1, e1⟩ := init_ok (n := n - 2) (i := h.length) D.nam (by omega) (get_new (h := h) (o := .ins "Name" [])) (dat_flat f1) (dat_flat f2) (dat_flat f3) (dat_flat f4) k1 k2
  rw [g.due] at e1
  obtain ⟨e1, e2⟩ := e1
  have lh : HLe h h1 := fun j u q => x1 j u (by have := lt_of_get q; omega) (l0 j u q)
  have m1 : methOf G "Name" "__init__" = some ("Name.__init__" : Str) := by unfold methOf; rw [D.nam.cls]; rfl
  have ck : callK G (run G (n - 2)) "Name.__init__" kp (.ref h.length :: (vs ++ ws)) (h ++ [.ins "Name" []]) = some (.ok .non h1) := by
    unfold callK
    rw [D.nam.ini]
    show (if kp ∈ kws then run G (n - 2) "Name.__init__" (arrG .non kp.arr (.ref h.length :: (vs ++ ws)) (kp.ms.map (·.2))) (h ++ [.ins "Name" []]) else none) = _
    rw [if_pos hk, arr, e1]
  refine ⟨h1, ?_, lh, e2⟩
  simp only [evE, he, he2, Rb_ok, m1]
  rw [if_pos ⟨by omega, l2⟩]
  show Rb (callK G (run G (n - 2)) "Name.__init__" kp _ _) _ = _
  rw [ck]
  rfl
theorem u3_ok (D : L04 G kws) (hn : 10 ≤ n) : ∃ h', evS G (orcOf G (run G (n - 1)) (run G (n - 2))) u3 sl h = some (.rt (.bl true) h') := by
  have g1 : Gd (.str "a") (.str "open") (.int 1) .non := ⟨rfl, fun x hx => by
      simp only [List.mem_cons, List.not_mem_nil, or_false] at hx
      rcases hx with rfl | rfl | rfl | rfl <;> decide +kernel, ⟨_, rfl, by decide +kernel, by decide +kernel⟩, ⟨_, rfl, by decide +kernel, by decide +kernel⟩, ⟨_, rfl, by decide, by decide⟩, .inl rfl⟩
  have g2 : Gd (.str "a") (.str "inner") (.int 8) (.int 0) := ⟨rfl, fun x hx => by
      simp only [List.mem_cons, List.not_mem_nil, or_false] at hx
      rcases hx with rfl | rfl | rfl | rfl <;> decide +kernel, ⟨_, rfl, by decide +kernel, by decide +kernel⟩, ⟨_, rfl, by decide +kernel, by decide +kernel⟩, ⟨_, rfl, by decide, by decide⟩, .inr ⟨0, rfl, by decide +kernel, by decide, fun z' hz => by cases hz; decide⟩⟩
  have g3 : Gd (.str "a") (.str "inner") (.int 8) .non := ⟨rfl, fun x hx => by
      simp only [List.mem_cons, List.not_mem_nil, or_false] at hx
      rcases hx with rfl | rfl | rfl | rfl <;> decide +kernel, ⟨_, rfl, by decide +kernel, by decide +kernel⟩, ⟨_, rfl, by decide +kernel, by decide +kernel⟩, ⟨_, rfl, by decide, by decide⟩, .inl rfl⟩
  obtain ⟨h1, e1, l1, r1⟩ := mk_nam (n := n) (sl := sl) (h := h) D (by omega) D.k0 (es := (.cons (.cst (.str "a")) (.cons (.cst (.str "open")) (.cons (.cst (.int 1)) .nil)))) (ks := .nil) g1 rfl rfl rfl rfl rfl rfl
  obtain ⟨h2, e2, l2, r2⟩ := mk_nam (n := n) (sl := sl) (h := h1) D (by omega) D.kF (es := (.cons (.cst (.str "a")) (.cons (.cst (.str "inner")) (.cons (.cst (.int 8)) .nil)))) (ks := (.cons (.cst (.int 0)) .nil)) g2 rfl rfl rfl rfl rfl rfl
  obtain ⟨h3, e3, l3, r3⟩ := mk_nam (n := n) (sl := sl) (h := h2) D (by omega) D.k0 (es := (.cons (.cst (.str "a")) (.cons (.cst (.str "inner")) (.cons (.cst (.int 8)) .nil)))) (ks := .nil) g3 rfl rfl rfl rfl rfl rfl
  have at1 := at_f (o := orcOf G (run G (n - 1)) (run G (n - 2))) D.nam r1
  have r2' := l3 _ _ r2
  have eq := eq_nam (n := n - 2) D.nam (by omega) r2' r3 g2.fl g3.fl (sh_flats g2.fl g2.sh).2 (sh_flats g3.fl g3.sh).2
  have ne : cmpoF G (orcOf G (run G (n - 1)) (run G (n - 2))) .NotEq (.ref h1.length) (.ref h2.length) h3 = some (.ok (.bl true) (h3 ++ [.tup [.str "a", .str "inner", .int 8, .int 0]] ++ [.tup [.str "a", .str "inner", .int 8, .non]])) := by
    simp only [cmpoF, obj, r2']
    rw [if_pos (side_nam D r3), meq D]
    show blR true (callP G (run G (n - 2)) "Name.__eq__" [.ref h1.length, .ref h2.length] h3) = _
    rw [call_of D.nam.eq rfl, eq, show PyData.eqv (.tuple [datF (.str "a"), datF (.str "inner"), datF (.int 8), datF (.int 0)]) (.tuple [datF (.str "a"), datF (.str "inner"), datF (.int 8), datF .non]) = false from by decide +kernel]
    rfl
  refine ⟨_, ret_of (v := .bl true) (h1 := h3 ++ [.tup [.str "a", .str "inner", .int 8, .int 0]] ++ [.tup [.str "a", .str "inner", .int 8, .non]]) ?_⟩
  show Rb (Rb (Rb (evE G _ (.mkk "Name" kp0 _ _) _ h) _) _) _ = _
  rw [e1]
  simp only [Rb_ok, at1]
  show Rb (evE G _ (.mkk "Name" kpF _ _) sl h1) _ = _
  rw [e2]
  simp only [Rb_ok]
  show Rb (evE G _ (.mkk "Name" kp0 _ _) sl h2) _ = _
  rw [e3]
  simp only [Rb_ok]
  exact ne
theorem law04 (D : L04 G kws) (hl : G.fns "law" = some ⟨1, 16, xLaw04, []⟩) (ns : List Int) : ∃ n h', n ≤ 500 ∧ run G n "law" [.ref 0] [.rol (ns.map .int)] = some (.ok (.bl true) h') := by
  let o := orcOf G (run G (20 - 1)) (run G (20 - 2))
  have s0 : evS G o u0 [some (.ref 0), none, none, none, none, none, none, none, none, none, none, none, none, none, none, none] [.rol (ns.map .int)] = some (.nx [some (.ref 0), some (.ref 1), none, none, none, none, none, none, none, none, none, none, none, none, none, none] [.rol (ns.map .int), .lst wordsV]) := rfl
  have s1 : evS G o u1 [some (.ref 0), some (.ref 1), none, none, none, none, none, none, none, none, none, none, none, none, none, none] [.rol (ns.map .int), .lst wordsV] = some (.nx [some (.ref 0), some (.ref 1), some (.ref 4), none, none, none, none, none, none, none, none, none, none, none, none, none] [.rol (ns.map .int), .lst wordsV, .tup [.str "a"], .lst [.str "a"], .lst oddW]) := rfl
  have c0 : Cl4 ns [.rol (ns.map .int), .lst wordsV, .tup [.str "a"], .lst [.str "a"], .lst oddW] := ⟨by simp, rfl, rfl, rfl, rfl, rfl⟩
  let I : Nat → Sl → VH → Prop := fun _ sl hh => (∃ y3 y4 y5 y6 y7 y8 y9 y10 y11 y12 y13 y14 y15, sl = [some (.ref 0), some (.ref 1), some (.ref 4), y3, y4, y5, y6, y7, y8, y9, y10, y11, y12, y13, y14, y15]) ∧ Cl4 ns hh
  have e : ∃ N : Int, evEs G o (.cons (.bf .max (.cons (.cst (.int 1)) (.cons (.bf .min (.cons (.cst (.int 2)) (.cons (.bf .len (.cons (.var 0) .nil)) .nil))) .nil))) .nil) [some (.ref 0), some (.ref 1), some (.ref 4), none, none, none, none, none, none, none, none, none, none, none, none, none] [.rol (ns.map .int), .lst wordsV, .tup [.str "a"], .lst [.str "a"], .lst oddW] = some (.ok [.int N] [.rol (ns.map .int), .lst wordsV, .tup [.str "a"], .lst [.str "a"], .lst oddW]) ∧ N ≤ 2 ∧ 0 ≤ N := by
    refine ⟨if (if ((ns.map Vv.int).length : Int) < 2 then ((ns.map Vv.int).length : Int) else 2) > 1 then (if ((ns.map Vv.int).length : Int) < 2 then ((ns.map Vv.int).length : Int) else 2) else 1, rfl, ?_, ?_⟩
    · split <;> split at * <;> omega
    · split <;> split at * <;> omega
  obtain ⟨N, eN, N2, N0⟩ := e
  have rN : rngOf [.int N] = some ⟨rngItems 0 N 1, none, [], false, false⟩ := if_pos ⟨by omega, by omega⟩
  obtain ⟨s', h', e2, ⟨y3, y4, y5, y6, y7, y8, y9, y10, y11, y12, y13, y14, y15, rfl⟩, c2⟩ := for_inv (I := I) (bd := evS G o sCell) (tg := [3]) (kp := fun _ => true) (fun _ => rfl) (rngItems 0 N 1) _ _ (fun k it sl hh hm ⟨⟨y3, y4, y5, y6, y7, y8, y9, y10, y11, y12, y13, y14, y15, e⟩, cc⟩ => by
    subst e
    obtain ⟨i, rfl, _⟩ := rng_mem hm
    obtain ⟨z4, z5, z6, z7, z8, z9, z10, z11, z12, z13, z14, z15, h2, r, c3⟩ := cell_ok (n := 20) (at_ := i) (x4 := y4) (x5 := y5) (x6 := y6) (x7 := y7) (x8 := y8) (x9 := y9) (x10 := y10) (x11 := y11) (x12 := y12) (x13 := y13) (x14 := y14) (x15 := y15) D (by omega) cc
    exact ⟨_, rfl, _, h2, .inl r, ⟨_, _, _, _, _, _, _, _, _, _, _, _, _, rfl⟩, c3⟩) (show I (rngItems 0 N 1).length [some (.ref 0), some (.ref 1), some (.ref 4), none, none, none, none, none, none, none, none, none, none, none, none, none] _ from ⟨⟨_, _, _, _, _, _, _, _, _, _, _, _, _, rfl⟩, c0⟩)
  obtain ⟨h3, e3⟩ := u3_ok (n := 20) (sl := [some (.ref 0), some (.ref 1), some (.ref 4), y3, y4, y5, y6, y7, y8, y9, y10, y11, y12, y13, y14, y15]) (h := h') D (by omega)
  exact ⟨20, h3, by omega, run_ev hl (by omega) rfl (s := [some (.ref 0), none, none, none, none, none, none, none, none, none, none, none, none, none, none, none]) rfl (r := some (.rt (.bl true) h3)) (seq_nx s0 (seq_nx s1 (seq_nx (for_rng eN rN e2) (seq_rt e3)))) rfl⟩
end
end Pl

set_option linter.all false
set_option autoImplicit false
set_option maxRecDepth 100000
set_option maxHeartbeats 0
namespace Lw
open PySem Dv
abbrev Pg : Program := PySem.Challenge.pw_headerworlds_k04_names_made
def top (i : Nat) : Stmt := Pg.main.body.getD i (.Pass ⟨0, 0, 0, 0⟩)
def mem (i j : Nat) : Stmt := match top i with
  | .ClassDef _ _ _ b _ _ _ _ _ _ _ => b.getD j (.Pass ⟨0, 0, 0, 0⟩)
  | _ => .Pass ⟨0, 0, 0, 0⟩
def x_is_integer : St := (.seq (.ret (.and (.bf .isinst (.cons (.var 0) (.cons (.cst (.ty "int")) .nil))) (.not (.bf .isinst (.cons (.var 0) (.cons (.cst (.ty "bool")) .nil)))))) .skip)
def dx_is_integer : Df := ⟨(.glo "is_integer"), "is_integer", "is_integer", L2.defArgs (top 9), L2.defBody (top 9), L2.defScope (top 9), ["value"], ["value"], ⟨1, 1, x_is_integer, []⟩, []⟩
def x_is_word : St := (.seq (.ifs (.or (.not (.val (.bf .isinst (.cons (.var 0) (.cons (.cst (.ty "str")) .nil))))) (.or (.not (.val (.chain .LtE .LtE (.cst (.int 1)) (.bf .len (.cons (.var 0) .nil)) (.cst (.int 8))))) (.val (.cmp .In (.var 0) (.cst (.con "RESERVED")))))) (.seq (.ret (.cst (.bl false))) .skip) .skip) (.seq (.ret (.bf .all (.cons (.lc (.cmp .In (.var 1) (.cst (.str "abcdefghijklmnopqrstuvwxyz"))) [1] [1] (.val (.var 0)) .yes) .nil))) .skip))
def dx_is_word : Df := ⟨(.glo "is_word"), "is_word", "is_word", L2.defArgs (top 10), L2.defBody (top 10), L2.defScope (top 10), ["value", "letter"], ["value"], ⟨1, 2, x_is_word, []⟩, []⟩
def x_is_value : St := (.seq (.ret (.or (.cmp .Is (.var 0) (.cst .non)) (.and (.call "is_integer" (.cons (.var 0) .nil)) (.chain .LtE .Lt (.cst (.int 0)) (.var 0) (.var 1))))) .skip)
def dx_is_value : Df := ⟨(.glo "is_value"), "is_value", "is_value", L2.defArgs (top 11), L2.defBody (top 11), L2.defScope (top 11), ["value", "size"], ["value", "size"], ⟨2, 2, x_is_value, []⟩, []⟩
def x__law_bag : St := (.seq (.asg (.one 2) (.ite (.val (.cmp .Lt (.var 1) (.bf .len (.cons (.var 0) .nil)))) (.idx (.var 0) (.var 1)) (.cst (.int 0)))) (.seq (.asg (.one 3) (.ite (.val (.cmp .GtE (.bf .abs (.cons (.var 2) .nil)) (.bin .Pow (.cst (.int 10)) (.cst (.int 18))))) (.bf .abs (.cons (.var 2) .nil)) (.cst (.int 0)))) (.seq (.ret (.lst (.cons (.var 3) (.cons (.bin .Mod (.bin .Mult (.bf .int (.cons (.bin .Add (.bin .Add (.bin .Mod (.bf .int (.cons (.var 2) .nil)) (.cst (.int 2305843009213693951))) (.bin .Mult (.cst (.int 7817)) (.var 1))) (.cst (.int 77))) .nil)) (.cst (.int 6700417))) (.cst (.int 2305843009213693951))) (.cons (.cst (.int 0)) .nil))))) .skip)))
def dx__law_bag : Df := ⟨(.glo "_law_bag"), "_law_bag", "_law_bag", L2.defArgs (top 20), L2.defBody (top 20), L2.defScope (top 20), ["_law_script", "_law_at", "_law_cell", "_law_digits"], ["_law_script", "_law_at"], ⟨2, 4, x__law_bag, []⟩, []⟩
def x__law_take : St := (.seq (.ifs (.val (.cmp .Gt (.idx (.var 0) (.cst (.int 0))) (.cst (.int 0)))) (.seq (.asg (.one 2) (.bin .Mod (.bf .int (.cons (.idx (.var 0) (.cst (.int 0))) .nil)) (.var 1))) (.seq (.seti (.var 0) (.cst (.int 0)) (.bin .FloorDiv (.idx (.var 0) (.cst (.int 0))) (.var 1))) (.seq (.ret (.var 2)) .skip))) .skip) (.seq (.seti (.var 0) (.cst (.int 2)) (.bin .Add (.idx (.var 0) (.cst (.int 2))) (.cst (.int 1)))) (.seq (.asg (.one 3) (.bin .Mod (.bf .int (.cons (.bin .Pow (.bin .Add (.idx (.var 0) (.cst (.int 1))) (.bin .Mult (.cst (.int 1000151)) (.idx (.var 0) (.cst (.int 2))))) (.cst (.int 3))) .nil)) (.cst (.int 2305843009213693921)))) (.seq (.asg (.one 3) (.bin .Mod (.bf .int (.cons (.bin .Pow (.bin .Add (.var 3) (.bin .Mult (.cst (.int 27644437)) (.idx (.var 0) (.cst (.int 2))))) (.cst (.int 2))) .nil)) (.cst (.int 2305843009213693951)))) (.seq (.ret (.bin .Mod (.bf .int (.cons (.bin .FloorDiv (.var 3) (.cst (.int 1024))) .nil)) (.var 1))) .skip)))))
def dx__law_take : Df := ⟨(.glo "_law_take"), "_law_take", "_law_take", L2.defArgs (top 21), L2.defBody (top 21), L2.defScope (top 21), ["_law_bag_here", "_law_many", "_law_digit", "_law_mixed"], ["_law_bag_here", "_law_many"], ⟨2, 4, x__law_take, []⟩, []⟩
def x__law_of : St := (.seq (.ret (.idx (.var 1) (.call "_law_take" (.cons (.var 0) (.cons (.bf .len (.cons (.var 1) .nil)) .nil))))) .skip)
def dx__law_of : Df := ⟨(.glo "_law_of"), "_law_of", "_law_of", L2.defArgs (top 22), L2.defBody (top 22), L2.defScope (top 22), ["_law_bag_here", "_law_some"], ["_law_bag_here", "_law_some"], ⟨2, 2, x__law_of, []⟩, []⟩
def x__law_outcome : St := (.seq (.try_ (.seq (.ret (.mkk "Name" ⟨4, ["start"], [], [.inl 0, .inl 1, .inl 2, .inl 3, .inl 4]⟩ (.cons (.var 0) (.cons (.var 1) (.cons (.var 2) .nil))) (.cons (.var 3) .nil))) .skip) (.hnd "BadWord" (some 4) (.seq (.ret (.tup (.cons (.cst (.str "word")) (.cons (.bf .repr (.cons (.attr (.var 4) "word") .nil)) .nil)))) .skip) (.hnd "BadKind" (some 4) (.seq (.ret (.tup (.cons (.cst (.str "kind")) (.cons (.bf .repr (.cons (.attr (.var 4) "kind") .nil)) .nil)))) .skip) (.hnd "BadSize" (some 4) (.seq (.ret (.tup (.cons (.cst (.str "size")) (.cons (.bf .repr (.cons (.attr (.var 4) "size") .nil)) .nil)))) .skip) (.hnd "BadValue" (some 4) (.seq (.ret (.tup (.cons (.cst (.str "value")) (.cons (.bf .repr (.cons (.attr (.var 4) "value") .nil)) .nil)))) .skip) .hnil))))) .skip)
def dx__law_outcome : Df := ⟨(.glo "_law_outcome"), "_law_outcome", "_law_outcome", L2.defArgs (top 23), L2.defBody (top 23), L2.defScope (top 23), ["_law_word", "_law_kind", "_law_size", "_law_first", "e"], ["_law_word", "_law_kind", "_law_size", "_law_first"], ⟨4, 5, x__law_outcome, []⟩, []⟩
def x__law_is_whole : St := (.seq (.ret (.and (.bf .isinst (.cons (.var 0) (.cons (.cst (.ty "int")) .nil))) (.not (.bf .isinst (.cons (.var 0) (.cons (.cst (.ty "bool")) .nil)))))) .skip)
def dx__law_is_whole : Df := ⟨(.glo "_law_is_whole"), "_law_is_whole", "_law_is_whole", L2.defArgs (top 24), L2.defBody (top 24), L2.defScope (top 24), ["_law_value"], ["_law_value"], ⟨1, 1, x__law_is_whole, []⟩, []⟩
def x__law_due : St := (.seq (.ifs (.val (.cmp .NotIn (.bf .repr (.cons (.var 0) .nil)) (.lc (.bf .repr (.cons (.var 4) .nil)) [4] [4] (.val (.lst (.cons (.cst (.str "a")) (.cons (.cst (.str "debug")) (.cons (.cst (.str "abcdefgh")) (.cons (.cst (.str "z")) (.cons (.cst (.str "bod")) .nil))))))) .yes))) (.seq (.ret (.tup (.cons (.cst (.str "word")) (.cons (.bf .repr (.cons (.var 0) .nil)) .nil)))) .skip) .skip) (.seq (.ifs (.val (.cmp .NotIn (.bf .repr (.cons (.var 1) .nil)) (.lc (.bf .repr (.cons (.var 4) .nil)) [4] [4] (.val (.lst (.cons (.cst (.str "setting")) (.cons (.cst (.str "open")) (.cons (.cst (.str "inner")) .nil))))) .yes))) (.seq (.ret (.tup (.cons (.cst (.str "kind")) (.cons (.bf .repr (.cons (.var 1) .nil)) .nil)))) .skip) .skip) (.seq (.ifs (.or (.not (.val (.call "_law_is_whole" (.cons (.var 2) .nil)))) (.not (.val (.chain .LtE .LtE (.cst (.int 1)) (.var 2) (.cst (.int 8)))))) (.seq (.ret (.tup (.cons (.cst (.str "size")) (.cons (.bf .repr (.cons (.var 2) .nil)) .nil)))) .skip) .skip) (.seq (.ifs (.and (.val (.cmp .IsNot (.var 3) (.cst .non))) (.or (.val (.cmp .NotEq (.var 1) (.cst (.str "inner")))) (.or (.not (.val (.call "_law_is_whole" (.cons (.var 3) .nil)))) (.not (.val (.chain .LtE .Lt (.cst (.int 0)) (.var 3) (.var 2))))))) (.seq (.ret (.tup (.cons (.cst (.str "value")) (.cons (.bf .repr (.cons (.var 3) .nil)) .nil)))) .skip) .skip) (.seq (.ret (.cst .non)) .skip)))))
def dx__law_due : Df := ⟨(.glo "_law_due"), "_law_due", "_law_due", L2.defArgs (top 25), L2.defBody (top 25), L2.defScope (top 25), ["_law_word", "_law_kind", "_law_size", "_law_first", "_law_one"], ["_law_word", "_law_kind", "_law_size", "_law_first"], ⟨4, 5, x__law_due, []⟩, []⟩
def x_law : St := (.seq (.asg (.one 1) (.lst (.cons (.cst (.str "a")) (.cons (.cst (.str "debug")) (.cons (.cst (.str "abcdefgh")) (.cons (.cst (.str "z")) (.cons (.cst (.str "bod")) .nil))))))) (.seq (.asg (.one 2) (.lst (.cons (.cst .non) (.cons (.cst (.int 0)) (.cons (.cst (.str "")) (.cons (.cst (.str "A")) (.cons (.cst (.str "abcdefghi")) (.cons (.cst (.str "a1")) (.cons (.cst (.str "a b")) (.cons (.cst (.str "if")) (.cons (.cst (.str "was")) (.cons (.cst (.str "header")) (.cons (.cst (.str "name")) (.cons (.cst (.str "stop")) (.cons (.tup (.cons (.cst (.str "a")) .nil)) (.cons (.lst (.cons (.cst (.str "a")) .nil)) .nil)))))))))))))))) (.seq (.for_ [3] (.rng (.cons (.bf .max (.cons (.cst (.int 1)) (.cons (.bf .min (.cons (.cst (.int 2)) (.cons (.bf .len (.cons (.var 0) .nil)) .nil))) .nil))) .nil)) (.seq (.asg (.one 4) (.call "_law_bag" (.cons (.var 0) (.cons (.var 3) .nil)))) (.seq (.for_ [5] (.rng (.cons (.cst (.int 40)) .nil)) (.seq (.asg (.one 6) (.call "_law_of" (.cons (.var 4) (.cons (.bin .Add (.bin .Mult (.var 1) (.cst (.int 5))) (.var 2)) .nil)))) (.seq (.asg (.one 7) (.lst (.cons (.cst .non) (.cons (.cst (.int 0)) (.cons (.cst (.str "Inner")) (.cons (.cst (.str "")) (.cons (.lst (.cons (.cst (.str "open")) .nil)) (.cons (.tup (.cons (.cst (.str "open")) .nil)) (.cons (.cst (.str "openinner")) .nil))))))))) (.seq (.asg (.one 8) (.call "_law_of" (.cons (.var 4) (.cons (.bin .Add (.bin .Mult (.lst (.cons (.cst (.str "setting")) (.cons (.cst (.str "open")) (.cons (.cst (.str "inner")) .nil)))) (.cst (.int 6))) (.var 7)) .nil)))) (.seq (.asg (.one 9) (.call "_law_of" (.cons (.var 4) (.cons (.bin .Add (.bin .Mult (.lst (.cons (.cst (.int 1)) (.cons (.cst (.int 2)) (.cons (.cst (.int 3)) (.cons (.cst (.int 8)) .nil))))) (.cst (.int 5))) (.lst (.cons (.cst (.int 0)) (.cons (.cst (.int 9)) (.cons (.neg (.cst (.int 1))) (.cons (.cst (.bl true)) (.cons (.cst .non) (.cons (.cst (.str "3")) (.cons (.tup (.cons (.cst (.int 2)) .nil)) (.cons (.bin .Pow (.cst (.int 10)) (.cst (.int 30))) .nil)))))))))) .nil)))) (.seq (.asg (.one 10) (.call "_law_of" (.cons (.var 4) (.cons (.bin .Add (.bin .Mult (.lst (.cons (.cst .non) .nil)) (.cst (.int 6))) (.lst (.cons (.cst (.int 0)) (.cons (.cst (.int 1)) (.cons (.cst (.int 2)) (.cons (.cst (.int 7)) (.cons (.cst (.int 8)) (.cons (.neg (.cst (.int 1))) (.cons (.cst (.bl true)) (.cons (.cst (.bl false)) (.cons (.cst (.str "0")) (.cons (.tup (.cons (.cst (.int 0)) .nil)) (.cons (.bin .Pow (.cst (.int 10)) (.cst (.int 30))) .nil))))))))))))) .nil)))) (.seq (.asg (.many [11, 12]) (.tup (.cons (.call "_law_outcome" (.cons (.var 6) (.cons (.var 8) (.cons (.var 9) (.cons (.var 10) .nil))))) (.cons (.call "_law_due" (.cons (.var 6) (.cons (.var 8) (.cons (.var 9) (.cons (.var 10) .nil))))) .nil)))) (.seq (.ifs (.val (.cmp .IsNot (.var 12) (.cst .non))) (.seq (.ifs (.val (.cmpo .NotEq (.var 11) (.var 12))) (.seq (.ret (.cst (.bl false))) .skip) .skip) (.seq .cnt .skip)) .skip) (.seq (.ifs (.or (.not (.val (.bf .isinst (.cons (.var 11) (.cons (.cst (.cls "Name")) .nil))))) (.val (.cmpo .NotEq (.lst (.cons (.attr (.var 11) "word") (.cons (.attr (.var 11) "kind") (.cons (.attr (.var 11) "size") .nil)))) (.lst (.cons (.var 6) (.cons (.var 8) (.cons (.var 9) .nil))))))) (.seq (.ret (.cst (.bl false))) .skip) .skip) (.seq (.ifs (.val (.cmpo .NotEq (.attr (.var 11) "start") (.var 10))) (.seq (.ret (.cst (.bl false))) .skip) .skip) (.seq (.asg (.one 13) (.call "_law_outcome" (.cons (.call "_law_of" (.cons (.var 4) (.cons (.lst (.cons (.var 6) (.cons (.cst (.str "os")) .nil))) .nil))) (.cons (.var 8) (.cons (.call "_law_of" (.cons (.var 4) (.cons (.lst (.cons (.var 9) (.cons (.cst (.int 8)) .nil))) .nil))) (.cons (.var 10) .nil)))))) (.seq (.asg (.one 14) (.cmpo .Eq (.lst (.cons (.attr (.var 13) "word") (.cons (.attr (.var 13) "size") .nil))) (.lst (.cons (.var 6) (.cons (.var 9) .nil))))) (.seq (.ifs (.val (.cmpo .NotEq (.bf .repr (.cons (.lst (.cons (.cmpo .Eq (.var 11) (.var 13)) (.cons (.cmpo .Eq (.var 13) (.var 11)) (.cons (.cmpo .NotEq (.var 11) (.var 13)) .nil)))) .nil)) (.bf .repr (.cons (.lst (.cons (.var 14) (.cons (.var 14) (.cons (.not (.var 14)) .nil)))) .nil)))) (.seq (.ret (.cst (.bl false))) .skip) .skip) (.seq (.ifs (.val (.bf .any (.cons (.lc (.cmpo .Eq (.var 11) (.var 15)) [15] [15] (.val (.lst (.cons (.cst .non) (.cons (.var 6) (.cons (.tup (.cons (.var 6) (.cons (.var 8) (.cons (.var 9) (.cons (.var 10) .nil))))) .nil))))) .yes) .nil))) (.seq (.ret (.cst (.bl false))) .skip) .skip) .skip)))))))))))))) .skip))) (.seq (.ret (.and (.cmp .Is (.attr (.mkk "Name" ⟨4, [], [("start", .non)], [.inl 0, .inl 1, .inl 2, .inl 3, .inr 0]⟩ (.cons (.cst (.str "a")) (.cons (.cst (.str "open")) (.cons (.cst (.int 1)) .nil))) .nil) "start") (.cst .non)) (.cmpo .NotEq (.mkk "Name" ⟨4, ["start"], [], [.inl 0, .inl 1, .inl 2, .inl 3, .inl 4]⟩ (.cons (.cst (.str "a")) (.cons (.cst (.str "inner")) (.cons (.cst (.int 8)) .nil))) (.cons (.cst (.int 0)) .nil)) (.mkk "Name" ⟨4, [], [("start", .non)], [.inl 0, .inl 1, .inl 2, .inl 3, .inr 0]⟩ (.cons (.cst (.str "a")) (.cons (.cst (.str "inner")) (.cons (.cst (.int 8)) .nil))) .nil)))) .skip))))
def dx_law : Df := ⟨(.glo "law"), "law", "law", L2.defArgs (top 26), L2.defBody (top 26), L2.defScope (top 26), ["_law_script", "_law_words", "_law_odd_words", "_law_at", "_law_bag_here", "_law_turn", "_law_word", "_law_odd", "_law_kind", "_law_size", "_law_first", "_law_found", "_law_due_here", "_law_other", "_law_same", "_law_value"], ["_law_script"], ⟨1, 16, x_law, []⟩, []⟩
def x_Name___init__ : St := (.seq (.ifs (.not (.val (.call "is_word" (.cons (.var 1) .nil)))) (.seq (.rais "BadWord" (.cons (.var 1) .nil)) .skip) .skip) (.seq (.ifs (.or (.not (.val (.bf .isinst (.cons (.var 2) (.cons (.cst (.ty "str")) .nil))))) (.val (.cmp .NotIn (.var 2) (.cst (.con "KINDS"))))) (.seq (.rais "BadKind" (.cons (.var 2) .nil)) .skip) .skip) (.seq (.ifs (.or (.not (.val (.call "is_integer" (.cons (.var 3) .nil)))) (.not (.val (.chain .LtE .LtE (.cst (.int 1)) (.var 3) (.cst (.int 8)))))) (.seq (.rais "BadSize" (.cons (.var 3) .nil)) .skip) .skip) (.seq (.ifs (.and (.val (.cmp .IsNot (.var 4) (.cst .non))) (.or (.val (.cmp .NotEq (.var 2) (.cst (.str "inner")))) (.not (.val (.call "is_value" (.cons (.var 4) (.cons (.var 3) .nil))))))) (.seq (.rais "BadValue" (.cons (.var 4) .nil)) .skip) .skip) (.seq (.fld (.var 0) "word" (.var 1)) (.seq (.fld (.var 0) "kind" (.var 2)) (.seq (.fld (.var 0) "size" (.var 3)) (.seq (.fld (.var 0) "start" (.var 4)) .skip))))))))
def dx_Name___init__ : Df := ⟨(.met "Name" "__init__"), "__init__", "Name.__init__", L2.defArgs (mem 18 0), L2.defBody (mem 18 0), L2.defScope (mem 18 0), ["self", "word", "kind", "size", "start"], ["self", "word", "kind", "size", "start"], ⟨5, 5, x_Name___init__, [⟨4, ["start"], [], [.inl 0, .inl 1, .inl 2, .inl 3, .inl 4]⟩, ⟨4, [], [("start", .non)], [.inl 0, .inl 1, .inl 2, .inl 3, .inr 0]⟩]⟩, [("start", .non)]⟩
def x_Name_fields : St := (.seq (.ret (.tup (.cons (.attr (.var 0) "word") (.cons (.attr (.var 0) "kind") (.cons (.attr (.var 0) "size") (.cons (.attr (.var 0) "start") .nil)))))) .skip)
def dx_Name_fields : Df := ⟨(.met "Name" "fields"), "fields", "Name.fields", L2.defArgs (mem 18 1), L2.defBody (mem 18 1), L2.defScope (mem 18 1), ["self"], ["self"], ⟨1, 1, x_Name_fields, []⟩, []⟩
def x_Name___eq__ : St := (.seq (.ret (.and (.bf .isinst (.cons (.var 1) (.cons (.cst (.cls "Name")) .nil))) (.cmp .Eq (.meth (.var 0) "fields" .nil) (.meth (.var 1) "fields" .nil)))) .skip)
def dx_Name___eq__ : Df := ⟨(.met "Name" "__eq__"), "__eq__", "Name.__eq__", L2.defArgs (mem 18 2), L2.defBody (mem 18 2), L2.defScope (mem 18 2), ["self", "other"], ["self", "other"], ⟨2, 2, x_Name___eq__, []⟩, []⟩
def ds : List (Str × Df) := [("is_integer", dx_is_integer), ("is_word", dx_is_word), ("is_value", dx_is_value), ("_law_bag", dx__law_bag), ("_law_take", dx__law_take), ("_law_of", dx__law_of), ("_law_outcome", dx__law_outcome), ("_law_is_whole", dx__law_is_whole), ("_law_due", dx__law_due), ("law", dx_law), ("Name.__init__", dx_Name___init__), ("Name.fields", dx_Name_fields), ("Name.__eq__", dx_Name___eq__)]
def cls : List (Str × Cl) := [("BadWord", { exc := some ["word"], flds := ["word"] }), ("BadKind", { exc := some ["kind"], flds := ["kind"] }), ("BadSize", { exc := some ["size"], flds := ["size"] }), ("BadValue", { exc := some ["value"], flds := ["value"] }), ("Name", { flds := ["word", "kind", "size", "start"], props := [], meths := [("__init__", "Name.__init__"), ("fields", "Name.fields"), ("__eq__", "Name.__eq__")] })]
def cons : List (Str × Ho) := [("RESERVED", .tup [(.str "define"), (.str "undef"), (.str "include"), (.str "body"), (.str "need"), (.str "stop"), (.str "if"), (.str "elif"), (.str "else"), (.str "endif"), (.str "not"), (.str "and"), (.str "or"), (.str "was"), (.str "has"), (.str "name"), (.str "header")]), ("KINDS", .tup [(.str "setting"), (.str "open"), (.str "inner")])]
def b : Bd := ⟨ds, cls, cons⟩
def t : Nm := ⟨["is_integer", "is_word", "is_value", "_law_bag", "_law_take", "_law_of", "_law_outcome", "_law_is_whole", "_law_due", "law"], ["BadWord", "BadKind", "BadSize", "BadValue", "Name"], [("LETTERS", (.str "abcdefghijklmnopqrstuvwxyz")), ("MOST_LETTERS", (.int 8)), ("RESERVED", .con "RESERVED"), ("SETTING", (.str "setting")), ("OPEN", (.str "open")), ("INNER", (.str "inner")), ("KINDS", .con "KINDS"), ("MOST_SIZE", (.int 8))], ["len", "isinstance", "int", "str", "bool", "abs", "min", "max", "all", "any", "repr", "range"], ["kind", "size", "start", "value", "word"]⟩
def es : List Er := [⟨"BadWord", "word", "BadWord.__init__", "a value that is no word", 0, fun i => ([⟨5, 8, 5, 13⟩, ⟨5, 8, 5, 15⟩, ⟨5, 8, 5, 24⟩, ⟨5, 25, 5, 50⟩, ⟨5, 8, 5, 51⟩, ⟨5, 8, 5, 51⟩, ⟨6, 8, 6, 12⟩, ⟨6, 8, 6, 17⟩, ⟨6, 20, 6, 24⟩, ⟨6, 8, 6, 24⟩, ⟨4, 17, 4, 21⟩, ⟨4, 23, 4, 27⟩] : List Pos).getD i ⟨0, 0, 0, 0⟩⟩, ⟨"BadKind", "kind", "BadKind.__init__", "a value that is no kind of a name", 0, fun i => ([⟨10, 8, 10, 13⟩, ⟨10, 8, 10, 15⟩, ⟨10, 8, 10, 24⟩, ⟨10, 25, 10, 60⟩, ⟨10, 8, 10, 61⟩, ⟨10, 8, 10, 61⟩, ⟨11, 8, 11, 12⟩, ⟨11, 8, 11, 17⟩, ⟨11, 20, 11, 24⟩, ⟨11, 8, 11, 24⟩, ⟨9, 17, 9, 21⟩, ⟨9, 23, 9, 27⟩] : List Pos).getD i ⟨0, 0, 0, 0⟩⟩, ⟨"BadSize", "size", "BadSize.__init__", "a value that is no size of a name", 0, fun i => ([⟨15, 8, 15, 13⟩, ⟨15, 8, 15, 15⟩, ⟨15, 8, 15, 24⟩, ⟨15, 25, 15, 60⟩, ⟨15, 8, 15, 61⟩, ⟨15, 8, 15, 61⟩, ⟨16, 8, 16, 12⟩, ⟨16, 8, 16, 17⟩, ⟨16, 20, 16, 24⟩, ⟨16, 8, 16, 24⟩, ⟨14, 17, 14, 21⟩, ⟨14, 23, 14, 27⟩] : List Pos).getD i ⟨0, 0, 0, 0⟩⟩, ⟨"BadValue", "value", "BadValue.__init__", "a value that a name cannot have", 0, fun i => ([⟨20, 8, 20, 13⟩, ⟨20, 8, 20, 15⟩, ⟨20, 8, 20, 24⟩, ⟨20, 25, 20, 58⟩, ⟨20, 8, 20, 59⟩, ⟨20, 8, 20, 59⟩, ⟨21, 8, 21, 12⟩, ⟨21, 8, 21, 18⟩, ⟨21, 21, 21, 26⟩, ⟨21, 8, 21, 26⟩, ⟨19, 17, 19, 21⟩, ⟨19, 23, 19, 28⟩] : List Pos).getD i ⟨0, 0, 0, 0⟩⟩]
theorem pf : ∀ p ∈ ds, p.2.Pf t b.G := by
  unfold ds
  simp only [List.forall_mem_cons]
  refine ⟨?_, ?_, ?_, ?_, ?_, ?_, ?_, ?_, ?_, ?_, ?_, ?_, ?_, ?_⟩
  · exact ⟨⟨rfl, rfl, rfl, by decide +kernel, rfl, by decide +kernel, by decide +kernel⟩, rfl, rfl, fun _ _ _ _ _ _ _ us hl => match us, hl with | [_], _ => rfl, fun _ h => (nomatch h), by decide +kernel⟩
  · exact ⟨⟨rfl, rfl, rfl, by decide +kernel, rfl, by decide +kernel, by decide +kernel⟩, rfl, rfl, fun _ _ _ _ _ _ _ us hl => match us, hl with | [_], _ => rfl, fun _ h => (nomatch h), by decide +kernel⟩
  · exact ⟨⟨rfl, rfl, rfl, by decide +kernel, rfl, by decide +kernel, by decide +kernel⟩, rfl, rfl, fun _ _ _ _ _ _ _ us hl => match us, hl with | [_, _], _ => rfl, fun _ h => (nomatch h), by decide +kernel⟩
  · exact ⟨⟨rfl, rfl, rfl, by decide +kernel, rfl, by decide +kernel, by decide +kernel⟩, rfl, rfl, fun _ _ _ _ _ _ _ us hl => match us, hl with | [_, _], _ => rfl, fun _ h => (nomatch h), by decide +kernel⟩
  · exact ⟨⟨rfl, rfl, rfl, by decide +kernel, rfl, by decide +kernel, by decide +kernel⟩, rfl, rfl, fun _ _ _ _ _ _ _ us hl => match us, hl with | [_, _], _ => rfl, fun _ h => (nomatch h), by decide +kernel⟩
  · exact ⟨⟨rfl, rfl, rfl, by decide +kernel, rfl, by decide +kernel, by decide +kernel⟩, rfl, rfl, fun _ _ _ _ _ _ _ us hl => match us, hl with | [_, _], _ => rfl, fun _ h => (nomatch h), by decide +kernel⟩
  · exact ⟨⟨rfl, rfl, rfl, by decide +kernel, rfl, by decide +kernel, by decide +kernel⟩, rfl, rfl, fun _ _ _ _ _ _ _ us hl => match us, hl with | [_, _, _, _], _ => rfl, fun _ h => (nomatch h), by decide +kernel⟩
  · exact ⟨⟨rfl, rfl, rfl, by decide +kernel, rfl, by decide +kernel, by decide +kernel⟩, rfl, rfl, fun _ _ _ _ _ _ _ us hl => match us, hl with | [_], _ => rfl, fun _ h => (nomatch h), by decide +kernel⟩
  · exact ⟨⟨rfl, rfl, rfl, by decide +kernel, rfl, by decide +kernel, by decide +kernel⟩, rfl, rfl, fun _ _ _ _ _ _ _ us hl => match us, hl with | [_, _, _, _], _ => rfl, fun _ h => (nomatch h), by decide +kernel⟩
  · exact ⟨⟨rfl, rfl, rfl, by decide +kernel, rfl, by decide +kernel, by decide +kernel⟩, rfl, rfl, fun _ _ _ _ _ _ _ us hl => match us, hl with | [_], _ => rfl, fun _ h => (nomatch h), by decide +kernel⟩
  · refine ⟨⟨rfl, rfl, rfl, by decide +kernel, rfl, by decide +kernel, by decide +kernel⟩, rfl, rfl, fun h => (nomatch h), ?_, by decide +kernel⟩
    refine List.forall_mem_cons.mpr ⟨?_, List.forall_mem_cons.mpr ⟨?_, fun _ h => (nomatch h)⟩⟩
    · exact ⟨by decide, by decide, rfl, fun D doc pm an cdv ct us mv ws h1 h2 h3 => match us, mv, ws, h1, h2, h3 with | [_, _, _, _], [], [_], _, _, _ => rfl⟩
    · exact ⟨by decide, by decide, rfl, fun D doc pm an cdv ct us mv ws h1 h2 h3 => match us, mv, ws, h1, h2, h3 with | [_, _, _, _], [_], [], _, _, _ => ⟨_, _, _, _, _, _, rfl, rfl, rfl⟩⟩
  · exact ⟨⟨rfl, rfl, rfl, by decide +kernel, rfl, by decide +kernel, by decide +kernel⟩, rfl, rfl, fun _ _ _ _ _ _ _ us hl => match us, hl with | [_], _ => rfl, fun _ h => (nomatch h), by decide +kernel⟩
  · exact ⟨⟨rfl, rfl, rfl, by decide +kernel, rfl, by decide +kernel, by decide +kernel⟩, rfl, rfl, fun _ _ _ _ _ _ _ us hl => match us, hl with | [_, _], _ => rfl, fun _ h => (nomatch h), by decide +kernel⟩
  · intro p hp; cases hp
theorem pe : ∀ e ∈ es, e.Pf Pg := by
  unfold es
  simp only [List.forall_mem_cons]
  refine ⟨?_, ?_, ?_, ?_, ?_⟩
  · exact ⟨rfl, ⟨by decide +kernel, by decide +kernel, by decide⟩, ⟨by decide +kernel, by decide +kernel, by decide +kernel, by decide +kernel⟩, by decide +kernel, fun doc pm an cd ct cc u v => rfl⟩
  · exact ⟨rfl, ⟨by decide +kernel, by decide +kernel, by decide⟩, ⟨by decide +kernel, by decide +kernel, by decide +kernel, by decide +kernel⟩, by decide +kernel, fun doc pm an cd ct cc u v => rfl⟩
  · exact ⟨rfl, ⟨by decide +kernel, by decide +kernel, by decide⟩, ⟨by decide +kernel, by decide +kernel, by decide +kernel, by decide +kernel⟩, by decide +kernel, fun doc pm an cd ct cc u v => rfl⟩
  · exact ⟨rfl, ⟨by decide +kernel, by decide +kernel, by decide⟩, ⟨by decide +kernel, by decide +kernel, by decide +kernel, by decide +kernel⟩, by decide +kernel, fun doc pm an cd ct cc u v => rfl⟩
  · intro e he; cases he
end Lw

set_option linter.all false
set_option autoImplicit false
set_option maxRecDepth 100000
set_option maxHeartbeats 0
namespace Lw
open PySem Dv
abbrev R : PySem.W.OpenRow := PySem.W.OpenLaw.row PySem.Challenge.rw_headerworlds_k04_names_made
abbrev hk : PySem.W.Hook := hookZ 6 (b.ds.map (·.2)) es (txB b t Pg es)
def ob (s : PySem.W.SharedT) : AlZ := obZ 6 (b.ds.map (·.2)) es (txB b t Pg es) s
def names : List Str := ["BadWord", "BadKind", "BadSize", "BadValue", "LETTERS", "MOST_LETTERS", "RESERVED", "is_integer", "is_word", "is_value", "SETTING", "OPEN", "INNER", "KINDS", "MOST_SIZE", "Name", "_law_bag", "_law_take", "_law_of", "_law_outcome", "_law_is_whole", "_law_due"]
theorem run (w : World) : HandSHeadRun.RunEq R (PySem.W.view R.prog [26]) hk ob 4000 names w := by
  intro os
  kernel_rfl
end Lw
open PySem PySem.W PySem.Calls PyProof.Rows Dv
theorem holds_of (run_ok : ∀ ns : List Int, ns.length ≤ 63 → ∃ n h', n ≤ 500 ∧ Dv.run Lw.b.G n "law" [.ref 0] [.rol (ns.map .int)] = some (.ok (.bl true) h')) : PySem.Challenge.rw_headerworlds_k04_names_made.Holds := by
  w_on; o_law
  refine HandSHeadRun.head_any (r := OpenLaw.row PySem.Challenge.rw_headerworlds_k04_names_made) (q := view (OpenLaw.row PySem.Challenge.rw_headerworlds_k04_names_made).prog [26]) (H := Lw.hk) (ob := Lw.ob) (M := 4000) (loose := Lw.names) (d := HandSHeadRun.topDef (OpenLaw.row PySem.Challenge.rw_headerworlds_k04_names_made).prog 26) (kwd := []) (fun s => Dv.obZ_eq s)
    (by kernel_rfl) (fun s => by kernel_rfl) Lw.run (by kernel_rfl) (by kernel_rfl) (by kernel_rfl) (by rfl) (by first | assumption | decide +kernel) (by decide +kernel) ⟨rfl, rfl, rfl, rfl, rfl, by decide +kernel⟩ ?hw ?hc
  case hw => w_witness2
  case hc =>
    exact Dv.walk_Z (l := PySem.Challenge.rw_headerworlds_k04_names_made) (most := 63) (b := Lw.b) (t := Lw.t) (es := Lw.es) rfl (by decide) (by kernel_rfl) (by kernel_rfl) ⟨_, rfl, rfl⟩ (by decide +kernel) (by decide +kernel) Lw.pe Lw.pf run_ok

set_option linter.all false
set_option autoImplicit false
set_option maxRecDepth 100000
set_option maxHeartbeats 1000000
namespace Lw
open PySem Dv Pl
theorem l04 : L04 b.G [kpF, kp0] where
  nam := { wrd := { int := by rfl, word := by rfl, val := by rfl, res := by rfl }, ini := by rfl, fields := by rfl, eq := by rfl, kin := by rfl, cls := by rfl, err := fun j => by
             match j with
             | 0 => rfl
             | 1 => rfl
             | 2 => rfl
             | _ + 3 => rfl
           , inI := by rfl, inL := by rfl }
  drw := { bag := by rfl, take := by rfl, of_ := by rfl }
  kF := by decide
  k0 := by decide
  whole := by rfl
  due := by rfl
  out := by rfl
end Lw
open PySem
theorem PySem.Challenge.cw_headerworlds_k04_names_made_holds : PySem.Challenge.rw_headerworlds_k04_names_made.Holds :=
  holds_of fun ns _ => Pl.law04 Lw.l04 (by rfl) ns

