import PyProof.Rows.All
import Wide.All
import OpenK.AllK
import Wide.FinOn
import KE.LtData
import KE.SortData
import KE.KDictKeyed
import HandS.ForMost
import HandS.ForExc
import HandS.Deep
import HandS.Walk
import HandS.Wide
import HandS.WideBits
import HandS.IsInst
import HandS.Sort
import KE.DataMinMax
import HandS.Codes
import KE.KDictSum
import KE.KDictCopyH
import HandS.CallSlots
import HandS.ExcOwn
import HandS.ExcIs
import HandS.HeadHook1
import KE.KDictDisplayH
import HandS.NoneIn
import HandS.Head0
import HandS.Head1
import HandS.Head2
import HandS.HeadEnd
import HandS.HeadHook2
import HandS.Defaults
import HandS.Ends
import KE.BitLaws
import PySem.Challenge.RW_floortwos_k03_a_floor_made
set_option Elab.async false
set_option linter.all false
set_option maxRecDepth 100000
set_option maxHeartbeats 4000000
/-! A small language for the fragment of Python that the laws use, with its evaluator. -/
namespace Ev
open PySem

/-! ### values, objects, results -/
inductive D where
  | non | bl (b : Bool) | int (i : Int) | str (x : Str) | tup (ds : List D) | ref (l : Nat) | scr (ns : List Int)
  deriving Inhabited
namespace D
mutual
def beq : D → D → Bool
  | .non, .non => true
  | .bl a, .bl b => a == b
  | .int a, .int b => decide (a = b)
  | .str a, .str b => decide (a = b)
  | .tup a, .tup b => beqs a b
  | .ref a, .ref b => a == b
  | .scr a, .scr b => decide (a = b)
  | _, _ => false
def beqs : List D → List D → Bool
  | [], [] => true
  | a :: as, b :: bs => beq a b && beqs as bs
  | _, _ => false
end
mutual
theorem beq_self : ∀ a : D, beq a a = true
  | .non => rfl
  | .bl _ => by simp [beq]
  | .int _ => by simp [beq]
  | .str _ => by simp [beq]
  | .ref _ => by simp [beq]
  | .scr _ => by simp [beq]
  | .tup a => by rw [beq]; exact beqs_self a
theorem beqs_self : ∀ a : List D, beqs a a = true
  | [] => rfl
  | a :: as => by rw [beqs, beq_self a, beqs_self as]; rfl
end
mutual
theorem eq_of : ∀ a b : D, beq a b = true → a = b
  | .non, b, h => by cases b <;> simp [beq] at h; rfl
  | .bl a, b, h => by cases b <;> simp [beq] at h; rw [h]
  | .int a, b, h => by cases b <;> simp [beq] at h; rw [h]
  | .str a, b, h => by cases b <;> simp [beq] at h; rw [h]
  | .ref a, b, h => by cases b <;> simp [beq] at h; rw [h]
  | .scr a, b, h => by cases b <;> simp [beq] at h; rw [h]
  | .tup a, b, h => by
    cases b <;> simp [beq] at h
    rw [eqs_of a _ h]
theorem eqs_of : ∀ a b : List D, beqs a b = true → a = b
  | [], b, h => by cases b <;> simp [beqs] at h; rfl
  | a :: as, b, h => by
    cases b with
    | nil => simp [beqs] at h
    | cons b bs =>
      rw [beqs, Bool.and_eq_true] at h
      rw [eq_of a b h.1, eqs_of as bs h.2]
end
instance : DecidableEq D := fun a b => if h : beq a b = true then .isTrue (eq_of a b h) else .isFalse fun e => h (e ▸ beq_self a)
end D

inductive O where
  | lst (ds : List D) | dct (kvs : List (D × D))
  deriving DecidableEq, Inhabited
abbrev Sto := List O
abbrev En := List (Option D)

inductive Res (α : Type) where
  | ok (a : α) (st : Sto)
  | exc (c : Nat) (fs : List D) (st : Sto)
  | bad
namespace Res
def bind {α β : Type} (r : Res α) (f : α → Sto → Res β) : Res β := match r with
  | .ok a st => f a st
  | .exc c fs st => .exc c fs st
  | .bad => .bad
@[simp] theorem bind_ok {α β : Type} (a : α) (st : Sto) (f : α → Sto → Res β) : (Res.ok a st).bind f = f a st := (rfl)
@[simp] theorem bind_exc {α β : Type} (c : Nat) (fs : List D) (st : Sto) (f : α → Sto → Res β) : (Res.exc c fs st).bind f = .exc c fs st := (rfl)
@[simp] theorem bind_bad {α β : Type} (f : α → Sto → Res β) : (Res.bad : Res α).bind f = .bad := (rfl)
/-- what is known, or nothing -/
def of {α : Type} (o : Option α) (st : Sto) : Res α := match o with
  | some a => .ok a st
  | none => .bad
@[simp] theorem of_some {α : Type} (a : α) (st : Sto) : Res.of (some a) st = .ok a st := (rfl)
end Res
inductive Fl where
  | nx (env : En) (st : Sto)
  | ct (env : En) (st : Sto)
  | rt (d : D) (st : Sto)
  | exc (c : Nat) (fs : List D) (env : En) (st : Sto)
  | bad
/-- from an expression to a statement -/
def Res.fl {α : Type} (r : Res α) (env : En) (f : α → Sto → Fl) : Fl := match r with
  | .ok a st => f a st
  | .exc c fs st => .exc c fs env st
  | .bad => .bad
@[simp] theorem Res.fl_ok {α : Type} (a : α) (st : Sto) (env : En) (f : α → Sto → Fl) : (Res.ok a st).fl env f = f a st := (rfl)
@[simp] theorem Res.fl_exc {α : Type} (c : Nat) (fs : List D) (st : Sto) (env : En) (f : α → Sto → Fl) : (Res.exc c fs st).fl env f = .exc c fs env st := (rfl)
@[simp] theorem Res.fl_bad {α : Type} (env : En) (f : α → Sto → Fl) : (Res.bad : Res α).fl env f = .bad := (rfl)

/-! ### the language -/
inductive Bi where
  | len | abs | min1 | max1 | min2 | max2 | int | sorted | list | tuple | sum | divmod
  deriving DecidableEq
inductive Mt where
  | append | clear | pop0 | pop1 | get1 | get2 | setdef
  deriving DecidableEq
/-- classes for isinstance -/
inductive Ty where
  | int | bool | str | list | tuple
  deriving DecidableEq
mutual
inductive E where
  | var (i : Nat)
  | cst (c : D)
  | tup (es : List E)
  | lst (es : List E)
  | dct0
  | dct1 (k v : E)
  | bin (op : Operator) (a b : E)
  | neg (a : E)
  | not (a : E)
  | cmp (op : CmpOp) (a b : E)
  | chn (op op' : CmpOp) (a b c : E)
  | bop (op : BoolOp) (es : List E)
  | ite (c a b : E)
  | fn (f : Nat) (es : List E)
  | bi (f : Bi) (es : List E)
  | mt (m : Mt) (o : E) (es : List E)
  | ix (a b : E)
  | sl (a : E) (lo hi : Option E)
  | isi (a : E) (t : Ty)
  | lc (own : List Nat) (tg : Tg) (it : I) (ifs : List E) (elt : E)
inductive I where
  | seq (e : E)
  | rng1 (a : E)
  | rng2 (a b : E)
  | enm (a : E)
  | zip (a b : E)
  | itm (a : E)
inductive Tg where
  | nm (i : Nat)
  | tp (ts : List Tg)
end
/-- classes that isinstance names of an error: an own one by its number, ValueError -/
inductive XC where
  | own (i : Nat) | ve
  deriving DecidableEq
/-- what stands in an except suite: the error is seen by isinstance alone -/
inductive QE where
  | int (i : Int)
  | bl (b : Bool)
  | var (i : Nat)
  | isx (cs : List XC)
  | toI (a : QE)
  | add (a b : QE)
  | mul (a b : QE)
  | or (a b : QE)
inductive QS where
  | asg (i : Nat) (e : QE)
  | ite (c : QE) (a : List QS)
  | ret (e : QE)
  | retN
/-- a clause: the class's number, the error's slot, the suite -/
structure Hd where
  c : Nat
  n : Option Nat
  b : List QS
inductive S where
  | asg (t : Tg) (e : E)
  | par (i j : Nat) (a b : E)
  | put (o i e : E)
  | aug (i : Nat) (op : Operator) (e : E)
  | exp (e : E)
  | ite (c : E) (a b : List S)
  | fo (t : Tg) (it : I) (b : List S)
  | wh (c : E) (b : List S)
  | ret (e : E)
  | retN
  | con
  | pas
  | rai (c : Nat) (es : List E)
  | tri (rz : List Nat) (b : List S) (hs : List Hd)

/-! ### data -/
def En.val (env : En) (i : Nat) : Option D := (env[i]?).join
def seqOf (st : Sto) : D → Option (List D)
  | .tup ds => some ds
  | .scr ns => some (ns.map .int)
  | .ref l => match st[l]? with
    | some (.lst ds) => some ds
    | _ => none
  | _ => none
/-- a list (or the script) -/
def lisOf (st : Sto) : D → Option (List D)
  | .tup _ => none
  | x => seqOf st x
def dctOf (st : Sto) : D → Option (List (D × D))
  | .ref l => match st[l]? with
    | some (.dct kvs) => some kvs
    | _ => none
  | _ => none
mutual
/-- a value as data: lists by their items; n bounds the depth -/
def toP (st : Sto) : Nat → D → Option PyData
  | _, .non => some .none
  | _, .bl b => some (.bool b)
  | _, .int i => some (.int i)
  | _, .str x => if PyData.strOk x then some (.str x) else none
  | n + 1, .tup ds => (toPs st n ds).map .tuple
  | n + 1, .scr ns => some (.list (ns.map .int))
  | n + 1, .ref l => match st[l]? with
    | some (.lst ds) => (toPs st n ds).map .list
    | _ => none
  | 0, _ => none
def toPs (st : Sto) : Nat → List D → Option (List PyData)
  | _, [] => some []
  | n, d :: ds => match toP st n d, toPs st n ds with
    | some x, some xs => some (x :: xs)
    | _, _ => none
end
def deep : Nat := 12
def eqD (st : Sto) (x y : D) : Option Bool := match toP st deep x, toP st deep y with
  | some a, some b => some (PyData.eqv a b)
  | _, _ => none
def ltD (st : Sto) (x y : D) : Option Bool := match toP st deep x, toP st deep y with
  | some a, some b => if W.alike a b = true ∧ x ≠ .non then some (W.dataLt a b) else none
  | _, _ => none
mutual
/-- what may stand in a key: numbers, texts, tuples of such -/
def inKey : Nat → D → Bool
  | _, .int _ => true
  | _, .str _ => true
  | n + 1, .tup ds => inKeys n ds
  | _, _ => false
def inKeys : Nat → List D → Bool
  | _, [] => true
  | n, d :: ds => inKey n d && inKeys n ds
end
/-- a key: a tuple -/
def isKey : D → Bool
  | .tup ds => inKeys 7 ds
  | _ => false
def dGet (kvs : List (D × D)) (k : D) : Option D := (kvs.find? fun p => decide (p.1 = k)).map (·.2)
def dSet (kvs : List (D × D)) (k v : D) : List (D × D) :=
  if kvs.any (fun p => decide (p.1 = k)) then kvs.map (fun p => if p.1 = k then (p.1, v) else p) else kvs ++ [(k, v)]
def dDel (kvs : List (D × D)) (k : D) : List (D × D) := kvs.filter fun p => decide (p.1 ≠ k)
def inD (st : Sto) (x y : D) : Option Bool := match dctOf st y with
  | some kvs => if isKey x then some (dGet kvs x).isSome else none
  | none => match toP st deep x, (seqOf st y).bind (toPs st deep) with
    | some a, some bs => some (bs.any fun z => PyData.eqv z a)
    | _, _ => none
def allAlike (ds : List PyData) : Bool := ds.all fun d => ds.all fun e => W.alike d e
def sortable (ds : List PyData) : Bool := (ds.all fun d => match d with | .tuple (_ :: _) => true | _ => false) || (ds.all fun d => match d with | .none => false | .tuple _ => false | _ => true)
/-- sorted, as the library has it -/
def sortD (st : Sto) (xs : List D) : Option (List D) := match toPs st deep xs with
  | some ps => if allAlike ps && sortable ps then some (xs.mergeSort (W.dataLe false fun d => (toP st deep d).getD .none)) else none
  | none => none
def new (o : O) (st : Sto) : Res D := .ok (.ref st.length) (st ++ [o])
def line : Nat := 16777216
def newL (xs : List D) (st : Sto) : Res D := if xs.length ≤ line then new (.lst xs) st else .bad

/-! ### operators -/
def mulOk (i j : Int) : Bool := decide (-(2 ^ 64) < i ∧ i < 2 ^ 64) || decide (-(2 ^ 64) < j ∧ j < 2 ^ 64) || decide (i.natAbs.log2 + j.natAbs.log2 < 1000000)
def divOk (j : Int) : Bool := decide (0 < j ∧ j.natAbs.log2 < 9000)
def powOk (i j : Int) : Bool := decide (0 ≤ j ∧ j ≤ 1000000 ∧ i.natAbs < 2 ^ 64)
def ints2 : D → D → Option (Int × Int)
  | .int i, .int j => some (i, j)
  | _, _ => none
def binI (op : Operator) (i j : Int) (st : Sto) : Res D := match op with
  | .Add => .ok (.int (i + j)) st
  | .Sub => .ok (.int (i - j)) st
  | .Mult => if mulOk i j then .ok (.int (i * j)) st else .bad
  | .FloorDiv => if divOk j then .ok (.int (i / j)) st else .bad
  | .Mod => if 0 < j then .ok (.int (i % j)) st else .bad
  | .Pow => if powOk i j then .ok (.int (i ^ j.toNat)) st else .bad
  | .LShift => if powOk i j then .ok (.int (i * 2 ^ j.toNat)) st else .bad
  | .RShift => if 0 ≤ j then .ok (.int (i / 2 ^ j.toNat)) st else .bad
  | .BitAnd => .ok (.int (Builtin.bitAnd i j)) st
  | .BitOr => .ok (.int (Builtin.bitOr i j)) st
  | .BitXor => .ok (.int (Builtin.bitXor i j)) st
  | _ => .bad
/-- list * int -/
def repD (xs : List D) (x y : D) (st : Sto) : Res D := match x, y with
  | .ref _, .int n => if xs.length * n.toNat ≤ line ∧ -(2 ^ 63) ≤ n ∧ n < 2 ^ 63 then newL (List.replicate n.toNat xs).flatten st else .bad
  | _, _ => .bad
def bin (op : Operator) (x y : D) (st : Sto) : Res D := match ints2 x y with
  | some (i, j) => binI op i j st
  | none => match op, lisOf st x, lisOf st y with
    | .Add, some xs, some ys => newL (xs ++ ys) st
    | .Mult, some xs, none => repD xs x y st
    | _, _, _ => .bad
def cmp (op : CmpOp) (x y : D) (st : Sto) : Option Bool := match op with
  | .Eq => eqD st x y
  | .NotEq => (eqD st x y).map (!·)
  | .Lt => ltD st x y
  | .In => inD st x y
  | .NotIn => (inD st x y).map (!·)
  | .Is => if y = .non then some (decide (x = .non)) else none
  | .IsNot => if y = .non then some (!decide (x = .non)) else none
  | .LtE => (ints2 x y).map fun q => decide (q.1 ≤ q.2)
  | .Gt => (ints2 x y).map fun q => decide (q.2 < q.1)
  | .GtE => (ints2 x y).map fun q => decide (q.2 ≤ q.1)
def tyOf (st : Sto) : D → Option Ty
  | .bl _ => some .bool
  | .int _ => some .int
  | .str _ => some .str
  | .tup _ => some .tuple
  | .scr _ => some .list
  | .ref l => match st[l]? with
    | some (.lst _) => some .list
    | _ => none
  | .non => none
def isi (st : Sto) (x : D) (t : Ty) : Option Bool := match x with
  | .non => some false
  | _ => (tyOf st x).map fun u => decide (u = t) || (decide (u = .bool) && decide (t = .int))
/-- the place of an index -/
def place (n : Nat) (i : Int) : Option Nat := if 0 ≤ i then (if i < n then some i.toNat else none) else if -(n : Int) ≤ i then some (i + n).toNat else none
def item (xs : List D) (i : Int) : Option D := (place xs.length i).bind fun j => xs[j]?
def ixD (x y : D) (st : Sto) : Option D := match dctOf st x with
  | some kvs => if isKey y then dGet kvs y else none
  | none => match y with
    | .int i => match x with
      | .str z => if z.length ≤ line then (place z.cps.toList.length i).bind fun j => (z.cps.toList[j]?).map fun c => .str ⟨#[c]⟩ else none
      | _ => (seqOf st x).bind fun xs => item xs i
    | _ => none
/-- a slice's end -/
def sIx (n d : Nat) : Option Int → Nat
  | none => d
  | some v => (if v < 0 then max (v + (n : Int)) 0 else min v (n : Int)).toNat
def cut (xs : List D) (lo hi : Option Int) : List D := (xs.drop (sIx xs.length 0 lo)).take (sIx xs.length xs.length hi - sIx xs.length 0 lo)
def slD (x : D) (lo hi : Option Int) (st : Sto) : Res D := match lisOf st x with
  | some xs => new (.lst (cut xs lo hi)) st
  | none => .bad
def intsOf : List D → Option (List Int)
  | [] => some []
  | .int i :: r => (intsOf r).map (i :: ·)
  | _ => none
def least : List Int → Option Int
  | [] => none
  | x :: r => some (r.foldl min x)
def most : List Int → Option Int
  | [] => none
  | x :: r => some (r.foldl max x)
def bi (f : Bi) (ds : List D) (st : Sto) : Res D := match f, ds with
  | .len, [.str z] => if z.length ≤ line then .ok (.int z.length) st else .bad
  | .len, [x] => match dctOf st x with
    | some kvs => .ok (.int kvs.length) st
    | none => match seqOf st x with
      | some xs => .ok (.int xs.length) st
      | none => .bad
  | .abs, [.int i] => .ok (.int (if i < 0 then -i else i)) st
  | .min1, [x] => match ((lisOf st x).bind intsOf).bind least with
    | some m => .ok (.int m) st
    | none => .bad
  | .max1, [x] => match ((lisOf st x).bind intsOf).bind most with
    | some m => .ok (.int m) st
    | none => .bad
  | .min2, [x, y] => match ltD st y x with
    | some b => .ok (if b = true then y else x) st
    | none => .bad
  | .max2, [x, y] => match ltD st x y with
    | some b => .ok (if b = true then y else x) st
    | none => .bad
  | .int, [.int i] => .ok (.int i) st
  | .int, [.bl b] => .ok (.int (if b = true then 1 else 0)) st
  | .sorted, [x] => match dctOf st x with
    | some kvs => match sortD st (kvs.map (·.1)) with
      | some ys => newL ys st
      | none => .bad
    | none => match (lisOf st x).bind (sortD st) with
      | some ys => newL ys st
      | none => .bad
  | .list, [x] => match seqOf st x with
    | some xs => newL xs st
    | none => .bad
  | .tuple, [x] => match seqOf st x with
    | some xs => .ok (.tup xs) st
    | none => .bad
  | .sum, [x] => match (lisOf st x).bind intsOf with
    | some ns => .ok (.int ns.sum) st
    | none => .bad
  | .divmod, [.int i, .int j] => if divOk j then .ok (.tup [.int (i / j), .int (i % j)]) st else .bad
  | _, _ => .bad
def lstAt (st : Sto) (l : Nat) : Option (List D) := match st[l]? with
  | some (.lst ds) => some ds
  | _ => none
/-- lists, dicts -/
inductive Kd where
  | l | d
  deriving DecidableEq
def kindD (st : Sto) : D → Option Kd
  | .ref l => match st[l]? with
    | some (.lst _) => some .l
    | some (.dct _) => some .d
    | none => none
  | _ => none
/-- which methods they have -/
def mtOk : Kd → Mt → Bool
  | .l, .append => true
  | .l, .clear => true
  | .l, .pop0 => true
  | .l, .pop1 => true
  | .d, .pop1 => true
  | .d, .get1 => true
  | .d, .get2 => true
  | .d, .setdef => true
  | _, _ => false
def kindM (m : Mt) (st : Sto) (x : D) : Option Kd := match kindD st x with
  | some k => if mtOk k m then some k else none
  | none => none
def mtL (m : Mt) (l : Nat) (xs : List D) (ds : List D) (st : Sto) : Res D := match m, ds with
  | .append, [x] => if xs.length < line then .ok .non (st.set l (.lst (xs ++ [x]))) else .bad
  | .clear, [] => .ok .non (st.set l (.lst []))
  | .pop0, [] => match xs[xs.length - 1]? with
    | some x => .ok x (st.set l (.lst xs.dropLast))
    | none => .bad
  | .pop1, [.int i] => match place xs.length i with
    | some j => match xs[j]? with
      | some x => .ok x (st.set l (.lst (xs.eraseIdx j)))
      | none => .bad
    | none => .bad
  | _, _ => .bad
def mtD (m : Mt) (l : Nat) (kvs : List (D × D)) (ds : List D) (st : Sto) : Res D := match m, ds with
  | .pop1, [k] => if isKey k then match dGet kvs k with
    | some v => .ok v (st.set l (.dct (dDel kvs k)))
    | none => .bad
    else .bad
  | .get1, [k] => if isKey k then .ok ((dGet kvs k).getD .non) st else .bad
  | .get2, [k, x] => if isKey k then .ok ((dGet kvs k).getD x) st else .bad
  | .setdef, [k, x] => if isKey k && decide (kvs.length < line) then match dGet kvs k with
    | some v => .ok v st
    | none => .ok x (st.set l (.dct (dSet kvs k x)))
    else .bad
  | _, _ => .bad
def mt (k : Kd) (m : Mt) (o : D) (ds : List D) (st : Sto) : Res D := match o with
  | .ref l => match k, st[l]? with
    | .l, some (.lst xs) => mtL m l xs ds st
    | .d, some (.dct kvs) => mtD m l kvs ds st
    | _, _ => .bad
  | _ => .bad
def putD (o i v : D) (st : Sto) : Option Sto := match o with
  | .ref l => match st[l]? with
    | some (.lst xs) => match i with
      | .int k => (place xs.length k).map fun j => st.set l (.lst (xs.set j v))
      | _ => none
    | some (.dct kvs) => if isKey i && decide (kvs.length < line) then some (st.set l (.dct (dSet kvs i v))) else none
    | _ => none
  | _ => none

/-! ### targets, walks -/
mutual
def bindT (st : Sto) : Tg → D → En → Option En
  | .nm i, d, env => some (env.set i (some d))
  | .tp ts, d, env => match seqOf st d with
    | some ds => if ds.length = ts.length then bindTs st ts ds env else none
    | none => none
def bindTs (st : Sto) : List Tg → List D → En → Option En
  | [], _, env => some env
  | t :: ts, d :: ds, env => (bindT st t d env).bind (bindTs st ts ds)
  | _ :: _, [], _ => none
end
/-- what is walked: its items, and the objects that stand still meanwhile -/
structure Its where
  xs : List D
  gd : List (Nat × O)
def walkD (st : Sto) : D → Option Its
  | .tup ds => some ⟨ds, []⟩
  | .scr ns => some ⟨ns.map .int, []⟩
  | .ref l => match st[l]? with
    | some (.lst ds) => some ⟨ds, [(l, .lst ds)]⟩
    | _ => none
  | _ => none
def walkL (st : Sto) : D → Option Its
  | .tup _ => none
  | x => walkD st x
def lineR : Int := 2 ^ 62
def rangeD (lo hi : Int) : Option Its :=
  if -lineR ≤ lo ∧ lo < lineR ∧ -lineR ≤ hi ∧ hi < lineR then some ⟨(List.range (hi - lo).toNat).map fun k => .int (lo + (k : Nat)), []⟩ else none
def enumD (w : Its) : Its := ⟨(List.range w.xs.length).zipWith (fun k d => .tup [.int (k : Nat), d]) w.xs, w.gd⟩
def zipD (w w' : Its) : Its := ⟨w.xs.zipWith (fun a b => .tup [a, b]) w'.xs, w.gd ++ w'.gd⟩
def still (gd : List (Nat × O)) (st : Sto) : Bool := gd.all fun p => decide (st[p.1]? = some p.2)

/-- a for, over its items -/
def loopF (bd : Sto → D → En → Option En) (body : En → Sto → Fl) (gd : List (Nat × O)) : List D → En → Sto → Fl
  | [], env, st => if still gd st then .nx env st else .bad
  | d :: ds, env, st => if still gd st then match bd st d env with
    | some env1 => match body env1 st with
      | .nx env2 st2 => loopF bd body gd ds env2 st2
      | .ct env2 st2 => loopF bd body gd ds env2 st2
      | r => r
    | none => .bad
    else .bad
/-- a comprehension, over its items; the block's own slots are bound to each item anew -/
def loopC (bd : Sto → D → En → Option En) (test : En → Sto → Res Bool) (elt : En → Sto → Res D) (gd : List (Nat × O)) (env : En) : List D → Sto → Res (List D)
  | [], st => if still gd st then .ok [] st else .bad
  | d :: ds, st => if still gd st then match bd st d env with
    | some env1 => (test env1 st).bind fun b st1 =>
        if b = true then (elt env1 st1).bind fun x st2 => (loopC bd test elt gd env ds st2).bind fun xs st3 => .ok (x :: xs) st3
        else loopC bd test elt gd env ds st1
    | none => .bad
    else .bad
def loopW (test : En → Sto → Res Bool) (body : En → Sto → Fl) : Nat → En → Sto → Fl
  | 0, _, _ => .bad
  | n + 1, env, st => (test env st).fl env fun b st1 =>
    if b = true then match body env st1 with
      | .nx env2 st2 => loopW test body n env2 st2
      | .ct env2 st2 => loopW test body n env2 st2
      | r => r
    else .nx env st1
/-- forget the slots -/
def wipe (env : En) : List Nat → En
  | [] => env
  | v :: vs => (wipe env vs).set v none

/-! ### the evaluator -/
abbrev Calls := Nat → List D → Sto → Res D
def asB (d : D) (st : Sto) : Res Bool := match d with
  | .bl b => .ok b st
  | _ => .bad
def asI (d : D) (st : Sto) : Res Int := match d with
  | .int i => .ok i st
  | _ => .bad
mutual
def evalE (cl : Calls) : E → En → Sto → Res D
  | .var i, env, st => Res.of (env.val i) st
  | .cst c, _, st => .ok c st
  | .tup es, env, st => (evalEs cl es env st).bind fun ds st => if ds.length ≤ line then .ok (.tup ds) st else .bad
  | .lst es, env, st => (evalEs cl es env st).bind fun ds st => newL ds st
  | .dct0, _, st => new (.dct []) st
  | .dct1 k v, env, st => (evalE cl k env st).bind fun x st => (evalE cl v env st).bind fun y st => if isKey x then new (.dct [(x, y)]) st else .bad
  | .bin op a b, env, st => (evalE cl a env st).bind fun x st => (evalE cl b env st).bind fun y st => bin op x y st
  | .neg a, env, st => (evalE cl a env st).bind fun x st => (asI x st).bind fun i st => .ok (.int (-i)) st
  | .not a, env, st => (evalE cl a env st).bind fun x st => (asB x st).bind fun b st => .ok (.bl (!b)) st
  | .cmp op a b, env, st => (evalE cl a env st).bind fun x st => (evalE cl b env st).bind fun y st => (Res.of (cmp op x y st) st).bind fun b st => .ok (.bl b) st
  | .chn op op' a b c, env, st => (evalE cl a env st).bind fun x st => (evalE cl b env st).bind fun y st => (Res.of (cmp op x y st) st).bind fun k st =>
      if k = true then (evalE cl c env st).bind fun z st => (Res.of (cmp op' y z st) st).bind fun k st => .ok (.bl k) st else .ok (.bl false) st
  | .bop op es, env, st => evalB cl op es env st
  | .ite c a b, env, st => (evalE cl c env st).bind fun x st => (asB x st).bind fun k st => if k = true then evalE cl a env st else evalE cl b env st
  | .fn f es, env, st => (evalEs cl es env st).bind fun ds st => cl f ds st
  | .bi f es, env, st => (evalEs cl es env st).bind fun ds st => bi f ds st
  | .mt m o es, env, st => (evalE cl o env st).bind fun x st => (Res.of (kindM m st x) st).bind fun k st => (evalEs cl es env st).bind fun ds st => mt k m x ds st
  | .ix a b, env, st => (evalE cl a env st).bind fun x st => (evalE cl b env st).bind fun y st => Res.of (ixD x y st) st
  | .sl a lo hi, env, st => (evalE cl a env st).bind fun x st => (evalO cl lo env st).bind fun l st => (evalO cl hi env st).bind fun h st => slD x l h st
  | .isi a t, env, st => (evalE cl a env st).bind fun x st => (Res.of (isi st x t) st).bind fun b st => .ok (.bl b) st
  | .lc own tg it ifs elt, env, st => match evalI cl it env st with
    | .ok w st => match loopC (fun st => bindT st tg) (fun env st => evalTs cl ifs env st) (fun env st => evalE cl elt env st) w.gd (wipe env own) w.xs st with
      | .ok xs st => newL xs st
      | _ => .bad
    | .exc c fs st => .exc c fs st
    | .bad => .bad
def evalEs (cl : Calls) : List E → En → Sto → Res (List D)
  | [], _, st => .ok [] st
  | e :: es, env, st => (evalE cl e env st).bind fun x st => (evalEs cl es env st).bind fun xs st => .ok (x :: xs) st
def evalO (cl : Calls) : Option E → En → Sto → Res (Option Int)
  | none, _, st => .ok none st
  | some e, env, st => (evalE cl e env st).bind fun x st => (asI x st).bind fun i st => .ok (some i) st
/-- and, or of bools -/
def evalB (cl : Calls) : BoolOp → List E → En → Sto → Res D
  | _, [], _, _ => .bad
  | op, e :: es, env, st => (evalE cl e env st).bind fun x st => (asB x st).bind fun b st => match es, op with
    | [], _ => .ok (.bl b) st
    | _ :: _, .And => if b = true then evalB cl op es env st else .ok (.bl false) st
    | _ :: _, .Or => if b = true then .ok (.bl true) st else evalB cl op es env st
/-- a clause's tests (none or one) -/
def evalTs (cl : Calls) : List E → En → Sto → Res Bool
  | [], _, st => .ok true st
  | [e], env, st => (evalE cl e env st).bind fun x st => asB x st
  | _, _, _ => .bad
def evalI (cl : Calls) : I → En → Sto → Res Its
  | .seq e, env, st => (evalE cl e env st).bind fun x st => Res.of (walkD st x) st
  | .rng1 a, env, st => (evalE cl a env st).bind fun x st => (asI x st).bind fun i st => Res.of (rangeD 0 i) st
  | .rng2 a b, env, st => (evalE cl a env st).bind fun x st => (evalE cl b env st).bind fun y st => (asI x st).bind fun i st => (asI y st).bind fun j st => Res.of (rangeD i j) st
  | .enm a, env, st => (evalE cl a env st).bind fun x st => (Res.of (walkL st x) st).bind fun w st => .ok (enumD w) st
  | .zip a b, env, st => (evalE cl a env st).bind fun x st => (evalE cl b env st).bind fun y st => (Res.of (walkL st x) st).bind fun w st => (Res.of (walkL st y) st).bind fun w' st => .ok (zipD w w') st
  | .itm a, env, st => (evalE cl a env st).bind fun x st => match x, dctOf st x with
    | .ref l, some kvs => .ok ⟨kvs.map fun p => .tup [p.1, p.2], [(l, .dct kvs)]⟩ st
    | _, _ => .bad
end
/-! ### errors -/
/-- own classes by their numbers: 0 stands over all -/
def xsub (c d : Nat) : Bool := c == d || d == 0
def xis (c : Nat) : XC → Bool
  | .own d => xsub c d
  | .ve => true
def qE (c : Nat) (env : En) : QE → Option D
  | .int i => some (.int i)
  | .bl b => some (.bl b)
  | .var i => env.val i
  | .isx cs => some (.bl (cs.any (xis c)))
  | .toI a => match qE c env a with
    | some (.bl b) => some (.int (if b = true then 1 else 0))
    | _ => none
  | .add a b => match qE c env a, qE c env b with
    | some (.int i), some (.int j) => some (.int (i + j))
    | _, _ => none
  | .mul a b => match qE c env a, qE c env b with
    | some (.int i), some (.int j) => if mulOk i j then some (.int (i * j)) else none
    | _, _ => none
  | .or a b => match qE c env a, qE c env b with
    | some (.bl i), some (.bl j) => some (.bl (i || j))
    | _, _ => none
mutual
def qS (c : Nat) : QS → En → Sto → Fl
  | .asg i e, env, st => match qE c env e with
    | some d => .nx (env.set i (some d)) st
    | none => .bad
  | .ite t a, env, st => match qE c env t with
    | some (.bl b) => if b = true then qSs c a env st else .nx env st
    | _ => .bad
  | .ret e, env, st => match qE c env e with
    | some d => .rt d st
    | none => .bad
  | .retN, _, st => .rt .non st
def qSs (c : Nat) : List QS → En → Sto → Fl
  | [], env, st => .nx env st
  | s :: ss, env, st => match qS c s env st with
    | .nx env st => qSs c ss env st
    | r => r
end
def wipeO (env : En) : Option Nat → En
  | some i => env.set i none
  | none => env
def inR (env : En) : Option Nat → Bool
  | some i => decide (i < env.length)
  | none => true
/-- behind a suite the error's name is gone -/
def Fl.gone (n : Option Nat) (r : Fl) : Fl := match r with
  | .nx env st => .nx (wipeO env n) st
  | .rt d st => .rt d st
  | _ => .bad
def handle (c : Nat) (fs : List D) (env : En) (st : Sto) : List Hd → Fl
  | [] => .exc c fs env st
  | h :: hs => if xsub c h.c then (if inR env h.n then (qSs c h.b (wipeO env h.n) st).gone h.n else .bad) else handle c fs env st hs
def Fl.catch (rz : List Nat) (hs : List Hd) (r : Fl) : Fl := match r with
  | .exc c fs env st => if rz.contains c && fs.isEmpty then handle c fs env st hs else .bad
  | r => r
mutual
def execS (cl : Calls) (w : Nat) : S → En → Sto → Fl
  | .asg t e, env, st => (evalE cl e env st).fl env fun x st => match bindT st t x env with
    | some env' => .nx env' st
    | none => .bad
  | .par i j a b, env, st => (evalE cl a env st).fl env fun x st => (evalE cl b env st).fl env fun y st => .nx ((env.set i (some x)).set j (some y)) st
  | .put o i e, env, st => (evalE cl e env st).fl env fun v st => (evalE cl o env st).fl env fun x st => (evalE cl i env st).fl env fun y st => match putD x y v st with
    | some st' => .nx env st'
    | none => .bad
  | .aug i op e, env, st => (Res.of (env.val i) st).fl env fun x st => (evalE cl e env st).fl env fun y st => match op, x, y with
    | .Add, .int a, .int b => .nx (env.set i (some (.int (a + b)))) st
    | _, _, _ => .bad
  | .exp e, env, st => (evalE cl e env st).fl env fun _ st => .nx env st
  | .ite c a b, env, st => ((evalE cl c env st).bind asB).fl env fun k st => if k = true then execSs cl w a env st else execSs cl w b env st
  | .fo t it b, env, st => (evalI cl it env st).fl env fun its st => loopF (fun st => bindT st t) (fun env st => execSs cl w b env st) its.gd its.xs env st
  | .wh c b, env, st => loopW (fun env st => (evalE cl c env st).bind asB) (fun env st => execSs cl w b env st) w env st
  | .ret e, env, st => (evalE cl e env st).fl env fun x st => .rt x st
  | .retN, _, st => .rt .non st
  | .con, env, st => .ct env st
  | .pas, env, st => .nx env st
  | .rai c es, env, st => (evalEs cl es env st).fl env fun ds st => .exc c ds env st
  | .tri rz b hs, env, st => (execSs cl w b env st).catch rz hs
def execSs (cl : Calls) (w : Nat) : List S → En → Sto → Fl
  | [], env, st => .nx env st
  | s :: ss, env, st => match execS cl w s env st with
    | .nx env st => execSs cl w ss env st
    | r => r
end

/-- a def: how many parameters, how many slots, its body -/
structure Fn where
  ps : Nat
  ns : Nat
  body : List S
def enter (f : Fn) (ds : List D) : En := ds.map some ++ List.replicate (f.ns - ds.length) none
def Fl.out : Fl → Res D
  | .nx _ st => .ok .non st
  | .rt d st => .ok d st
  | .exc c fs _ st => .exc c fs st
  | _ => .bad
/-- the defs' table, to a depth of calls -/
def run (T : List Fn) (w : Nat) : Nat → Calls
  | 0 => fun _ _ _ => .bad
  | k + 1 => fun f ds st => match T[f]? with
    | some F => if ds.length = F.ps then (execSs (run T w k) w F.body (enter F ds) st).out else .bad
    | none => .bad
end Ev

/-! What a value of the evaluator stands for in the hand layer's heap. -/
namespace Ev
open PySem PySem.Spec PyProof.Rows L2

/-- the fixed things: program, world, the written part, the classes of exceptions by their numbers -/
structure Pm where
  P : Program
  w : World
  K : PySem.W.Frag
  cv : Nat → Value

/-- the script, as it was handed in -/
def Scr (K : PySem.W.Frag) (H : Hp) (a : Addr) (xs : List V) : Prop :=
  (∃ o, H a = some (.frz o (.lst xs))) ∨
    ∃ (o : Obj) (its : Array Value) (n : Nat), K.lookup a = some o ∧ o.cls = .type "list" ∧ o.dict = none ∧ o.data = .seq its n ∧ its.size ≤ sizeLine ∧ Vals xs its.toList
theorem Scr.sq {K : PySem.W.Frag} {H : Hp} {a : Addr} {xs : List V} (h : Scr K H a xs) : SqL K H a xs := by
  rcases h with ⟨o, h⟩ | h
  · exact .inl (.inr ⟨o, h⟩)
  · exact .inr h
mutual
inductive Rep (K : PySem.W.Frag) (ρ : List Addr) (H : Hp) : V → D → Prop
  | non : Rep K ρ H .non .non
  | bl (b : Bool) : Rep K ρ H (.bl b) (.bl b)
  | int (i : Int) : Rep K ρ H (.int i) (.int i)
  | str (x : Str) : Rep K ρ H (.str x) (.str x)
  | tup {a : Addr} {vs : List V} {ds : List D} : SqT K H a vs → Reps K ρ H vs ds → Rep K ρ H (.ref a) (.tup ds)
  | ref {l : Nat} {a : Addr} : ρ[l]? = some a → Rep K ρ H (.ref a) (.ref l)
  | scr {a : Addr} {ns : List Int} : Scr K H a (ns.map V.int) → Rep K ρ H (.ref a) (.scr ns)
inductive Reps (K : PySem.W.Frag) (ρ : List Addr) (H : Hp) : List V → List D → Prop
  | nil : Reps K ρ H [] []
  | cons {v : V} {d : D} {vs : List V} {ds : List D} : Rep K ρ H v d → Reps K ρ H vs ds → Reps K ρ H (v :: vs) (d :: ds)
end

/-- values stay what they are -/
structure Pre (ρ : List Addr) (H : Hp) (ρ' : List Addr) (H' : Hp) : Prop where
  pre : ∀ (l : Nat) a, ρ[l]? = some a → ρ'[l]? = some a
  tups : ∀ a xs, H a = some (.tup xs) → H' a = some (.tup xs)
  frzs : ∀ a o u, H a = some (.frz o u) → H' a = some (.frz o u)
/-- from one heap to a later one -/
structure Ext (ρ : List Addr) (H : Hp) (ρ' : List Addr) (H' : Hp) : Prop extends Pre ρ H ρ' H' where
  keep : ∀ a o, a ∉ ρ → H a = some o → H' a = some o
  new : ∀ a, a ∈ ρ' → a ∈ ρ ∨ H a = none
theorem Ext.refl {ρ : List Addr} {H : Hp} : Ext ρ H ρ H := ⟨⟨fun _ _ h => h, fun _ _ h => h, fun _ _ _ h => h⟩, fun _ _ _ h => h, fun _ h => .inl h⟩
theorem Ext.trans {ρ ρ1 ρ2 : List Addr} {H H1 H2 : Hp} (a : Ext ρ H ρ1 H1) (b : Ext ρ1 H1 ρ2 H2) : Ext ρ H ρ2 H2 where
  pre := fun l x h => b.pre l x (a.pre l x h)
  tups := fun x xs h => b.tups x xs (a.tups x xs h)
  frzs := fun x o u h => b.frzs x o u (a.frzs x o u h)
  keep := fun x o n h => b.keep x o (fun z => by
    rcases a.new x z with q | q
    · exact n q
    · rw [h] at q; cases q) (a.keep x o n h)
  new := fun x hx => by
    rcases b.new x hx with q | q
    · exact a.new x q
    · by_cases hn : x ∈ ρ
      · exact .inl hn
      · refine .inr ?_
        cases e : H x with
        | none => rfl
        | some o => rw [a.keep x o hn e] at q; cases q

section
variable {K : PySem.W.Frag} {ρ ρ' : List Addr} {H H' : Hp}
theorem SqT.ext (e : Pre ρ H ρ' H') {a : Addr} {xs : List V} (h : SqT K H a xs) : SqT K H' a xs := by
  rcases h with (h | ⟨o, h⟩) | h
  · exact .inl (.inl (e.tups _ _ h))
  · exact .inl (.inr ⟨o, e.frzs _ _ _ h⟩)
  · exact .inr h
theorem Scr.ext (e : Pre ρ H ρ' H') {a : Addr} {xs : List V} (h : Scr K H a xs) : Scr K H' a xs := by
  rcases h with ⟨o, h⟩ | h
  · exact .inl ⟨o, e.frzs _ _ _ h⟩
  · exact .inr h
mutual
theorem Rep.kept (e : Pre ρ H ρ' H') : ∀ {v : V} {d : D}, Rep K ρ H v d → Rep K ρ' H' v d
  | _, _, .non => .non
  | _, _, .bl b => .bl b
  | _, _, .int i => .int i
  | _, _, .str x => .str x
  | _, _, .tup h r => .tup (SqT.ext e h) (Reps.kept e r)
  | _, _, .ref h => .ref (e.pre _ _ h)
  | _, _, .scr h => .scr (Scr.ext e h)
theorem Reps.kept (e : Pre ρ H ρ' H') : ∀ {vs : List V} {ds : List D}, Reps K ρ H vs ds → Reps K ρ' H' vs ds
  | _, _, .nil => .nil
  | _, _, .cons r t => .cons (Rep.kept e r) (Reps.kept e t)
end
theorem Rep.ext (e : Ext ρ H ρ' H') {v : V} {d : D} (r : Rep K ρ H v d) : Rep K ρ' H' v d := r.kept e.toPre
theorem Reps.ext (e : Ext ρ H ρ' H') {vs : List V} {ds : List D} (r : Reps K ρ H vs ds) : Reps K ρ' H' vs ds := r.kept e.toPre
theorem Reps.length : ∀ {vs : List V} {ds : List D}, Reps K ρ H vs ds → vs.length = ds.length
  | _, _, .nil => rfl
  | _, _, .cons _ t => by simp [Reps.length t]
theorem Reps.append : ∀ {vs ws : List V} {ds es : List D}, Reps K ρ H vs ds → Reps K ρ H ws es → Reps K ρ H (vs ++ ws) (ds ++ es)
  | _, _, _, _, .nil, s => s
  | _, _, _, _, .cons r t, s => .cons r (Reps.append t s)
theorem Reps.get : ∀ {vs : List V} {ds : List D} {i : Nat} {d : D}, Reps K ρ H vs ds → ds[i]? = some d → ∃ v, vs[i]? = some v ∧ Rep K ρ H v d
  | _, _, _, _, .nil, e => by simp at e
  | _, _, 0, _, .cons r _, e => by simp at e; subst e; exact ⟨_, rfl, r⟩
  | _, _, i + 1, d, .cons _ t, e => by
    obtain ⟨u, h1, h2⟩ := Reps.get (i := i) (d := d) t (by simpa using e)
    exact ⟨u, by simpa using h1, h2⟩
theorem Reps.get' : ∀ {vs : List V} {ds : List D} {i : Nat} {v : V}, Reps K ρ H vs ds → vs[i]? = some v → ∃ d, ds[i]? = some d ∧ Rep K ρ H v d
  | _, _, _, _, .nil, e => by simp at e
  | _, _, 0, _, .cons r _, e => by simp at e; subst e; exact ⟨_, rfl, r⟩
  | _, _, i + 1, d, .cons _ t, e => by
    obtain ⟨u, h1, h2⟩ := Reps.get' (i := i) (v := d) t (by simpa using e)
    exact ⟨u, by simpa using h1, h2⟩
theorem Reps.set {v : V} {d : D} (r : Rep K ρ H v d) : ∀ {vs : List V} {ds : List D} (i : Nat), Reps K ρ H vs ds → Reps K ρ H (vs.set i v) (ds.set i d)
  | _, _, _, .nil => .nil
  | _, _, 0, .cons _ t => .cons r t
  | _, _, i + 1, .cons q t => .cons q (Reps.set r i t)
theorem Reps.drop : ∀ {vs : List V} {ds : List D} (n : Nat), Reps K ρ H vs ds → Reps K ρ H (vs.drop n) (ds.drop n)
  | _, _, 0, r => r
  | _, _, _ + 1, .nil => .nil
  | _, _, n + 1, .cons _ t => Reps.drop n t
theorem Reps.take : ∀ {vs : List V} {ds : List D} (n : Nat), Reps K ρ H vs ds → Reps K ρ H (vs.take n) (ds.take n)
  | _, _, 0, _ => .nil
  | _, _, _ + 1, .nil => .nil
  | _, _, n + 1, .cons r t => .cons r (Reps.take n t)
theorem Reps.eraseIdx : ∀ {vs : List V} {ds : List D} (i : Nat), Reps K ρ H vs ds → Reps K ρ H (vs.eraseIdx i) (ds.eraseIdx i)
  | _, _, _, .nil => .nil
  | _, _, 0, .cons _ t => t
  | _, _, i + 1, .cons r t => .cons r (Reps.eraseIdx i t)
theorem Reps.dropLast : ∀ {vs : List V} {ds : List D}, Reps K ρ H vs ds → Reps K ρ H vs.dropLast ds.dropLast
  | _, _, .nil => .nil
  | _, _, .cons _ .nil => .nil
  | _, _, .cons r (.cons r' t) => .cons r (Reps.dropLast (.cons r' t))
theorem Reps.ints : ∀ {ns : List Int}, Reps K ρ H (ns.map V.int) (ns.map D.int)
  | [] => .nil
  | n :: ns => .cons (.int n) (Reps.ints (ns := ns))
end

/-! ### the store -/
mutual
def toK : D → NestedKey
  | .int i => .num i
  | .str x => .text x
  | .tup ds => .tup (toKs ds)
  | _ => .none
def toKs : List D → List NestedKey
  | [] => []
  | d :: ds => toK d :: toKs ds
end
/-- one entry of a dict: its key's tuple, its value -/
def EntR (p : Pm) (ρ : List Addr) (H : Hp) (kv : D × D) (x : NestedKey × Addr × Value) : Prop :=
  isKey kv.1 = true ∧ x.1 = toK kv.1 ∧ Rep p.K ρ H (.ref x.2.1) kv.1 ∧ ∃ v, RelV v x.2.2 ∧ Rep p.K ρ H v kv.2
def DctR (p : Pm) (ρ : List Addr) (H : Hp) (a : Addr) (kvs : List (D × D)) : Prop :=
  ∃ (o : Obj) (xs : List (NestedKey × Addr × Value)) (es : Array DictEntry) (ep : Nat), H a = some (.ext fun h => h.get? a = some o) ∧ (a == sysModules) = false ∧ kvs.length ≤ sizeLine ∧ o.ExactDict ∧ o.data = .dict es ep ∧
    es.toList = xs.map (entryOfKey (nestedKind p.P p.w)) ∧ (xs.map (·.1)).Nodup ∧ Paired (EntR p ρ H) kvs xs
def ObjR (p : Pm) (ρ : List Addr) (H : Hp) (a : Addr) : O → Prop
  | .lst ds => ∃ vs, H a = some (.lst vs) ∧ Reps p.K ρ H vs ds
  | .dct kvs => DctR p ρ H a kvs
structure Rel (p : Pm) (ρ : List Addr) (H : Hp) (st : Sto) : Prop where
  len : ρ.length = st.length
  nd : ρ.Nodup
  obj : ∀ (l : Nat) (a : Addr) (o : O), ρ[l]? = some a → st[l]? = some o → ObjR p ρ H a o
section
variable {p : Pm} {ρ ρ' : List Addr} {H H' : Hp} {st : Sto}
theorem EntR.ext (e : Pre ρ H ρ' H') {kv : D × D} {x : NestedKey × Addr × Value} (h : EntR p ρ H kv x) : EntR p ρ' H' kv x :=
  let ⟨h1, h2, h3, v, h4, h5⟩ := h
  ⟨h1, h2, h3.kept e, v, h4, h5.kept e⟩
theorem ObjR.ext (e : Pre ρ H ρ' H') {a : Addr} {o : O} (h : ObjR p ρ H a o) (ha : H' a = H a) : ObjR p ρ' H' a o := by
  cases o with
  | lst ds =>
    obtain ⟨vs, h1, h2⟩ := h
    exact ⟨vs, ha.trans h1, h2.kept e⟩
  | dct kvs =>
    obtain ⟨o, xs, es, ep, h1, h2, h3, h4, h5, h6, h7, h8⟩ := h
    exact ⟨o, xs, es, ep, ha.trans h1, h2, h3, h4, h5, h6, h7, Paired.mapP h8 fun _ _ z => z.ext e⟩
theorem ObjR.some {a : Addr} {o : O} (h : ObjR p ρ H a o) : ∃ u, H a = some u ∧ Mut (some u) := by
  cases o with
  | lst ds =>
    obtain ⟨vs, h1, _⟩ := h
    exact ⟨_, h1, trivial⟩
  | dct kvs =>
    obtain ⟨o, xs, es, ep, h1, _⟩ := h
    exact ⟨_, h1, trivial⟩
theorem Rel.at (R : Rel p ρ H st) {l : Nat} {o : O} (h : st[l]? = some o) : ∃ a, ρ[l]? = some a ∧ ObjR p ρ H a o := by
  have hl : l < ρ.length := by rw [R.len]; exact (List.getElem?_eq_some_iff.mp h).1
  exact ⟨ρ[l], List.getElem?_eq_getElem hl, R.obj l _ o (List.getElem?_eq_getElem hl) h⟩
theorem Rel.has (R : Rel p ρ H st) {a : Addr} (h : a ∈ ρ) : ∃ u, H a = some u ∧ Mut (some u) := by
  obtain ⟨l, hl, e⟩ := List.mem_iff_getElem.mp h
  have h1 : ρ[l]? = some a := by rw [List.getElem?_eq_getElem hl, e]
  have hs : l < st.length := by rw [← R.len]; exact hl
  exact (R.obj l a st[l] h1 (List.getElem?_eq_getElem hs)).some
theorem Rel.fresh (R : Rel p ρ H st) {a : Addr} (h : H a = none) : a ∉ ρ := fun z => by
  obtain ⟨u, e, _⟩ := R.has z
  rw [h] at e; cases e
/-- the heap grows by a thing that isn't the store's -/
theorem Ext.grow (hn : H a = none) (o : HO) : Ext ρ H ρ (upd H a o) where
  pre := fun _ _ h => h
  tups := fun b xs h => by rw [upd_ne (ne_of_none h hn)]; exact h
  frzs := fun b o u h => by rw [upd_ne (ne_of_none h hn)]; exact h
  keep := fun b o _ h => by rw [upd_ne (ne_of_none h hn)]; exact h
  new := fun _ h => .inl h
theorem Rel.grow (R : Rel p ρ H st) (hn : H a = none) (o : HO) : Rel p ρ (upd H a o) st :=
  ⟨R.len, R.nd, fun l b q h1 h2 => (R.obj l b q h1 h2).ext (Ext.grow hn o).toPre (by
    obtain ⟨u, e, _⟩ := (R.obj l b q h1 h2).some
    rw [upd_ne (ne_of_none e hn)])⟩
/-- a new object of the store -/
theorem Ext.laid (hn : H a = none) (o : HO) : Ext ρ H (ρ ++ [a]) (upd H a o) where
  pre := fun l b h => by
    rw [List.getElem?_append_left (List.getElem?_eq_some_iff.mp h).1]
    exact h
  tups := fun b xs h => by rw [upd_ne (ne_of_none h hn)]; exact h
  frzs := fun b o u h => by rw [upd_ne (ne_of_none h hn)]; exact h
  keep := fun b o _ h => by rw [upd_ne (ne_of_none h hn)]; exact h
  new := fun b h => by
    rcases List.mem_append.mp h with h | h
    · exact .inl h
    · have e : b = a := by simpa using h
      subst e
      exact .inr hn
theorem Rel.laid (R : Rel p ρ H st) {a : Addr} {o : HO} {q : O} (hn : H a = none) (hq : ObjR p (ρ ++ [a]) (upd H a o) a q) : Rel p (ρ ++ [a]) (upd H a o) (st ++ [q]) := by
  have hx : Ext ρ H (ρ ++ [a]) (upd H a o) := Ext.laid hn o
  refine ⟨by simp [R.len], ?_, fun l b u h1 h2 => ?_⟩
  · refine List.nodup_append.mpr ⟨R.nd, by simp, fun x hm y hy => ?_⟩
    have e : y = a := by simpa using hy
    subst e
    exact fun z => R.fresh hn (z ▸ hm)
  · by_cases hl : l < st.length
    · rw [List.getElem?_append_left hl] at h2
      rw [List.getElem?_append_left (by rw [R.len]; exact hl)] at h1
      obtain ⟨v, e, _⟩ := (R.obj l b u h1 h2).some
      exact (R.obj l b u h1 h2).ext hx.toPre (by rw [upd_ne (ne_of_none e hn)])
    · rw [List.getElem?_append_right (by omega)] at h2
      have e0 : l - st.length = 0 := by
        obtain ⟨z, _⟩ := List.getElem?_eq_some_iff.mp h2
        simp at z
        omega
      rw [List.getElem?_append_right (by rw [R.len]; omega), R.len, e0] at h1
      rw [e0] at h2
      have e1 : a = b := by simpa using h1
      have e2 : q = u := by simpa using h2
      subst e1 e2
      exact hq
theorem Rep.new {K : PySem.W.Frag} (R : Rel p ρ H st) {a : Addr} {H' : Hp} : Rep K (ρ ++ [a]) H' (.ref a) (.ref st.length) := .ref (by
  rw [← R.len, List.getElem?_append_right (Nat.le_refl _)]; simp)
/-- an object of the store is written -/
theorem Ext.put (ha : a ∈ ρ) (hm : Mut (H a)) (o : HO) : Ext ρ H ρ (upd H a o) where
  pre := fun _ _ h => h
  tups := fun b xs h => by
    rw [upd_ne (fun z => by subst z; rw [h] at hm; exact hm)]
    exact h
  frzs := fun b o u h => by
    rw [upd_ne (fun z => by subst z; rw [h] at hm; exact hm)]
    exact h
  keep := fun b o hb h => by
    rw [upd_ne (fun z => by subst z; exact hb ha)]
    exact h
  new := fun _ h => .inl h
theorem Rel.put (R : Rel p ρ H st) {l : Nat} {a : Addr} {o : HO} {q : O} (hl : ρ[l]? = some a) (hq : ObjR p ρ (upd H a o) a q) : Rel p ρ (upd H a o) (st.set l q) ∧ Ext ρ H ρ (upd H a o) := by
  have ha : a ∈ ρ := List.mem_of_getElem? hl
  obtain ⟨u, e, hm⟩ := R.has ha
  have hx : Ext ρ H ρ (upd H a o) := Ext.put ha (by rw [e]; exact hm) o
  refine ⟨⟨by simp [R.len], R.nd, fun k b u h1 h2 => ?_⟩, hx⟩
  by_cases hk : l = k
  · subst hk
    rw [hl] at h1; cases h1
    have hls : l < st.length := by rw [← R.len]; exact (List.getElem?_eq_some_iff.mp hl).1
    rw [List.getElem?_set_self hls] at h2; cases h2
    exact hq
  · rw [List.getElem?_set_ne hk] at h2
    refine (R.obj k b u h1 h2).ext hx.toPre (upd_ne fun z => hk ?_)
    subst z
    exact (nodup_ix' R.nd hl h1)
where
  nodup_ix' {ρ : List Addr} (hN : ρ.Nodup) {i j : Nat} {x : Addr} (a : ρ[i]? = some x) (b : ρ[j]? = some x) : i = j := by
    obtain ⟨h1, e1⟩ := List.getElem?_eq_some_iff.mp a
    obtain ⟨h2, e2⟩ := List.getElem?_eq_some_iff.mp b
    exact (List.getElem_inj hN).mp (e1.trans e2.symm)
/-- a thing that isn't the store's is written -/
theorem Pre.out {a : Addr} {o : HO} (hm : Mut (H a)) : Pre ρ H ρ (upd H a o) where
  pre := fun _ _ h => h
  tups := fun b xs h => by
    rw [upd_ne (fun z => by subst z; rw [h] at hm; exact hm)]
    exact h
  frzs := fun b o u h => by
    rw [upd_ne (fun z => by subst z; rw [h] at hm; exact hm)]
    exact h
theorem Rel.out (R : Rel p ρ H st) {a : Addr} {o : HO} (ha : a ∉ ρ) (hm : Mut (H a)) : Rel p ρ (upd H a o) st :=
  ⟨R.len, R.nd, fun l b q h1 h2 => (R.obj l b q h1 h2).ext (Pre.out hm) (upd_ne fun z => ha (z ▸ List.mem_of_getElem? h1))⟩
theorem Ext.out {H0 : Hp} {ρ0 : List Addr} {a : Addr} {o : HO} (e : Ext ρ0 H0 ρ H) (ha : H0 a = none) (hm : Mut (H a)) : Ext ρ0 H0 ρ (upd H a o) where
  pre := e.pre
  tups := fun b xs h => (Pre.out (ρ := ρ) hm).tups b xs (e.tups b xs h)
  frzs := fun b o u h => (Pre.out (ρ := ρ) hm).frzs b o u (e.frzs b o u h)
  keep := fun b u hb h => by
    rw [upd_ne (fun z => by subst z; rw [ha] at h; cases h)]
    exact e.keep b u hb h
  new := e.new
/-- a thing that stands already is taken into the store -/
theorem Rel.adopt (R : Rel p ρ H st) {a : Addr} {vs : List V} {ds : List D} (ha : a ∉ ρ) (h : H a = some (.lst vs)) (r : Reps p.K ρ H vs ds) : Rel p (ρ ++ [a]) H (st ++ [.lst ds]) := by
  have hx : Pre ρ H (ρ ++ [a]) H := ⟨fun l b h => by
    rw [List.getElem?_append_left (List.getElem?_eq_some_iff.mp h).1]
    exact h, fun _ _ h => h, fun _ _ _ h => h⟩
  refine ⟨by simp [R.len], ?_, fun l b u h1 h2 => ?_⟩
  · refine List.nodup_append.mpr ⟨R.nd, by simp, fun x hm y hy => ?_⟩
    have e : y = a := by simpa using hy
    subst e
    exact fun z => ha (z ▸ hm)
  · by_cases hl : l < st.length
    · rw [List.getElem?_append_left hl] at h2
      rw [List.getElem?_append_left (by rw [R.len]; exact hl)] at h1
      exact (R.obj l b u h1 h2).ext hx rfl
    · rw [List.getElem?_append_right (by omega)] at h2
      have e0 : l - st.length = 0 := by
        obtain ⟨z, _⟩ := List.getElem?_eq_some_iff.mp h2
        simp at z
        omega
      rw [List.getElem?_append_right (by rw [R.len]; omega), R.len, e0] at h1
      rw [e0] at h2
      have e1 : a = b := by simpa using h1
      have e2 : O.lst ds = u := by simpa using h2
      subst e1 e2
      exact ⟨vs, h, r.kept hx⟩
theorem Ext.adopt {H0 : Hp} {ρ0 : List Addr} {a : Addr} (e : Ext ρ0 H0 ρ H) (ha : H0 a = none) : Ext ρ0 H0 (ρ ++ [a]) H where
  pre := fun l b h => by
    have q := e.pre l b h
    rw [List.getElem?_append_left (List.getElem?_eq_some_iff.mp q).1]
    exact q
  tups := e.tups
  frzs := e.frzs
  keep := e.keep
  new := fun b h => by
    rcases List.mem_append.mp h with h | h
    · exact e.new b h
    · have z : b = a := by simpa using h
      subst z
      exact .inr ha
theorem Rel.addr (R : Rel p ρ H st) {l : Nat} {a b : Addr} (h : ρ[l]? = some a) (h' : ρ[l]? = some b) : a = b := Option.some.inj (h.symm.trans h')
end

/-! ### results -/
/-- an exception's own dict: none, or its fields by their names -/
def ExcD (p : Pm) (ρ : List Addr) (H : Hp) (fs : List D) (dd : Option Addr) : Prop := match dd with
  | none => fs = []
  | some a => ∃ r c, fs = [r, c] ∧ ∃ v u, H a = some (.xd [("row", v), ("column", u)]) ∧ Rep p.K ρ H v r ∧ Rep p.K ρ H u c
/-- what is to hold of a result -/
def Got {α : Type} (p : Pm) (ρ : List Addr) (H : Hp) (r : Res α) (Q : α → Sto → List Addr → Hp → Prop) (W : Value → Option Addr → Hp → Prop) : Prop := match r with
  | .ok a st => ∀ ρ' H', Ext ρ H ρ' H' → Rel p ρ' H' st → Q a st ρ' H'
  | .exc c fs st => ∀ ρ' H' dd, Ext ρ H ρ' H' → Rel p ρ' H' st → ExcD p ρ' H' fs dd → W (p.cv c) dd H'
  | .bad => False
section
variable {α β : Type} {p : Pm} {ρ ρ1 : List Addr} {H H1 : Hp} {W : Value → Option Addr → Hp → Prop}
theorem Got.step {r : Res α} {Q : α → Sto → List Addr → Hp → Prop} (e : Ext ρ H ρ1 H1) (g : Got p ρ H r Q W) : Got p ρ1 H1 r Q W := by
  cases r with
  | ok a st => exact fun ρ' H' e' R => g ρ' H' (e.trans e') R
  | exc c fs st => exact fun ρ' H' dd e' R x => g ρ' H' dd (e.trans e') R x
  | bad => exact g
theorem Got.mono {r : Res α} {Q Q' : α → Sto → List Addr → Hp → Prop} (g : Got p ρ H r Q W) (h : ∀ a st ρ' H', Ext ρ H ρ' H' → Rel p ρ' H' st → Q a st ρ' H' → Q' a st ρ' H') : Got p ρ H r Q' W := by
  cases r with
  | ok a st => exact fun ρ' H' e' R => h a st ρ' H' e' R (g ρ' H' e' R)
  | exc c fs st => exact g
  | bad => exact g
theorem Got.bind {r : Res α} {f : α → Sto → Res β} {Q : β → Sto → List Addr → Hp → Prop} (g : Got p ρ H (r.bind f) Q W) : Got p ρ H r (fun a st ρ1 H1 => Ext ρ H ρ1 H1 ∧ Rel p ρ1 H1 st ∧ Got p ρ1 H1 (f a st) Q W) W := by
  cases r with
  | ok a st => exact fun ρ' H' e' R => ⟨e', R, g.step e'⟩
  | exc c fs st => exact g
  | bad => exact g
theorem Got.here {a : α} {st : Sto} {Q : α → Sto → List Addr → Hp → Prop} (R : Rel p ρ H st) (g : Got p ρ H (.ok a st) Q W) : Q a st ρ H := g ρ H .refl R
theorem Got.of {o : Option α} {st : Sto} {Q : α → Sto → List Addr → Hp → Prop} (R : Rel p ρ H st) (g : Got p ρ H (Res.of o st) Q W) : ∃ a, o = some a ∧ Q a st ρ H := by
  cases o with
  | none => exact g.elim
  | some a => exact ⟨a, rfl, Got.here R g⟩
end
/-- the slots -/
structure EnvR (K : PySem.W.Frag) (ρ : List Addr) (H : Hp) (σ : L2.St) (env : En) : Prop where
  len : σ.length = env.length
  val : ∀ (i : Nat) d, env[i]? = some (some d) → ∃ v, σ[i]? = some (some v) ∧ Rep K ρ H v d
theorem En.val_some {env : En} {i : Nat} {d : D} (h : env.val i = some d) : env[i]? = some (some d) := by
  unfold En.val at h
  cases e : env[i]? with
  | none => rw [e] at h; cases h
  | some o => rw [e] at h; simp at h; rw [h]
section
variable {K : PySem.W.Frag} {ρ ρ1 : List Addr} {H H1 : Hp} {σ : L2.St} {env : En}
theorem EnvR.ext (e : Ext ρ H ρ1 H1) (h : EnvR K ρ H σ env) : EnvR K ρ1 H1 σ env := ⟨h.len, fun i d hd => let ⟨v, a, b⟩ := h.val i d hd; ⟨v, a, b.ext e⟩⟩
theorem EnvR.set (h : EnvR K ρ H σ env) {v : V} {d : D} (r : Rep K ρ H v d) (i : Nat) : EnvR K ρ H (σ.set i (some v)) (env.set i (some d)) := by
  refine ⟨by simp [h.len], fun j e he => ?_⟩
  by_cases hj : i = j
  · subst hj
    by_cases hi : i < env.length
    · rw [List.getElem?_set_self hi] at he
      cases he
      exact ⟨v, List.getElem?_set_self (by rw [h.len]; exact hi), r⟩
    · rw [List.getElem?_eq_none (by simpa using hi)] at he; cases he
  · rw [List.getElem?_set_ne hj] at he
    obtain ⟨u, a, b⟩ := h.val j e he
    exact ⟨u, by rw [List.getElem?_set_ne hj]; exact a, b⟩
theorem EnvR.clr (h : EnvR K ρ H σ env) (i : Nat) : EnvR K ρ H (σ.set i none) (env.set i none) := by
  refine ⟨by simp [h.len], fun j e he => ?_⟩
  by_cases hj : i = j
  · subst hj
    by_cases hi : i < env.length
    · rw [List.getElem?_set_self hi] at he
      cases he
    · rw [List.getElem?_eq_none (by simpa using hi)] at he; cases he
  · rw [List.getElem?_set_ne hj] at he
    obtain ⟨u, a, b⟩ := h.val j e he
    exact ⟨u, by rw [List.getElem?_set_ne hj]; exact a, b⟩
theorem EnvR.wipe (h : EnvR K ρ H σ env) : ∀ vs : List Nat, EnvR K ρ H (L2.wipe σ vs) (Ev.wipe env vs)
  | [] => h
  | v :: vs => (EnvR.wipe h vs).clr v
end
end Ev

/-! The operators: what the evaluator does on data, the model does on what stands for them. -/
namespace Ev
open PySem PySem.Spec PyProof.Rows L2

theorem line_eq : sizeLine = line := by rw [sizeLine_eq]; rfl

/-! ### data -/
section
variable {p : Pm} {ρ : List Addr} {H : Hp} {st : Sto}
theorem dp_ints {K : PySem.W.Frag} : ∀ ns : List Int, DpAll K H (ns.map V.int) (ns.map PyData.int)
  | [] => .nil
  | n :: ns => .cons (.int n) (dp_ints ns)
mutual
theorem toP_dp (R : Rel p ρ H st) : ∀ (n : Nat) (d : D) (x : PyData) (v : V), toP st n d = some x → Rep p.K ρ H v d → Dp p.K H v x
  | n, .non, x, v, h, r => by cases r; simp [toP] at h; subst h; exact .non
  | n, .bl b, x, v, h, r => by cases r; simp [toP] at h; subst h; exact .bl b
  | n, .int i, x, v, h, r => by cases r; simp [toP] at h; subst h; exact .int i
  | n, .str z, x, v, h, r => by cases r; simp [toP] at h; obtain ⟨_, rfl⟩ := h; exact .str z
  | 0, .tup ds, x, v, h, r => by simp [toP] at h
  | n + 1, .tup ds, x, v, h, r => by
    cases r with
    | tup h1 h2 =>
      simp [toP] at h
      obtain ⟨xs, e, rfl⟩ := h
      exact .tup h1 (toPs_dp R n ds xs _ e h2)
  | 0, .ref l, x, v, h, r => by simp [toP] at h
  | n + 1, .ref l, x, v, h, r => by
    cases r with
    | ref hl =>
      rw [toP] at h
      cases e : st[l]? with
      | none => rw [e] at h; cases h
      | some o =>
        rw [e] at h
        cases o with
        | dct kvs => cases h
        | lst ds =>
          simp at h
          obtain ⟨xs, e', rfl⟩ := h
          obtain ⟨vs, h1, h2⟩ := R.obj l _ _ hl e
          exact .lst (SqL.of h1) (toPs_dp R n ds xs _ e' h2)
  | 0, .scr ns, x, v, h, r => by simp [toP] at h
  | n + 1, .scr ns, x, v, h, r => by
    cases r with
    | scr h1 =>
      simp [toP] at h
      subst h
      exact .lst h1.sq (dp_ints ns)
theorem toPs_dp (R : Rel p ρ H st) : ∀ (n : Nat) (ds : List D) (xs : List PyData) (vs : List V), toPs st n ds = some xs → Reps p.K ρ H vs ds → DpAll p.K H vs xs
  | n, [], xs, vs, h, r => by cases r; simp [toPs] at h; subst h; exact .nil
  | n, d :: ds, xs, vs, h, r => by
    cases r with
    | cons r1 r2 =>
      rw [toPs] at h
      cases e1 : toP st n d with
      | none => rw [e1] at h; cases h
      | some x =>
        cases e2 : toPs st n ds with
        | none => rw [e1, e2] at h; cases h
        | some ys =>
          rw [e1, e2] at h
          cases h
          exact .cons (toP_dp R n d x _ e1 r1) (toPs_dp R n ds ys _ e2 r2)
end
mutual
theorem toP_shape : ∀ (n : Nat) (d : D) (x : PyData), toP st n d = some x → x.canLay0 = true ∧ x.depth ≤ n
  | n, .non, x, h => by simp [toP] at h; subst h; simp [PyData.canLay0, PyData.depth]
  | n, .bl b, x, h => by simp [toP] at h; subst h; simp [PyData.canLay0, PyData.depth]
  | n, .int i, x, h => by simp [toP] at h; subst h; simp [PyData.canLay0, PyData.depth]
  | n, .str z, x, h => by simp [toP] at h; obtain ⟨h, rfl⟩ := h; simp [PyData.canLay0, PyData.depth, h]
  | 0, .tup ds, x, h => by simp [toP] at h
  | n + 1, .tup ds, x, h => by
    simp [toP] at h
    obtain ⟨xs, e, rfl⟩ := h
    have q := toPs_shape n ds xs e
    simp [PyData.canLay0, PyData.depth, q]
  | 0, .ref l, x, h => by simp [toP] at h
  | n + 1, .ref l, x, h => by
    rw [toP] at h
    cases e : st[l]? with
    | none => rw [e] at h; cases h
    | some o =>
      rw [e] at h
      cases o with
      | dct kvs => cases h
      | lst ds =>
        simp at h
        obtain ⟨xs, e', rfl⟩ := h
        have q := toPs_shape n ds xs e'
        simp [PyData.canLay0, PyData.depth, q]
  | 0, .scr ns, x, h => by simp [toP] at h
  | n + 1, .scr ns, x, h => by
    simp [toP] at h
    subst h
    have a : PyData.canLayAll0 (ns.map .int) = true := by
      induction ns with
      | nil => rfl
      | cons m ms ih => simp [PyData.canLayAll0, PyData.canLay0, ih]
    have b : PyData.depthAll (ns.map .int) = 0 := PySem.W.depth_ints ns
    simp [PyData.canLay0, PyData.depth, a, b]
theorem toPs_shape : ∀ (n : Nat) (ds : List D) (xs : List PyData), toPs st n ds = some xs → PyData.canLayAll0 xs = true ∧ PyData.depthAll xs ≤ n
  | n, [], xs, h => by simp [toPs] at h; subst h; simp [PyData.canLayAll0, PyData.depthAll]
  | n, d :: ds, xs, h => by
    rw [toPs] at h
    cases e1 : toP st n d with
    | none => rw [e1] at h; cases h
    | some x =>
      cases e2 : toPs st n ds with
      | none => rw [e1, e2] at h; cases h
      | some ys =>
        rw [e1, e2] at h
        cases h
        have q1 := toP_shape n d x e1
        have q2 := toPs_shape n ds ys e2
        simp only [PyData.canLayAll0, PyData.depthAll, q1.1, q2.1, Bool.and_self, true_and]
        omega
end
theorem toP_shaped {d : D} {x : PyData} (h : toP st deep d = some x) : SeqAt.shaped x = true := by
  have q := toP_shape _ _ _ h
  unfold SeqAt.shaped
  rw [q.1, Bool.true_and]
  exact decide_eq_true (Nat.le_trans q.2 (by decide))
/-- the items of what is a sequence -/
theorem seq_rep (R : Rel p ρ H st) {x : D} {xs : List D} {v : V} (h : seqOf st x = some xs) (r : Rep p.K ρ H v x) : ∃ a vs, v = .ref a ∧ Reps p.K ρ H vs xs ∧ (SqL p.K H a vs ∨ SqT p.K H a vs) := by
  cases r with
  | non => cases h
  | bl => cases h
  | int => cases h
  | str => cases h
  | tup h1 h2 => simp [seqOf] at h; subst h; exact ⟨_, _, rfl, h2, .inr h1⟩
  | ref hl =>
    rw [seqOf] at h
    rename_i l a
    cases e : st[l]? with
    | none => rw [e] at h; cases h
    | some o =>
      rw [e] at h
      cases o with
      | dct kvs => cases h
      | lst ds =>
        cases h
        obtain ⟨vs, h1, h2⟩ := R.obj l _ _ hl e
        exact ⟨_, vs, rfl, h2, .inl (SqL.of h1)⟩
  | scr h1 => simp [seqOf] at h; subst h; exact ⟨_, _, rfl, Reps.ints, .inl h1.sq⟩
theorem lis_rep (R : Rel p ρ H st) {x : D} {xs : List D} {v : V} (h : lisOf st x = some xs) (r : Rep p.K ρ H v x) : ∃ a vs, v = .ref a ∧ Reps p.K ρ H vs xs ∧ SqL p.K H a vs := by
  cases r with
  | tup h1 h2 => cases h
  | non => cases h
  | bl => cases h
  | int => cases h
  | str => cases h
  | ref hl =>
    rw [lisOf, seqOf] at h
    · rename_i l a
      cases e : st[l]? with
      | none => rw [e] at h; cases h
      | some o =>
        rw [e] at h
        cases o with
        | dct kvs => cases h
        | lst ds =>
          cases h
          obtain ⟨vs, h1, h2⟩ := R.obj l _ _ hl e
          exact ⟨_, vs, rfl, h2, SqL.of h1⟩
    · intro ds z; cases z
  | scr h1 => simp [lisOf, seqOf] at h; subst h; exact ⟨_, _, rfl, Reps.ints, h1.sq⟩
end

/-! ### operators on data -/
abbrev pm (X : Cx) (cv : Nat → Value) : Pm := ⟨X.prog, X.w, X.K, cv⟩
/-- an operator that the evaluator knows as m -/
def OpD (p : Pm) (m : D → D → Sto → Res D) : R2 := fun x y H Q => ∃ W ρ st d e, Rel p ρ H st ∧ Rep p.K ρ H x d ∧ Rep p.K ρ H y e ∧ Got p ρ H (m d e st) (fun r _ ρ' H' => ∀ v, Rep p.K ρ' H' v r → Q v H') W
section
variable {X : Cx} {cv : Nat → Value} {pins : List (Addr × Obj)} {σ : L2.St} {H : Hp} {s : Shared} {ρ : List Addr} {st : Sto}
/-- a new list -/
theorem new_list (R : Rel (pm X cv) ρ H st) {vs : List V} {ds : List D} {a : Addr} {Q : VK} {W : Value → Option Addr → Hp → Prop} (r : Reps X.K ρ H vs ds) (hn : H a = none) (g : Got (pm X cv) ρ H (new (.lst ds) st) (fun r _ ρ' H' => ∀ v, Rep X.K ρ' H' v r → Q v H') W) : Q (.ref a) (upd H a (.lst vs)) :=
  g _ _ (Ext.laid hn _) (R.laid hn ⟨vs, upd_same, r.ext (Ext.laid hn _)⟩) _ (Rep.new R)
theorem new_listL (R : Rel (pm X cv) ρ H st) {vs : List V} {ds : List D} {a : Addr} {Q : VK} {W : Value → Option Addr → Hp → Prop} (r : Reps X.K ρ H vs ds) (hn : H a = none) (g : Got (pm X cv) ρ H (newL ds st) (fun r _ ρ' H' => ∀ v, Rep X.K ρ' H' v r → Q v H') W) : Q (.ref a) (upd H a (.lst vs)) := by
  unfold newL at g
  split at g
  · exact new_list R r hn g
  · exact g.elim
theorem newL_len {ds : List D} {Q : D → Sto → List Addr → Hp → Prop} {W : Value → Option Addr → Hp → Prop} (g : Got (pm X cv) ρ H (newL ds st) Q W) : ds.length ≤ sizeLine := by
  unfold newL at g
  split at g
  · rw [line_eq]; assumption
  · exact g.elim
/-- list + list, whatever slots the two bear -/
theorem add_any (l : Addr) (xs : Array Value) (n : Nat) (sl : Array (Option Value)) (b : Addr) (ys : Array Value) (m : Nat) (sl2 : Array (Option Value)) (hz : xs.size + ys.size ≤ sizeLine) :
    Meets (Builtin.«list.__add__» ⟨[.ref l, .ref b], []⟩) (fun _ R s => s.heap.get? l = some ⟨.type "list", none, .seq xs n, sl⟩ ∧ s.heap.get? b = some ⟨.type "list", none, .seq ys m, sl2⟩ ∧
      R (.ok (.ret (Value.ref s.heap.objs.size))) { s with heap := s.heap.push { cls := Value.type "list", data := Data.seq (xs ++ ys) }, toks := s.toks }) :=
  .of_wp fun prog w A R s h => by
    obtain ⟨hp, g, d, tk, os⟩ := s
    obtain ⟨hl, hb, h⟩ := h
    have q1 := sub_list_list
    wp_walk using wpAny_loadPart' hl, wpAny_loadPart' hb
    exact ⟨_, rfl, h⟩
theorem cat_lists {a b : Addr} {xs ys : List V} {Q : Value → Shared → Prop} (I : Inv X pins σ H s) (ha : SqL X.K H a xs) (hb : SqL X.K H b ys) (hz : xs.length + ys.length ≤ sizeLine)
    (h : ∀ c s', H c = none → Inv X pins σ (upd H c (.lst (xs ++ ys))) s' → Q (.ref c) s') : wpAny (model X.prog X.w) X.A (binaryOp .Add (.ref a) (.ref b)) Q X.xe s := by
  obtain ⟨its, r, ⟨o, n, e, hc, hd, hdt⟩, _⟩ := I.list ha
  obtain ⟨its2, r2, ⟨o2, n2, e2, hc2, hd2, hdt2⟩, _⟩ := I.list hb
  obtain ⟨cls, dd, data, sl⟩ := o
  obtain ⟨cls2, dd2, data2, sl2⟩ := o2
  simp only at hc hd hdt hc2 hd2 hdt2
  subst hc hd hdt hc2 hd2 hdt2
  have l1 := r.length
  have l2 := r2.length
  have ea : its.toArray ++ its2.toArray = (its ++ its2).toArray := by simp
  refine concat_meets ⟨_, e, rfl⟩ ⟨_, e2, rfl⟩ noFill_list_add seq_list_add F.slot_list_add F.entry_list_add (F.args_list_add_2 _ _)
    (add_any a its.toArray n sl b its2.toArray n2 sl2 (by rw [List.size_toArray, List.size_toArray]; omega)) ⟨e, e2, ?_⟩
  rw [ea]
  exact h _ _ I.fresh (I.lnew (t' := s.toks) (r.append r2) (by rw [List.length_append]; omega))
theorem ints2_some {x y : D} {i j : Int} (h : ints2 x y = some (i, j)) : x = .int i ∧ y = .int j := by
  unfold ints2 at h
  split at h
  · cases h; exact ⟨rfl, rfl⟩
  · cases h
theorem mulOk_ok {i j : Int} (h : mulOk i j = true) : IntMulOk i j := by
  unfold mulOk at h
  rw [Bool.or_eq_true, Bool.or_eq_true] at h
  rcases h with (h | h) | h
  · exact CMul.ok (.inl (of_decide_eq_true h))
  · exact CMul.ok (.inr (of_decide_eq_true h))
  · exact CMulW.ok (of_decide_eq_true (p := i.natAbs.log2 + j.natAbs.log2 < 1000000) h)
theorem Reps.rep {K : PySem.W.Frag} {vs : List V} {ds : List D} (r : Reps K ρ H vs ds) : ∀ n : Nat, Reps K ρ H (List.replicate n vs).flatten (List.replicate n ds).flatten
  | 0 => .nil
  | n + 1 => by
    rw [List.replicate_succ, List.replicate_succ, List.flatten_cons, List.flatten_cons]
    exact r.append (Reps.rep r n)
theorem rep_ok {d e : D} {xs : List D} {x y : V} {v u : Value} {Q : VK} {W : Value → Option Addr → Hp → Prop} (I : Inv X pins σ H s) (R : Rel (pm X cv) ρ H st) (hx : lisOf st d = some xs) (r1 : Rep X.K ρ H x d) (r2 : Rep X.K ρ H y e) (rx : RelV x v) (ry : RelV y u)
    (g : Got (pm X cv) ρ H (repD xs d e st) (fun r _ ρ' H' => ∀ v, Rep X.K ρ' H' v r → Q v H') W) : wpAny (model X.prog X.w) X.A (binaryOp .Mult v u) (EP X pins σ Q) X.xe s := by
  unfold repD at g
  split at g
  · rename_i l n
    split at g
    · rename_i hc
      cases r1 with
      | ref hl =>
        cases r2
        rw [lisOf, seqOf] at hx
        · cases q : st[l]? with
          | none => rw [q] at hx; cases hx
          | some o =>
            rw [q] at hx
            cases o with
            | dct kvs => cases hx
            | lst ds =>
              cases hx
              obtain ⟨vs, h1, h2⟩ := R.obj l _ _ hl q
              refine op_rep pins s σ H _ _ v u Q I rx ry ⟨_, n, vs, rfl, rfl, h1, hc.2.1, hc.2.2, by rw [h2.length, line_eq]; exact hc.1, fun p hp => new_listL R (h2.rep n.toNat) hp g⟩
        · intro ds z; cases z
    · exact g.elim
  · exact g.elim
theorem op_bin (op : Operator) : OpR X (binaryOp op) (OpD (pm X cv) (bin op)) := by
  intro pins s σ H x y v u Q I rx ry h
  obtain ⟨W, ρ, st, d, e, R, r1, r2, g⟩ := h
  unfold bin at g
  cases hi : ints2 d e with
  | some q =>
    obtain ⟨i, j⟩ := q
    rw [hi] at g
    obtain ⟨rfl, rfl⟩ := ints2_some hi
    cases r1
    cases r2
    have fin : ∀ k : Int, Got (pm X cv) ρ H (.ok (.int k) st) (fun r _ ρ' H' => ∀ v, Rep X.K ρ' H' v r → Q v H') W → Q (.int k) H := fun k g => Got.here R g _ (.int k)
    cases op <;> simp only [binI] at g <;> try exact g.elim
    case Add => exact op_add pins s σ H _ _ v u Q I rx ry ⟨i, j, rfl, rfl, fin _ g⟩
    case Sub => exact op_sub pins s σ H _ _ v u Q I rx ry ⟨i, j, rfl, rfl, fin _ g⟩
    case Mult =>
      split at g
      · rename_i hm
        obtain ⟨t, rfl⟩ := rx
        obtain ⟨t', rfl⟩ := ry
        exact mul_int ⟨.int _, H, I.tok _, ⟨_, rfl⟩, fin _ g⟩ (mulOk_ok hm)
      · exact g.elim
    case Mod =>
      split at g
      · rename_i hm
        exact op_mod pins s σ H _ _ v u Q I rx ry ⟨i, j, rfl, rfl, hm, fin _ g⟩
      · exact g.elim
    case Pow =>
      split at g
      · rename_i hm
        exact op_pow pins s σ H _ _ v u Q I rx ry ⟨i, j, rfl, rfl, of_decide_eq_true (p := 0 ≤ j ∧ j ≤ 1000000 ∧ i.natAbs < 2 ^ 64) hm, fin _ g⟩
      · exact g.elim
    case LShift =>
      split at g
      · rename_i hm
        exact op_shl pins s σ H _ _ v u Q I rx ry ⟨i, j, rfl, rfl, of_decide_eq_true (p := 0 ≤ j ∧ j ≤ 1000000 ∧ i.natAbs < 2 ^ 64) hm, fin _ g⟩
      · exact g.elim
    case RShift =>
      split at g
      · rename_i hm
        exact op_shr pins s σ H _ _ v u Q I rx ry ⟨i, j, rfl, rfl, hm, fin _ g⟩
      · exact g.elim
    case BitOr => exact op_or pins s σ H _ _ v u Q I rx ry ⟨i, j, rfl, rfl, fin _ g⟩
    case BitXor => exact op_xor pins s σ H _ _ v u Q I rx ry ⟨i, j, rfl, rfl, fin _ g⟩
    case BitAnd => exact op_and pins s σ H _ _ v u Q I rx ry ⟨i, j, rfl, rfl, fin _ g⟩
    case FloorDiv =>
      split at g
      · rename_i hm
        exact op_fdivW pins s σ H _ _ v u Q I rx ry ⟨i, j, rfl, rfl, of_decide_eq_true (p := 0 < j ∧ j.natAbs.log2 < 9000) hm, fin _ g⟩
      · exact g.elim
  | none =>
    rw [hi] at g
    simp only at g
    split at g
    · rename_i xs ys hx hy
      obtain ⟨a, vs, rfl, q1, sa⟩ := lis_rep R hx r1
      obtain ⟨b, ws, rfl, q2, sb⟩ := lis_rep R hy r2
      cases rx
      cases ry
      have hz := newL_len g
      rw [List.length_append] at hz
      exact cat_lists I sa sb (by rw [q1.length, q2.length]; exact hz) fun c s' hc I' => ⟨.ref c, _, I', rfl, new_listL R (q1.append q2) hc g⟩
    · rename_i xs hx hy
      exact rep_ok I R hx r1 r2 rx ry g
    · exact g.elim
end
end Ev

/-! Dicts whose keys are tuples. -/
namespace Ev
open PySem PySem.Spec PyProof.Rows L2

mutual
theorem toK_inj : ∀ (n m : Nat) (d e : D), inKey n d = true → inKey m e = true → toK d = toK e → d = e
  | n, m, .int i, e, h, h', q => by
    cases e <;> simp [toK] at q
    · rw [q]
    all_goals (cases m <;> simp [inKey] at h')
  | n, m, .str x, e, h, h', q => by
    cases e <;> simp [toK] at q
    · rw [q]
    all_goals (cases m <;> simp [inKey] at h')
  | n, m, .tup ds, e, h, h', q => by
    cases e <;> simp [toK] at q
    case tup es =>
      cases n with
      | zero => simp [inKey] at h
      | succ n =>
        cases m with
        | zero => simp [inKey] at h'
        | succ m =>
          rw [inKey] at h h'
          rw [toKs_inj n m ds es h h' q]
    all_goals (cases m <;> simp [inKey] at h')
  | n, m, .non, e, h, h', q => by cases n <;> simp [inKey] at h
  | n, m, .bl _, e, h, h', q => by cases n <;> simp [inKey] at h
  | n, m, .ref _, e, h, h', q => by cases n <;> simp [inKey] at h
  | n, m, .scr _, e, h, h', q => by cases n <;> simp [inKey] at h
theorem toKs_inj : ∀ (n m : Nat) (ds es : List D), inKeys n ds = true → inKeys m es = true → toKs ds = toKs es → ds = es
  | n, m, [], es, h, h', q => by cases es <;> simp [toKs] at q; rfl
  | n, m, d :: ds, es, h, h', q => by
    cases es with
    | nil => simp [toKs] at q
    | cons e es =>
      simp only [toKs, List.cons.injEq] at q
      rw [inKeys, Bool.and_eq_true] at h h'
      rw [toK_inj n m d e h.1 h'.1 q.1, toKs_inj n m ds es h.2 h'.2 q.2]
end
theorem isKey_in {d : D} (h : isKey d = true) : inKey 8 d = true := by
  cases d <;> simp [isKey] at h
  simpa [inKey] using h
theorem key_inj {d e : D} (h : isKey d = true) (h' : isKey e = true) (q : toK d = toK e) : d = e := toK_inj 8 8 d e (isKey_in h) (isKey_in h') q

section
variable {X : Cx} {cv : Nat → Value} {pins : List (Addr × Obj)} {σ : L2.St} {H : Hp} {s : Shared} {ρ : List Addr} {st : Sto}
mutual
theorem rep_key (I : Inv X pins σ H s) : ∀ (n : Nat) (d : D) (v : V) (u : Value), inKey n d = true → Rep X.K ρ H v d → RelV v u → NestedIs s.heap (toK d) u ∧ (toK d).depth ≤ n
  | n, .int i, v, u, h, r, ru => by
    cases r
    obtain ⟨t, rfl⟩ := ru
    exact ⟨.int i t, by simp [toK, NestedKey.depth]⟩
  | n, .str x, v, u, h, r, ru => by
    cases r
    obtain ⟨t, rfl⟩ := ru
    exact ⟨.text x t, by simp [toK, NestedKey.depth]⟩
  | 0, .tup ds, v, u, h, r, ru => by simp [inKey] at h
  | n + 1, .tup ds, v, u, h, r, ru => by
    cases r with
    | tup h1 h2 =>
      cases ru
      rw [inKey] at h
      obtain ⟨its, rv, ⟨o, e1, e2, m, e3⟩, _⟩ := I.tuple h1
      obtain ⟨q1, q2⟩ := rep_keys I n ds _ its h h2 rv
      refine ⟨.tup e1 e2 e3 (by simpa using q1), ?_⟩
      simp only [toK, NestedKey.depth]
      omega
  | n, .non, v, u, h, r, ru => by cases n <;> simp [inKey] at h
  | n, .bl _, v, u, h, r, ru => by cases n <;> simp [inKey] at h
  | n, .ref _, v, u, h, r, ru => by cases n <;> simp [inKey] at h
  | n, .scr _, v, u, h, r, ru => by cases n <;> simp [inKey] at h
theorem rep_keys (I : Inv X pins σ H s) : ∀ (n : Nat) (ds : List D) (vs : List V) (us : List Value), inKeys n ds = true → Reps X.K ρ H vs ds → Vals vs us → NestedAll s.heap (toKs ds) us ∧ NestedKey.depthAll (toKs ds) ≤ n
  | n, [], vs, us, h, r, ru => by
    cases r
    cases ru
    exact ⟨.nil, by simp [toKs, NestedKey.depthAll]⟩
  | n, d :: ds, vs, us, h, r, ru => by
    cases r with
    | cons r1 r2 =>
      cases ru with
      | cons u1 u2 =>
        rw [inKeys, Bool.and_eq_true] at h
        obtain ⟨a1, a2⟩ := rep_key I n d _ _ h.1 r1 u1
        obtain ⟨b1, b2⟩ := rep_keys I n ds _ _ h.2 r2 u2
        refine ⟨.cons a1 b1, ?_⟩
        simp only [toKs, NestedKey.depthAll]
        omega
end
theorem key_is (I : Inv X pins σ H s) {d : D} {v : V} {u : Value} (h : isKey d = true) (r : Rep X.K ρ H v d) (ru : RelV v u) : ∃ a, v = .ref a ∧ u = .ref a ∧ (nestedKind X.prog X.w).is s.heap (toK d) a := by
  cases d <;> simp [isKey] at h
  cases r with
  | tup h1 h2 =>
    cases ru
    obtain ⟨q1, q2⟩ := rep_key (X := X) I 8 (.tup _) (.ref _) (.ref _) (by simpa [inKey] using h) (.tup h1 h2) rfl
    exact ⟨_, rfl, rfl, q1, q2⟩
/-- a dict of the store, as the library tells it -/
theorem dct_is (I : Inv X pins σ H s) {a : Addr} {kvs : List (D × D)} (h : DctR (pm X cv) ρ H a kvs) :
    ∃ xs, s.heap.DictOfH (nestedKind X.prog X.w) a xs ∧ Paired (EntR (pm X cv) ρ H) kvs xs ∧ (a == sysModules) = false ∧ kvs.length ≤ sizeLine ∧ xs.length = kvs.length := by
  obtain ⟨o, xs, es, ep, h1, h2, h3, h4, h5, h6, h7, h8⟩ := h
  obtain ⟨q, _, _⟩ := I.hok a _ h1
  refine ⟨xs, ⟨o, es, ep, q, h4, h5, h6, fun x hx => ?_, h7⟩, h8, h2, h3, (Paired.length h8).symm⟩
  have key : ∀ {kvs : List (D × D)} {xs : List (NestedKey × Addr × Value)}, Paired (EntR (pm X cv) ρ H) kvs xs → x ∈ xs → (nestedKind X.prog X.w).is s.heap x.1 x.2.1 := by
    intro kvs xs hp
    induction hp with
    | nil => intro h; cases h
    | cons r _ ih =>
      intro h
      rcases List.mem_cons.mp h with rfl | h
      · obtain ⟨k1, k2, k3, _⟩ := r
        obtain ⟨b, e1, e2, e3⟩ := key_is I k1 k3 rfl
        cases e2
        rw [k2]
        exact e3
      · exact ih h
  exact key h8 hx
theorem look {kvs : List (D × D)} {xs : List (NestedKey × Addr × Value)} {k : D} (hk : isKey k = true) (hp : Paired (EntR (pm X cv) ρ H) kvs xs) :
    (dGet kvs k = none ∧ atKey xs (toK k) = none) ∨ ∃ d b u v, dGet kvs k = some d ∧ atKey xs (toK k) = some (b, u) ∧ RelV v u ∧ Rep X.K ρ H v d := by
  induction hp with
  | nil => exact .inl ⟨rfl, rfl⟩
  | cons r _ ih =>
    rename_i kv x kvs xs _
    obtain ⟨k1, k2, k3, v, k4, k5⟩ := r
    by_cases e : kv.1 = k
    · refine .inr ⟨kv.2, x.2.1, x.2.2, v, by simp [dGet, e], by simp [atKey, k2, e], k4, k5⟩
    · have e' : x.1 ≠ toK k := fun z => e (key_inj k1 hk (k2.symm.trans z))
      rcases ih with ⟨a, b⟩ | ⟨d, b, u, w, a1, a2, a3⟩
      · exact .inl ⟨by simpa [dGet, e] using a, by simpa [atKey, e'] using b⟩
      · exact .inr ⟨d, b, u, w, by simpa [dGet, e] using a1, by simpa [atKey, e'] using a2, a3⟩
theorem paired_append {α β : Type} {F : α → β → Prop} : ∀ {l1 l2 : List α} {m1 m2 : List β}, Paired F l1 m1 → Paired F l2 m2 → Paired F (l1 ++ l2) (m1 ++ m2)
  | _, _, _, _, .nil, s => s
  | _, _, _, _, .cons r t, s => .cons r (paired_append t s)
theorem paired_set {kvs : List (D × D)} {xs : List (NestedKey × Addr × Value)} {k d : D} {b : Addr} {u : Value} (hp : Paired (EntR (pm X cv) ρ H) kvs xs) (hn : EntR (pm X cv) ρ H (k, d) (toK k, b, u)) :
    Paired (EntR (pm X cv) ρ H) (dSet kvs k d) (storedH xs (toK k) b u) := by
  have hk : isKey k = true := hn.1
  unfold dSet storedH
  have e : (kvs.any fun q => decide (q.1 = k)) = (atKey xs (toK k)).isSome := by
    rcases look (X := X) hk hp with ⟨a, c⟩ | ⟨d', b', u', v', a, c, _⟩
    · rw [c]
      unfold dGet at a
      rw [Option.map_eq_none_iff, List.find?_eq_none] at a
      simpa using a
    · rw [c]
      unfold dGet at a
      rw [Option.map_eq_some_iff] at a
      obtain ⟨q, a, _⟩ := a
      simp only [Option.isSome_some, List.any_eq_true]
      exact ⟨q, List.mem_of_find?_eq_some a, by have := List.find?_some a; simpa using this⟩
  rw [e]
  clear e
  split
  · rename_i hsome
    clear hsome
    induction hp with
    | nil => exact .nil
    | cons r _ ih =>
      rename_i kv x kvs xs _
      rw [List.map_cons, List.map_cons]
      refine .cons ?_ ih
      obtain ⟨k1, k2, k3, v, k4, k5⟩ := r
      obtain ⟨_, _, _, w, n4, n5⟩ := hn
      by_cases e : kv.1 = k
      · rw [if_pos e]
        unfold putAt
        rw [if_pos (by rw [k2, e])]
        exact ⟨k1, k2, k3, w, n4, n5⟩
      · rw [if_neg e]
        unfold putAt
        rw [if_neg (fun z => e (key_inj k1 hk (k2.symm.trans z)))]
        exact ⟨k1, k2, k3, v, k4, k5⟩
  · exact paired_append hp (.cons hn .nil)
theorem paired_del {kvs : List (D × D)} {xs : List (NestedKey × Addr × Value)} {k : D} (hk : isKey k = true) (hp : Paired (EntR (pm X cv) ρ H) kvs xs) : Paired (EntR (pm X cv) ρ H) (dDel kvs k) (withoutH xs (toK k)) := by
  unfold dDel withoutH
  induction hp with
  | nil => exact .nil
  | cons r _ ih =>
    rename_i kv x kvs xs _
    have k1 := r.1
    have k2 := r.2.1
    by_cases e : kv.1 = k
    · have e' : x.1 = toK k := by rw [k2, e]
      simpa [List.filter_cons, e, e'] using ih
    · have e' : x.1 ≠ toK k := fun z => e (key_inj k1 hk (k2.symm.trans z))
      simp only [List.filter_cons, e, e', ne_eq, not_false_eq_true, decide_true, if_true]
      exact .cons r ih
theorem dSet_length (kvs : List (D × D)) (k v : D) : (dSet kvs k v).length ≤ kvs.length + 1 := by
  unfold dSet
  split <;> simp
theorem dDel_length (kvs : List (D × D)) (k : D) : (dDel kvs k).length ≤ kvs.length := List.length_filter_le _ _
/-- a dict's object known, as the abstract heap has it -/
theorem ext_ok {h : Heap} {a : Addr} {o : Obj} {H : Hp} (e : h.get? a = some o) : ObjOk X.prog X.w H h a (.ext fun h => h.get? a = some o) :=
  ⟨e, ⟨o, e⟩, fun _ _ p k => k o p⟩
/-- behind an operation that changed the dict -/
theorem dct_put (I : Inv X pins σ H s) (R : Rel (pm X cv) ρ H st) {l : Nat} {a : Addr} {h' : Heap} {t' : Nat} {xs' : List (NestedKey × Addr × Value)} {kvs kvs' : List (D × D)} (hl : ρ[l]? = some a) (hd : DctR (pm X cv) ρ H a kvs)
    (hm : h'.DictOfH (nestedKind X.prog X.w) a xs') (hs : Heap.SameBut a s.heap h') (hp : Paired (EntR (pm X cv) ρ H) kvs' xs') (hz : kvs'.length ≤ sizeLine) :
    ∃ H', Inv X pins σ H' { s with heap := h', toks := t' } ∧ Rel (pm X cv) ρ H' (st.set l (.dct kvs')) ∧ Ext ρ H ρ H' := by
  obtain ⟨o, xs, es, ep, h1, h2, _⟩ := hd
  obtain ⟨o', es', ep', q1, q2, q3, q4, q5, q6⟩ := hm
  have ha : a ∈ ρ := List.mem_of_getElem? hl
  have hx : Ext ρ H ρ (upd H a (.ext fun h => h.get? a = some o')) := Ext.put ha (by rw [h1]; trivial) _
  obtain ⟨R', _⟩ := R.put (o := .ext fun h => h.get? a = some o') (q := .dct kvs') hl ⟨o', xs', es', ep', upd_same, h2, hz, q2, q3, q4, q6, Paired.mapP hp fun _ _ z => z.ext hx.toPre⟩
  exact ⟨_, I.write (by rw [h1]; trivial) (.inl rfl) (fun b u hb q => (hs.2 b hb).trans q) ⟨_, q1⟩ (ext_ok q1), R', hx⟩
end
end Ev

/-! Comparisons, isinstance, subscripts, slices, calls of built-ins, methods. -/
namespace Ev
open PySem PySem.Spec PyProof.Rows L2

section
variable {X : Cx} {cv : Nat → Value} {pins : List (Addr × Obj)} {σ : L2.St} {H : Hp} {s : Shared} {ρ : List Addr} {st : Sto}
theorem rep_non {K : PySem.W.Frag} {v : V} {d : D} (r : Rep K ρ H v d) : decide (v = .non) = decide (d = .non) := by
  cases r <;> simp
theorem bool_out {b : Bool} {Q : VK} {W : Value → Option Addr → Hp → Prop} (R : Rel (pm X cv) ρ H st) (g : Got (pm X cv) ρ H (.ok (.bl b) st) (fun r _ ρ' H' => ∀ v, Rep X.K ρ' H' v r → Q v H') W) : Q (.bl b) H := Got.here R g _ (.bl b)
theorem toP_none {n : Nat} {d : D} (h : toP st n d = some .none) : d = .non := by
  cases d with
  | non => rfl
  | tup ds =>
    cases n <;> simp [toP] at h
  | ref l =>
    cases n with
    | zero => simp [toP] at h
    | succ n =>
      rw [toP] at h
      split at h
      · simp at h
      · cases h
  | scr ns => cases n <;> simp [toP] at h
  | bl b => cases n <;> simp [toP] at h
  | int b => cases n <;> simp [toP] at h
  | str b => cases n <;> simp [toP] at h
/-- x < y on data -/
theorem lt_ok (hu : X.A.units + 64 < cLine) {d e : D} {v u : V} {a b : Value} {k : Bool} (I : Inv X pins σ H s) (R : Rel (pm X cv) ρ H st) (h : ltD st d e = some k) (r1 : Rep X.K ρ H v d) (r2 : Rep X.K ρ H u e) (q1 : RelV v a) (q2 : RelV u b) : SeqAt.RcLt X.A s a b k := by
  unfold ltD at h
  split at h
  · rename_i x y hx hy
    split at h
    · rename_i hc
      cases h
      obtain ⟨as, ra⟩ := Dp.reads I x v a (toP_dp R _ _ _ _ hx r1) q1
      obtain ⟨bs, rb⟩ := Dp.reads I y u b (toP_dp R _ _ _ _ hy r2) q2
      have hd := (toP_shape _ _ _ hx).2
      have hm : min x.depth y.depth ≤ x.depth := Nat.min_le_left _ _
      have h12 : deep = 12 := rfl
      refine PySem.W.rcLt_alike x y X.A s a b as bs ra rb hc.1 (fun z => hc.2 ?_) (by omega)
      subst z
      exact toP_none hx
    · cases h
  · cases h
theorem seq_dp (R : Rel (pm X cv) ρ H st) {y : D} {ys : List D} {bs : List PyData} {v : V} (h : seqOf st y = some ys) (hb : toPs st deep ys = some bs) (r : Rep X.K ρ H v y) : Dp X.K H v (.list bs) ∨ Dp X.K H v (.tuple bs) := by
  obtain ⟨a, vs, rfl, q, hs⟩ := seq_rep R h r
  rcases hs with hs | hs
  · exact .inl (.lst hs (toPs_dp R _ _ _ _ hb q))
  · exact .inr (.tup hs (toPs_dp R _ _ _ _ hb q))
theorem room8 (hu : X.A.units + 74 < cLine) : (nestedKind X.prog X.w).room X.A.in1 := by
  show X.A.units + 1 + 8 < cLine
  omega
theorem dct_rep (R : Rel (pm X cv) ρ H st) {y : D} {kvs : List (D × D)} {v : V} (h : dctOf st y = some kvs) (r : Rep X.K ρ H v y) : ∃ l a, y = .ref l ∧ v = .ref a ∧ ρ[l]? = some a ∧ st[l]? = some (.dct kvs) ∧ DctR (pm X cv) ρ H a kvs := by
  cases y with
  | ref l =>
    cases r with
    | ref hl =>
      rw [dctOf] at h
      cases e : st[l]? with
      | none => rw [e] at h; cases h
      | some o =>
        rw [e] at h
        cases o with
        | lst ds => cases h
        | dct kvs' =>
          cases h
          exact ⟨l, _, rfl, rfl, hl, e, R.obj l _ _ hl e⟩
  | _ => cases h
theorem in_ok (hu : X.A.units + 74 < cLine) {d e : D} {v u : V} {a b : Value} {k : Bool} {Q : Value → Shared → Prop} {E : Value → Shared → Prop} (I : Inv X pins σ H s) (R : Rel (pm X cv) ρ H st) (h : inD st d e = some k) (r1 : Rep X.K ρ H v d) (r2 : Rep X.K ρ H u e) (q1 : RelV v a) (q2 : RelV u b)
    (hq : ∀ tk, Q (.bool k) { s with toks := tk }) : wpAny (model X.prog X.w) X.A (compareOp .In a b) Q E s := by
  unfold inD at h
  cases hd : dctOf st e with
  | some kvs =>
    rw [hd] at h
    simp only at h
    split at h
    · rename_i hk
      cases h
      obtain ⟨l, p, rfl, rfl, hl, _, D⟩ := dct_rep R hd r2
      cases q2
      obtain ⟨c, rfl, rfl, ki⟩ := key_is I hk r1 q1
      obtain ⟨xs, hm, hp, hs, _⟩ := dct_is I D
      refine wpAny_in_heap (room8 hu) ki hs hm ?_
      rcases look (X := X) hk hp with ⟨e1, e2⟩ | ⟨d', b', u', v', e1, e2, _⟩
      · rw [e2]
        rw [e1] at hq
        exact hq _
      · rw [e2]
        rw [e1] at hq
        exact hq _
    · cases h
  | none =>
    rw [hd] at h
    simp only at h
    split at h
    · rename_i x bs hx hb
      cases h
      obtain ⟨ys, hy, hb⟩ := Option.bind_eq_some_iff.mp hb
      obtain ⟨as, ra⟩ := Dp.reads I x v a (toP_dp R _ _ _ _ hx r1) q1
      have hr : X.A.units + 1 + min (PyData.depthAll bs) x.depth < cLine := room_in_shaped (toP_shaped hx) (by omega)
      rcases seq_dp R hy hb r2 with w | w
      · obtain ⟨cs, rc⟩ := Dp.reads I _ u b w q2
        exact SeqAt.in_list_reads rc ra (toPs_shape _ _ _ hb).1 (toP_shape _ _ _ hx).1 hr (hq s.toks)
      · obtain ⟨cs, rc⟩ := Dp.reads I _ u b w q2
        exact SeqAt.in_tuple_reads rc ra (toPs_shape _ _ _ hb).1 (toP_shape _ _ _ hx).1 hr (hq s.toks)
    · cases h
theorem notIn_ok (hu : X.A.units + 74 < cLine) {d e : D} {v u : V} {a b : Value} {k : Bool} {Q : Value → Shared → Prop} {E : Value → Shared → Prop} (I : Inv X pins σ H s) (R : Rel (pm X cv) ρ H st) (h : inD st d e = some k) (r1 : Rep X.K ρ H v d) (r2 : Rep X.K ρ H u e) (q1 : RelV v a) (q2 : RelV u b)
    (hq : ∀ tk, Q (.bool (!k)) { s with toks := tk }) : wpAny (model X.prog X.w) X.A (compareOp .NotIn a b) Q E s := by
  unfold inD at h
  cases hd : dctOf st e with
  | some kvs =>
    rw [hd] at h
    simp only at h
    split at h
    · rename_i hk
      cases h
      obtain ⟨l, p, rfl, rfl, hl, _, D⟩ := dct_rep R hd r2
      cases q2
      obtain ⟨c, rfl, rfl, ki⟩ := key_is I hk r1 q1
      obtain ⟨xs, hm, hp, hs, _⟩ := dct_is I D
      show wpAny (model X.prog X.w) X.A (do return Value.bool (!(← contains _ _))) Q E s
      refine wpAny_bind (wpAny_contains_heap (room8 hu) ki hs hm (wpAny_pure ?_))
      rcases look (X := X) hk hp with ⟨e1, e2⟩ | ⟨d', b', u', v', e1, e2, _⟩
      · rw [e2]
        rw [e1] at hq
        exact hq _
      · rw [e2]
        rw [e1] at hq
        exact hq _
    · cases h
  | none =>
    rw [hd] at h
    simp only at h
    split at h
    · rename_i x bs hx hb
      cases h
      obtain ⟨ys, hy, hb⟩ := Option.bind_eq_some_iff.mp hb
      obtain ⟨as, ra⟩ := Dp.reads I x v a (toP_dp R _ _ _ _ hx r1) q1
      have hr : X.A.units + 1 + min (PyData.depthAll bs) x.depth < cLine := room_in_shaped (toP_shaped hx) (by omega)
      rcases seq_dp R hy hb r2 with w | w
      · obtain ⟨cs, rc⟩ := Dp.reads I _ u b w q2
        exact SeqAt.notIn_list_reads rc ra (toPs_shape _ _ _ hb).1 (toP_shape _ _ _ hx).1 hr (hq s.toks)
      · obtain ⟨cs, rc⟩ := Dp.reads I _ u b w q2
        exact SeqAt.notIn_tuple_reads rc ra (toPs_shape _ _ _ hb).1 (toP_shape _ _ _ hx).1 hr (hq s.toks)
    · cases h
/-- every comparison -/
theorem op_cmp (hu : X.A.units + 74 < cLine) (op : CmpOp) : OpR X (compareOp op) (OpD (pm X cv) fun x y st => (Res.of (cmp op x y st) st).bind fun b st => .ok (.bl b) st) := by
  intro pins s σ H x y v u Q I rx ry h
  obtain ⟨W, ρ, st, d, e, R, r1, r2, g⟩ := h
  dsimp only at g
  cases hk : cmp op d e st with
  | none => rw [hk] at g; exact g.elim
  | some k =>
    rw [hk] at g
    have q : Q (.bl k) H := bool_out R g
    cases op with
    | Eq =>
      simp only [cmp, eqD] at hk
      split at hk
      · rename_i a b hx hy
        cases hk
        exact op_eqD (by omega) pins s σ H x y v u Q I rx ry ⟨a, b, toP_dp R _ _ _ _ hx r1, toP_dp R _ _ _ _ hy r2, toP_shaped hx, toP_shaped hy, q⟩
      · cases hk
    | NotEq =>
      simp only [cmp, eqD] at hk
      split at hk
      · rename_i a b hx hy
        cases hk
        exact op_neD (by omega) pins s σ H x y v u Q I rx ry ⟨a, b, toP_dp R _ _ _ _ hx r1, toP_dp R _ _ _ _ hy r2, toP_shaped hx, toP_shaped hy, q⟩
      · cases hk
    | Lt => exact lt_ok (by omega) I R hk r1 r2 rx ry _ _ _ _ ⟨.bl k, H, I, rfl, q⟩
    | In => exact in_ok hu I R hk r1 r2 rx ry fun tk => ⟨.bl k, H, I.tok tk, rfl, q⟩
    | NotIn =>
      simp only [cmp, Option.map_eq_some_iff] at hk
      obtain ⟨k', hk, rfl⟩ := hk
      exact notIn_ok hu I R hk r1 r2 rx ry fun tk => ⟨.bl (!k'), H, I.tok tk, rfl, q⟩
    | Is =>
      simp only [cmp] at hk
      split at hk
      · rename_i hn
        subst hn
        cases hk
        cases r2
        exact op_isN pins s σ H x _ v u Q I rx ry ⟨rfl, by rw [rep_non r1]; exact q⟩
      · cases hk
    | IsNot =>
      simp only [cmp] at hk
      split at hk
      · rename_i hn
        subst hn
        cases hk
        cases r2
        exact op_notN pins s σ H x _ v u Q I rx ry ⟨rfl, by rw [rep_non r1]; exact q⟩
      · cases hk
    | LtE =>
      simp only [cmp, Option.map_eq_some_iff] at hk
      obtain ⟨⟨i, j⟩, hi, rfl⟩ := hk
      obtain ⟨rfl, rfl⟩ := ints2_some hi
      cases r1
      cases r2
      exact op_le pins s σ H _ _ v u Q I rx ry ⟨i, j, rfl, rfl, q⟩
    | Gt =>
      simp only [cmp, Option.map_eq_some_iff] at hk
      obtain ⟨⟨i, j⟩, hi, rfl⟩ := hk
      obtain ⟨rfl, rfl⟩ := ints2_some hi
      cases r1
      cases r2
      exact op_gt pins s σ H _ _ v u Q I rx ry ⟨i, j, rfl, rfl, q⟩
    | GtE =>
      simp only [cmp, Option.map_eq_some_iff] at hk
      obtain ⟨⟨i, j⟩, hi, rfl⟩ := hk
      obtain ⟨rfl, rfl⟩ := ints2_some hi
      cases r1
      cases r2
      exact op_ge pins s σ H _ _ v u Q I rx ry ⟨i, j, rfl, rfl, q⟩
end
end Ev

/-! min(x, y), max(x, y) of data. -/
namespace Ev
open PySem PySem.Spec PyProof.Rows L2 PySem.W
section
variable {prog : Program} {w : World} {A : Around} {E : Value → Shared → Prop} {s : Shared}
theorem two_reads {a b : Value} {x y : PyData} {as bs : List Addr} {h : Heap} (ra : Reads h a x as) (rb : Reads h b y bs) : ReadsAll h [a, b] [x, y] (as ++ (bs ++ [])) := .cons ra (.cons rb .nil)
theorem two_alike {x y : PyData} (h : PySem.W.alike x y = true) (h1 : PySem.W.alike x x = true) (h2 : PySem.W.alike y y = true) (hn : x ≠ .none) : AlikeAll [x, y] := by
  have h' : PySem.W.alike y x = true := by rw [PySem.W.alike_comm]; exact h
  have hn' := PySem.W.ne_none_both h hn
  refine ⟨fun u hu v hv => ?_, fun u hu => ?_⟩
  · simp at hu hv
    rcases hu with rfl | rfl <;> rcases hv with rfl | rfl <;> assumption
  · simp at hu
    rcases hu with rfl | rfl <;> assumption
theorem min_two {a b : Value} {x y : PyData} {as bs : List Addr} {Q : Value → Shared → Prop} (hh : A.handled = none) (ra : Reads s.heap a x as) (rb : Reads s.heap b y bs) (al : AlikeAll [x, y]) (hu : A.units + 2 + PyData.depthAll [x, y] < cLine)
    (h : ∀ h' tk, (∀ c o, s.heap.get? c = some o → h'.get? c = some o) → Q (if PySem.W.dataLt y x = true then b else a) { s with heap := h', toks := tk }) : wpAny (model prog w) A (call (.builtin "min") [a, b]) Q E s := by
  have hname : (toString "min" ++ toString ".loop" : String) = "min.loop" := by decide
  refine call_function_tree F.kind_min F.plain_min F.entry_min (F.args_min2 _ _) ?_
  refine wpAny_bind (m := Builtin.Builtins.bindParams _ _ _ _) (wpAny_of_eq (show Builtin.Builtins.bindParams "min" ["key", "default"] 0 ⟨[], []⟩ = pure [none, none] from rfl) ?_)
  refine wpAny_bind (m := newTuple [a, b]) (wpAny_newObj_type ?_)
  generalize hh1 : s.heap.push { cls := .type "tuple", data := .seq [a, b].toArray } = h1
  have hT : h1.IsTuple s.heap.objs.size #[a, b] := by rw [← hh1]; exact ⟨_, Heap.get?_push_size _ rfl, rfl, 0, rfl⟩
  have k1 : ∀ c o, s.heap.get? c = some o → h1.get? c = some o := fun c o e => by rw [← hh1]; exact Heap.get?_push_of_some _ e
  have z1 : h1.objs.size = s.heap.objs.size + 1 := by rw [← hh1]; exact Heap.size_push ..
  refine wpAny_bind (m := pyIter _) (wpAny_pyIter_tuple hT ?_)
  refine wpAny_bind (m := newList []) (wpAny_newObj_type ?_)
  generalize hh2 : Heap.push h1 _ = h2
  have z2 : h2.objs.size = h1.objs.size + 1 := by rw [← hh2]; exact Heap.size_push ..
  have k2 : ∀ c o, h1.get? c = some o → h2.get? c = some o := fun c o e => by rw [← hh2]; exact Heap.get?_push_of_some _ e
  rw [hname]
  have R1 := two_reads (Reads.keeps k1 ra) (Reads.keeps k1 rb)
  have hne : s.heap.objs.size ≠ h1.objs.size := by rw [z1]; exact Nat.ne_of_lt (Nat.lt_succ_self _)
  have Wk := (Walks.tuple (prog := prog) (w := w) (A := A.in1) hh h1.objs.size s.heap.objs.size hne #[a, b]).toS
  have cm : CmpIn prog w A.in1 .Lt h1 (fun i v => #[a, b][i]? = some v) (fun i j => dataLt ([x, y].getD i .none) ([x, y].getD j .none)) :=
    cmpIn_lt (s := { s with heap := h1 }) (vs := #[a, b]) (by simpa using R1) al (by show A.units + 1 + PyData.depthAll [x, y] < cLine; omega)
  refine wpAny_pure ⟨plainId_quiet F.plain_min_loop _, codeAny_min_loop_firstH Wk h1 (fun c o e hm => ?_) _ cm h2.objs.size (fun hm => ?_) ?_ _ (Nat.zero_lt_succ 1) (fun c o e => Heap.get?_push_of_some _ (k2 c o e)) ?_ (Heap.get?_push_size _ rfl) fun v s' hP hm => ?_⟩
  · have e1 : c = h1.objs.size := by simpa using hm
    exact absurd (Heap.lt_size e) (by rw [e1]; exact Nat.lt_irrefl _)
  · simp only [List.mem_cons, List.not_mem_nil, or_false] at hm
    rcases hm with e1 | e1
    · have e2 : (h2.objs.size : Nat) = h1.objs.size := e1
      omega
    · have e2 : (h2.objs.size : Nat) = s.heap.objs.size := e1
      omega
  · exact Heap.get?_none_of_le (by rw [z2]; exact Nat.le_succ _)
  · refine ⟨?_, ?_⟩
    · refine Heap.IsTupleIter.at (h := h2) ?_ fun o e => Heap.get?_push_of_some _ e
      rw [← hh2]
      exact ⟨_, Heap.get?_push_size _ rfl, rfl, rfl⟩
    · exact hT.at fun o e => Heap.get?_push_of_some _ (k2 _ o e)
  · obtain ⟨hp', g', d', t', o'⟩ := s'
    have eg : g' = s.gens := hm.gens
    have ed : d' = s.drawn := hm.drawn
    have eo : o' = s.os := hm.os
    subst eg ed eo
    have hk : ∀ c o, s.heap.get? c = some o → hp'.get? c = some o := fun c o e => by
      have hc := Heap.lt_size e
      refine hm.heap c o (fun hmm => ?_) (Heap.get?_push_of_some _ (k2 c o (k1 c o e)))
      simp only [List.mem_cons, List.not_mem_nil, or_false] at hmm
      rcases hmm with e1 | e1
      · rw [e1] at hc
        have e2 : (h2.objs.size : Nat) < s.heap.objs.size := hc
        omega
      · rw [e1] at hc
        have e2 : (h1.objs.size : Nat) < s.heap.objs.size := hc
        omega
    have hv : v = if dataLt y x = true then b else a := by
      have hP' : #[a, b][argBest (fun i j => dataLt ([x, y].getD i .none) ([x, y].getD j .none)) 1]? = some v := hP
      by_cases hb : dataLt y x = true
      · have e1 : argBest (fun i j => dataLt ([x, y].getD i .none) ([x, y].getD j .none)) 1 = 1 := by simp [argBest, hb]
        rw [e1] at hP'
        rw [if_pos hb]
        simpa using hP'.symm
      · have e1 : argBest (fun i j => dataLt ([x, y].getD i .none) ([x, y].getD j .none)) 1 = 0 := by simp [argBest, hb]
        rw [e1] at hP'
        rw [if_neg hb]
        simpa using hP'.symm
    rw [hv]
    exact h hp' t' hk
theorem max_two {a b : Value} {x y : PyData} {as bs : List Addr} {Q : Value → Shared → Prop} (hh : A.handled = none) (ra : Reads s.heap a x as) (rb : Reads s.heap b y bs) (al : AlikeAll [x, y]) (hu : A.units + 2 + PyData.depthAll [x, y] < cLine)
    (h : ∀ h' tk, (∀ c o, s.heap.get? c = some o → h'.get? c = some o) → Q (if PySem.W.dataLt x y = true then b else a) { s with heap := h', toks := tk }) : wpAny (model prog w) A (call (.builtin "max") [a, b]) Q E s := by
  have hname : (toString "max" ++ toString ".loop" : String) = "max.loop" := by decide
  refine call_function_tree F.kind_max F.plain_max F.entry_max (F.args_max2 _ _) ?_
  refine wpAny_bind (m := Builtin.Builtins.bindParams _ _ _ _) (wpAny_of_eq (show Builtin.Builtins.bindParams "max" ["key", "default"] 0 ⟨[], []⟩ = pure [none, none] from rfl) ?_)
  refine wpAny_bind (m := newTuple [a, b]) (wpAny_newObj_type ?_)
  generalize hh1 : s.heap.push { cls := .type "tuple", data := .seq [a, b].toArray } = h1
  have hT : h1.IsTuple s.heap.objs.size #[a, b] := by rw [← hh1]; exact ⟨_, Heap.get?_push_size _ rfl, rfl, 0, rfl⟩
  have k1 : ∀ c o, s.heap.get? c = some o → h1.get? c = some o := fun c o e => by rw [← hh1]; exact Heap.get?_push_of_some _ e
  have z1 : h1.objs.size = s.heap.objs.size + 1 := by rw [← hh1]; exact Heap.size_push ..
  refine wpAny_bind (m := pyIter _) (wpAny_pyIter_tuple hT ?_)
  refine wpAny_bind (m := newList []) (wpAny_newObj_type ?_)
  generalize hh2 : Heap.push h1 _ = h2
  have z2 : h2.objs.size = h1.objs.size + 1 := by rw [← hh2]; exact Heap.size_push ..
  have k2 : ∀ c o, h1.get? c = some o → h2.get? c = some o := fun c o e => by rw [← hh2]; exact Heap.get?_push_of_some _ e
  rw [hname]
  have R1 := two_reads (Reads.keeps k1 ra) (Reads.keeps k1 rb)
  have hne : s.heap.objs.size ≠ h1.objs.size := by rw [z1]; exact Nat.ne_of_lt (Nat.lt_succ_self _)
  have Wk := (Walks.tuple (prog := prog) (w := w) (A := A.in1) hh h1.objs.size s.heap.objs.size hne #[a, b]).toS
  have cm : CmpIn prog w A.in1 .Gt h1 (fun i v => #[a, b][i]? = some v) (fun i j => dataLt ([x, y].getD j .none) ([x, y].getD i .none)) :=
    cmpIn_gt (s := { s with heap := h1 }) (vs := #[a, b]) (by simpa using R1) al (by show A.units + 1 + PyData.depthAll [x, y] < cLine; omega)
  refine wpAny_pure ⟨plainId_quiet F.plain_max_loop _, codeAny_max_loop_firstH Wk h1 (fun c o e hm => ?_) _ cm h2.objs.size (fun hm => ?_) ?_ _ (Nat.zero_lt_succ 1) (fun c o e => Heap.get?_push_of_some _ (k2 c o e)) ?_ (Heap.get?_push_size _ rfl) fun v s' hP hm => ?_⟩
  · have e1 : c = h1.objs.size := by simpa using hm
    exact absurd (Heap.lt_size e) (by rw [e1]; exact Nat.lt_irrefl _)
  · simp only [List.mem_cons, List.not_mem_nil, or_false] at hm
    rcases hm with e1 | e1
    · have e2 : (h2.objs.size : Nat) = h1.objs.size := e1
      omega
    · have e2 : (h2.objs.size : Nat) = s.heap.objs.size := e1
      omega
  · exact Heap.get?_none_of_le (by rw [z2]; exact Nat.le_succ _)
  · refine ⟨?_, ?_⟩
    · refine Heap.IsTupleIter.at (h := h2) ?_ fun o e => Heap.get?_push_of_some _ e
      rw [← hh2]
      exact ⟨_, Heap.get?_push_size _ rfl, rfl, rfl⟩
    · exact hT.at fun o e => Heap.get?_push_of_some _ (k2 _ o e)
  · obtain ⟨hp', g', d', t', o'⟩ := s'
    have eg : g' = s.gens := hm.gens
    have ed : d' = s.drawn := hm.drawn
    have eo : o' = s.os := hm.os
    subst eg ed eo
    have hk : ∀ c o, s.heap.get? c = some o → hp'.get? c = some o := fun c o e => by
      have hc := Heap.lt_size e
      refine hm.heap c o (fun hmm => ?_) (Heap.get?_push_of_some _ (k2 c o (k1 c o e)))
      simp only [List.mem_cons, List.not_mem_nil, or_false] at hmm
      rcases hmm with e1 | e1
      · rw [e1] at hc
        have e2 : (h2.objs.size : Nat) < s.heap.objs.size := hc
        omega
      · rw [e1] at hc
        have e2 : (h1.objs.size : Nat) < s.heap.objs.size := hc
        omega
    have hv : v = if dataLt x y = true then b else a := by
      have hP' : #[a, b][argBest (fun i j => dataLt ([x, y].getD j .none) ([x, y].getD i .none)) 1]? = some v := hP
      by_cases hb : dataLt x y = true
      · have e1 : argBest (fun i j => dataLt ([x, y].getD j .none) ([x, y].getD i .none)) 1 = 1 := by simp [argBest, hb]
        rw [e1] at hP'
        rw [if_pos hb]
        simpa using hP'.symm
      · have e1 : argBest (fun i j => dataLt ([x, y].getD j .none) ([x, y].getD i .none)) 1 = 0 := by simp [argBest, hb]
        rw [e1] at hP'
        rw [if_neg hb]
        simpa using hP'.symm
    rw [hv]
    exact h hp' t' hk
end
end Ev

/-! isinstance, subscripts, slices, the built-in functions, methods, stores. -/
namespace Ev
open PySem PySem.Spec PyProof.Rows L2

/-! ### isinstance -/
def tyName : Ty → String
  | .int => "int" | .bool => "bool" | .str => "str" | .list => "list" | .tuple => "tuple"
theorem kit_table (u t : Ty) : kitB (tyName u) (tyName t) = some (decide (u = t) || (decide (u = .bool) && decide (t = .int))) := by
  cases u <;> cases t <;> decide +kernel
theorem kit_none (t : Ty) : kitB "NoneType" (tyName t) = some false := by
  cases t <;> decide +kernel
section
variable {X : Cx} {cv : Nat → Value} {pins : List (Addr × Obj)} {σ : L2.St} {H : Hp} {s : Shared} {ρ : List Addr} {st : Sto}
/-- a call by values, as the evaluator knows it -/
def CalD (p : Pm) (m : List D → Sto → Res D) : List V → Hp → VK → Prop := fun vs H Q => ∃ W ρ st ds, Rel p ρ H st ∧ Reps p.K ρ H vs ds ∧ Got p ρ H (m ds st) (fun r _ ρ' H' => ∀ v, Rep p.K ρ' H' v r → Q v H') W
theorem sqT_ty {K : PySem.W.Frag} {a : Addr} {xs : List V} (h : SqT K H a xs) : TyX K H (.ref a) (.type "tuple") := by
  rcases h with (h | ⟨o, h⟩) | ⟨o, its, n, h1, h2, _⟩
  · exact .base (.tup h)
  · exact .fTuple h
  · exact .kTuple h1 h2
theorem scr_ty {K : PySem.W.Frag} {a : Addr} {xs : List V} (h : Scr K H a xs) : TyX K H (.ref a) (.type "list") := by
  rcases h with ⟨o, h⟩ | ⟨o, its, n, h1, h2, _⟩
  · exact .base (.frz h)
  · exact .kList h1 h2
theorem rep_ty (R : Rel (pm X cv) ρ H st) {v : V} {d : D} {u : Ty} (r : Rep X.K ρ H v d) (h : tyOf st d = some u) : TyX X.K H v (.type (tyName u)) := by
  cases r with
  | non => cases h
  | bl b => cases h; exact .base (.bl b)
  | int b => cases h; exact .base (.int b)
  | str b => cases h; exact .base (.str b)
  | tup h1 _ => cases h; exact sqT_ty h1
  | scr h1 => cases h; exact scr_ty h1
  | ref hl =>
    rename_i l a
    rw [tyOf] at h
    cases e : st[l]? with
    | none => rw [e] at h; cases h
    | some o =>
      rw [e] at h
      cases o with
      | dct kvs => cases h
      | lst ds =>
        cases h
        obtain ⟨vs, h1, _⟩ := R.obj l _ _ hl e
        exact .base (.lst h1)
theorem isi_ok {v : V} {d : D} {t : Ty} {b : Bool} {Q : VK} (I : Inv X pins σ H s) (R : Rel (pm X cv) ρ H st) (r : Rep X.K ρ H v d) (h : isi st d t = some b) {us : List Value} (rv : Vals [v, .ty (tyName t)] us) (q : Q (.bl b) H) :
    wpAny (model X.prog X.w) X.A (call (.builtin "isinstance") us) (EP X pins σ Q) X.xe s := by
  unfold isi at h
  split at h
  · cases h
    cases r
    exact call_isi pins s σ H _ us Q I rv ⟨_, _, _, _, false, rfl, .ty _, .base .non, kit_ty (kit_none t), q⟩
  · obtain ⟨u, hu, e⟩ := Option.map_eq_some_iff.mp h
    rw [← e] at q
    exact call_isi pins s σ H _ us Q I rv ⟨_, _, _, _, _, rfl, .ty _, rep_ty R r hu, kit_ty (kit_table u t), q⟩

/-! ### subscripts -/
theorem place_eq (n : Nat) (i : Int) : place n i = ixN n i := rfl
theorem item_at {vs : List V} {xs : List D} {i : Int} {d : D} (r : Reps X.K ρ H vs xs) (h : item xs i = some d) : ∃ v, atI vs i = some v ∧ Rep X.K ρ H v d := by
  unfold item at h
  obtain ⟨j, hj, hd⟩ := Option.bind_eq_some_iff.mp h
  obtain ⟨v, hv, rv⟩ := r.get hd
  refine ⟨v, ?_, rv⟩
  unfold atI
  rw [r.length, ← place_eq, hj]
  exact hv
theorem ix_ok (hu : X.A.units + 74 < cLine) : IxR X (OpD (pm X cv) fun x y st => Res.of (ixD x y st) st) := by
  intro value slice pins s σ H x y v u Q I rx ry h hs
  obtain ⟨W, ρ, st, d, e, R, r1, r2, g⟩ := h
  dsimp only at g
  obtain ⟨z, hz, q⟩ := Got.of R g
  unfold ixD at hz
  cases hd : dctOf st d with
  | some kvs =>
    rw [hd] at hz
    simp only at hz
    split at hz
    · rename_i hk
      obtain ⟨l, a, rfl, rfl, hl, _, Dd⟩ := dct_rep R hd r1
      cases rx
      obtain ⟨c, rfl, rfl, ki⟩ := key_is I hk r2 ry
      obtain ⟨xs, hm, hp, hsy, _⟩ := dct_is I Dd
      rcases look (X := X) hk hp with ⟨e1, e2⟩ | ⟨d', b', u', v', e1, e2, e3, e4⟩
      · rw [e1] at hz; cases hz
      · rw [e1] at hz
        cases hz
        exact tail_any (ops := [_, _]) hm.typeIs slot_dict_getitem.lookup (wpAny_getItem_heap (room8 hu) ki hm e2 ⟨v', H, I.tok _, e3, q v' e4⟩) hs
    · cases hz
  | none =>
    rw [hd] at hz
    cases r2 with
    | int i =>
      simp only at hz
      cases r1 with
      | str zz =>
        simp only at hz
        split at hz
        · rename_i hl
          obtain ⟨j, hj, hd'⟩ := Option.bind_eq_some_iff.mp hz
          obtain ⟨c, hc, rfl⟩ := Option.map_eq_some_iff.mp hd'
          refine ix_str value slice pins s σ H _ _ v u Q I rx ry ⟨zz, i, c, rfl, rfl, by rw [line_eq]; exact hl, ?_, q _ (.str _)⟩ hs
          unfold atI
          rw [← place_eq, hj]
          exact hc
        · cases hz
      | non => cases hz
      | bl => cases hz
      | int => cases hz
      | tup h1 h2 =>
        simp only [seqOf, Option.bind_some] at hz
        obtain ⟨w, hw, rw'⟩ := item_at h2 hz
        exact ix_tup value slice pins s σ H _ _ v u Q I rx ry ⟨_, _, i, w, rfl, rfl, h1, hw, q w rw'⟩ hs
      | ref hl =>
        obtain ⟨xs, hx, hz⟩ := Option.bind_eq_some_iff.mp hz
        obtain ⟨a, vs, e1, q1, hh⟩ := seq_rep R hx (.ref hl)
        cases e1
        obtain ⟨w, hw, rw'⟩ := item_at q1 hz
        rcases hh with hh | hh
        · exact ix_list value slice pins s σ H _ _ v u Q I rx ry ⟨_, _, i, w, rfl, rfl, hh, hw, q w rw'⟩ hs
        · exact ix_tup value slice pins s σ H _ _ v u Q I rx ry ⟨_, _, i, w, rfl, rfl, hh, hw, q w rw'⟩ hs
      | scr h1 =>
        simp only [seqOf, Option.bind_some] at hz
        obtain ⟨w, hw, rw'⟩ := item_at Reps.ints hz
        exact ix_list value slice pins s σ H _ _ v u Q I rx ry ⟨_, _, i, w, rfl, rfl, h1.sq, hw, q w rw'⟩ hs
    | _ => cases hz
/-! ### slices -/
theorem sIx_eq (n d : Nat) (o : Option Int) : HT.sIx n d o = sIx n d o := by
  cases o with
  | none => rfl
  | some v =>
    have h := HT.clip_eq v n d
    show _ = (if v < 0 then max (v + (n : Int)) 0 else min v (n : Int)).toNat
    rw [h]
    simp
theorem cut_reps {vs : List V} {xs : List D} (r : Reps X.K ρ H vs xs) (lo hi : Option Int) : Reps X.K ρ H (cutV vs lo hi) (cut xs lo hi) := by
  unfold cutV cut
  rw [sIx_eq, sIx_eq, r.length]
  exact (r.drop _).take _
def SlD (p : Pm) : V → Option Int → Option Int → Hp → VK → Prop := fun x lo hi H Q => ∃ W ρ st d, Rel p ρ H st ∧ Rep p.K ρ H x d ∧ Got p ρ H (slD d lo hi st) (fun r _ ρ' H' => ∀ v, Rep p.K ρ' H' v r → Q v H') W
theorem sl_ok : SlR X (SlD (pm X cv)) := by
  intro pins s σ H x v vl vu lo hi sl Q I rx hs pl pu h
  obtain ⟨W, ρ, st, d, R, r, g⟩ := h
  unfold slD at g
  split at g
  · rename_i xs hx
    obtain ⟨a, vs, rfl, q, hl⟩ := lis_rep R hx r
    exact sl_list pins s σ H _ v vl vu lo hi sl Q I rx hs pl pu ⟨a, vs, rfl, hl, fun p hp => new_list R (cut_reps q lo hi) hp g⟩
  · exact g.elim
/-! ### the built-in functions -/
theorem toPs_map : ∀ {n : Nat} {xs : List D} {ps : List PyData}, toPs st n xs = some ps → ps = xs.map fun d => (toP st n d).getD .none
  | n, [], ps, h => by simp [toPs] at h; subst h; rfl
  | n, d :: ds, ps, h => by
    rw [toPs] at h
    cases e1 : toP st n d with
    | none => rw [e1] at h; cases h
    | some x =>
      cases e2 : toPs st n ds with
      | none => rw [e1, e2] at h; cases h
      | some ys =>
        rw [e1, e2] at h
        cases h
        rw [List.map_cons, e1, ← toPs_map e2]
        rfl
theorem toPs_each {n : Nat} {xs : List D} {ps : List PyData} (h : toPs st n xs = some ps) : ∀ d ∈ xs, ∃ x, toP st n d = some x := by
  induction xs generalizing ps with
  | nil => intro d hd; cases hd
  | cons c ds ih =>
    rw [toPs] at h
    cases e1 : toP st n c with
    | none => rw [e1] at h; cases h
    | some x =>
      cases e2 : toPs st n ds with
      | none => rw [e1, e2] at h; cases h
      | some ys =>
        intro d hd
        rcases List.mem_cons.mp hd with rfl | hd
        · exact ⟨x, e1⟩
        · exact ih e2 d hd
theorem allAlike_ok {ps : List PyData} (h : allAlike ps = true) : PySem.W.AllAlike ps := fun d hd e he => by
  unfold allAlike at h
  exact List.all_eq_true.mp (List.all_eq_true.mp h d hd) e he
theorem sortable_ok {ps : List PyData} (h : sortable ps = true) : PySem.W.Sortable ps := by
  unfold sortable at h
  rw [Bool.or_eq_true] at h
  rcases h with h | h
  · refine .inl fun d hd => ?_
    have q := List.all_eq_true.mp h d hd
    split at q
    · exact ⟨_, _, rfl⟩
    · cases q
  · refine .inr fun d hd => ?_
    have q := List.all_eq_true.mp h d hd
    split at q
    · cases q
    · cases q
    · rename_i h1 h2
      exact ⟨h1, h2⟩
/-- a value of the machine for a datum -/
def Val (K : PySem.W.Frag) (ρ : List Addr) (H : Hp) (u : Value) (d : D) : Prop := ∃ v, RelV v u ∧ Rep K ρ H v d
theorem each_of : ∀ {vs : List V} {us : List Value} {ds : List D}, Vals vs us → Reps X.K ρ H vs ds → PySem.W.EachIs (Val X.K ρ H) us ds
  | _, _, _, .nil, .nil => .nil
  | _, _, _, .cons u1 u2, .cons r1 r2 => .cons ⟨_, u1, r1⟩ (each_of u2 r2)
theorem of_each : ∀ {us : List Value} {ds : List D}, PySem.W.EachIs (Val X.K ρ H) us ds → ∃ vs, Vals vs us ∧ Reps X.K ρ H vs ds
  | _, _, .nil => ⟨[], .nil, .nil⟩
  | _, _, .cons ⟨v, a, b⟩ t => by
    obtain ⟨vs, h1, h2⟩ := of_each t
    exact ⟨v :: vs, .cons a h1, .cons b h2⟩
theorem each_reads (I : Inv X pins σ H s) (R : Rel (pm X cv) ρ H st) : ∀ {us : List Value} {ds : List D}, PySem.W.EachIs (Val X.K ρ H) us ds → (∀ d ∈ ds, ∃ x, toP st deep d = some x) →
    PySem.W.EachIs (fun v b => ∃ as, Reads s.heap v ((toP st deep b).getD .none) as) us ds
  | _, _, .nil, _ => .nil
  | _, _, .cons ⟨v, a, b⟩ t, h => by
    refine .cons ?_ (each_reads I R t fun d hd => h d (List.mem_cons_of_mem _ hd))
    obtain ⟨x, hx⟩ := h _ List.mem_cons_self
    rw [hx]
    exact Dp.reads I x v _ (toP_dp R _ _ _ _ hx b) a
theorem enc_depth {xs : List D} (h : ∀ d ∈ xs, ∃ x, toP st deep d = some x) : ∀ d ∈ xs, ((toP st deep d).getD .none).depth ≤ 12 := fun d hd => by
  obtain ⟨x, hx⟩ := h d hd
  rw [hx]
  exact (toP_shape _ _ _ hx).2
theorem mergeSort_len (f : D → D → Bool) (xs : List D) : (xs.mergeSort f).length = xs.length := List.length_mergeSort ..
theorem sorted_list (hu : X.A.units + 74 < cLine) {a : Addr} {vs : List V} {xs ys : List D} {Q : VK} (I : Inv X pins σ H s) (R : Rel (pm X cv) ρ H st) (r : Reps X.K ρ H vs xs) (hl : SqL X.K H a vs) (hz : xs.length ≤ sizeLine)
    (hy : sortD st xs = some ys) (q : ∀ b ws, H b = none → Reps X.K ρ H ws ys → Q (.ref b) (upd H b (.lst ws))) : wpAny (model X.prog X.w) X.A (call (.builtin "sorted") [.ref a]) (EP X pins σ Q) X.xe s := by
  unfold sortD at hy
  split at hy
  · rename_i ps hps
    split at hy
    · rename_i hc
      cases hy
      rw [Bool.and_eq_true] at hc
      obtain ⟨its, rv, pl, _⟩ := I.list hl
      have em := toPs_map hps
      have he := toPs_each hps
      have ea := each_of rv r
      refine PySem.W.sorted_data (R := Val X.K ρ H) (enc := fun d => (toP st deep d).getD .none) pl.isList ea (each_reads I R ea he) (by rw [← em]; exact allAlike_ok hc.1) (by rw [← em]; exact sortable_ok hc.2) hz
        (fun b hb => by have := enc_depth he b hb; omega) fun out ho eo => ?_
      obtain ⟨ws, w1, w2⟩ := of_each eo
      obtain ⟨e, hat⟩ := sortedAll_at s.heap its out.toArray
      have lw : ws.length ≤ sizeLine := by rw [w2.length, mergeSort_len]; exact hz
      have hfr : H (s.heap.objs.size + 1) = none := I.hok.fresh (Nat.le_succ _)
      exact ⟨.ref (s.heap.objs.size + 1), _, I.laid (o := .lst ws) (t' := s.toks) (fun b u e => sortedAll_old e) (Nat.le_succ _) ⟨lw, out, e, w1, hat⟩, rfl, q _ ws hfr w2⟩
    · cases hy
  · cases hy
mutual
theorem reads_lt {h : Heap} : ∀ (d : PyData) (v : Value) (as : List Addr), PyData.canLay0 d = true → Reads h v d as → ∀ b ∈ as, b < h.objs.size
  | .none, _, _, _, r, b, hb => by cases r; cases hb
  | .bool _, _, _, _, r, b, hb => by cases r; cases hb
  | .int _, _, _, _, r, b, hb => by cases r; cases hb
  | .str _, _, _, _, r, b, hb => by cases r; cases hb
  | .list xs, _, _, hc, r, b, hb => by
    cases r with
    | list h1 h2 h3 h4 =>
      rcases List.mem_cons.mp hb with rfl | hb
      · exact Heap.lt_size h1
      · exact readsAll_lt xs _ _ (by simpa [PyData.canLay0] using hc) h4 b hb
  | .tuple xs, _, _, hc, r, b, hb => by
    cases r with
    | tuple h1 h2 h3 h4 => exact readsAll_lt xs _ _ (by simpa [PyData.canLay0] using hc) h4 b hb
  | .dict _, _, _, hc, r, b, hb => by simp [PyData.canLay0] at hc
theorem readsAll_lt {h : Heap} : ∀ (ds : List PyData) (vs : List Value) (as : List Addr), PyData.canLayAll0 ds = true → ReadsAll h vs ds as → ∀ b ∈ as, b < h.objs.size
  | [], _, _, _, r, b, hb => by cases r; cases hb
  | d :: ds, _, _, hc, r, b, hb => by
    cases r with
    | cons r1 r2 =>
      simp only [PyData.canLayAll0, Bool.and_eq_true] at hc
      rcases List.mem_append.mp hb with hb | hb
      · exact reads_lt d _ _ hc.1 r1 b hb
      · exact readsAll_lt ds _ _ hc.2 r2 b hb
end
/-- a dict's keys, one by one -/
theorem keys_each {kvs : List (D × D)} {xs : List (NestedKey × Addr × Value)} (hp : Paired (EntR (pm X cv) ρ H) kvs xs) : PySem.W.EachIs (Val X.K ρ H) (xs.map fun x => Value.ref x.2.1) (kvs.map (·.1)) := by
  induction hp with
  | nil => exact .nil
  | cons r _ ih => exact .cons ⟨V.ref _, rfl, r.2.2.1⟩ ih
theorem keys_of {es : Array DictEntry} {xs : List (NestedKey × Addr × Value)} {acc : Array Value} (he : es.toList = xs.map (entryOfKey (nestedKind X.prog X.w))) (hn : acc.size = es.size)
    (ha : ∀ (j : Nat) v, acc[j]? = some v → ∃ hi : j < es.size, v = es[j].key) : acc.toList = xs.map fun x => Value.ref x.2.1 := by
  have hl : es.size = xs.length := size_of_entries he
  apply List.ext_getElem?
  intro j
  rw [Array.getElem?_toList, List.getElem?_map]
  by_cases hj : j < xs.length
  · have hja : j < acc.size := by omega
    have h1 : acc[j]? = some acc[j] := by simp [hja]
    obtain ⟨hi, hv⟩ := ha j _ h1
    have h2 : es[j]? = some es[j] := by simp [hi]
    rw [entry_at he j, List.getElem?_eq_getElem hj] at h2
    have h3 : entryOfKey (nestedKind X.prog X.w) xs[j] = es[j] := Option.some.inj h2
    rw [h1, hv, ← h3, List.getElem?_eq_getElem hj]
    rfl
  · rw [List.getElem?_eq_none (by omega)]
    simp only [Option.map_none]
    exact Array.getElem?_eq_none (by omega)
theorem sorted_dict (hc : X.calm = true) (hu : X.A.units + 74 < cLine) {a : Addr} {kvs : List (D × D)} {ys : List D} {Q : VK} (I : Inv X pins σ H s) (R : Rel (pm X cv) ρ H st) (Dd : DctR (pm X cv) ρ H a kvs)
    (hy : sortD st (kvs.map (·.1)) = some ys) (q : ∀ b ws, H b = none → Reps X.K ρ H ws ys → Q (.ref b) (upd H b (.lst ws))) : wpAny (model X.prog X.w) X.A (call (.builtin "sorted") [.ref a]) (EP X pins σ Q) X.xe s := by
  unfold sortD at hy
  split at hy
  · rename_i ps hps
    split at hy
    · rename_i hca
      cases hy
      rw [Bool.and_eq_true] at hca
      obtain ⟨o, xs, es, ep, h1, h2, h3, h4, h5, h6, h7, h8⟩ := id Dd
      have hraw : s.heap.DictRaw a es ep := ⟨o, (I.hok a _ h1).1, h4, h5⟩
      have hl : es.size = xs.length := size_of_entries h6
      have hlk : kvs.length = xs.length := Paired.length h8
      refine Calls.call_function_entry kind_sorted plain_sorted entry_sorted (args_sorted1 _) ?_
      unfold Builtin.«sorted»
      refine wpAny_bind (m := checkCount "sorted" 1 1 _) (wpAny_pure ?_)
      refine wpAny_bind (PySem.W.kdu_collect (A := X.A.in1) (KdlSrc.rawDict (es := es) (ep := ep) h2) (I.ok.hd hc) hraw (by omega) fun h' tk acc hk hacc => ?_)
      have hv : acc.toList = xs.map fun x => Value.ref x.2.1 := keys_of h6 hacc.1 hacc.2
      have hal : acc.toList.length ≤ sizeLine := by rw [hv, List.length_map]; omega
      have I1 : Inv X pins σ H { s with heap := h', toks := tk } := I.kept hk
      refine wpAny_bind (wpAny_newList ?_ hal)
      have hoL : (h'.push (seqObj "list" acc.toList.toArray 0)).get? h'.objs.size = some (seqObj "list" acc.toList.toArray 0) := Heap.get?_push_size _ rfl
      have em := toPs_map hps
      have he := toPs_each hps
      have ea : PySem.W.EachIs (Val X.K ρ H) acc.toList (kvs.map (·.1)) := by rw [hv]; exact keys_each h8
      have I2 : Inv X pins σ H { s with heap := h'.push (seqObj "list" acc.toList.toArray 0), toks := tk } := I1.kept (t' := tk) fun b u e => Heap.get?_push_of_some _ e
      have er : PySem.W.EachIs (fun v b => ∃ as, Reads h' v ((toP st deep b).getD .none) as ∧ ((toP st deep b).getD .none).canLay0 = true) acc.toList (kvs.map (·.1)) :=
        (PySem.W.each_mem (each_reads I1 R ea he)).mono fun v b ⟨⟨as, rr⟩, hb⟩ => ⟨as, rr, by
          obtain ⟨x, hx⟩ := he b hb
          rw [hx]
          exact (toP_shape _ _ _ hx).1⟩
      have er2 : PySem.W.EachIs (fun v b => ∃ as, Reads (h'.push (seqObj "list" acc.toList.toArray 0)) v ((toP st deep b).getD .none) as ∧ h'.objs.size ∉ as) acc.toList (kvs.map (·.1)) :=
        er.mono fun v b ⟨as, rr, hc0⟩ => ⟨as, Reads.keeps (fun _ _ e => Heap.get?_push_of_some _ e) rr, fun hm => Nat.lt_irrefl _ (reads_lt _ _ _ hc0 rr _ hm)⟩
      · refine wpAny_bind (wpAny_holding ?_)
        refine PySem.W.list_sort_data (s := { s with heap := h'.push (seqObj "list" acc.toList.toArray 0), toks := tk }) (A := X.A.in1) (R := Val X.K ρ H) (enc := fun d => (toP st deep d).getD .none) hoL ea er2 (by rw [← em]; exact allAlike_ok hca.1) (by rw [← em]; exact sortable_ok hca.2) (by rw [List.length_map]; exact h3)
          (fun b hb => ?_) fun out ho eo => wpAny_pure ?_
        · have := enc_depth he b hb
          show X.A.units + 1 + 1 + _ < cLine
          omega
        · obtain ⟨ws, w1, w2⟩ := of_each eo
          obtain ⟨e, hat⟩ := sortedHeap_at (vs := acc.toList) (out := out.toArray) hoL
          have lw : ws.length ≤ sizeLine := by rw [w2.length, mergeSort_len, List.length_map]; exact h3
          have hfr : H h'.objs.size = none := I1.hok.fresh (Nat.le_refl _)
          refine ⟨_, rfl, .ref h'.objs.size, _, I1.laid (o := .lst ws) (t' := tk) (fun b u e => ?_) (Nat.le_refl _) ⟨lw, out, e, w1, hat⟩, rfl, q _ ws hfr w2⟩
          have hb : b < h'.objs.size := Heap.lt_size e
          rw [sortedHeap_old (Nat.ne_of_lt hb) (by rw [size_push']; exact Nat.lt_succ_of_lt hb)]
          exact Heap.get?_push_of_some _ e
    · cases hy
  · cases hy
end
end Ev

/-! The built-in functions by their names, methods, stores. -/
namespace Ev
open PySem PySem.Spec PyProof.Rows L2

def biVal : Bi → Value
  | .len => .builtin "len" | .abs => .builtin "abs" | .min1 => .builtin "min" | .max1 => .builtin "max" | .min2 => .builtin "min" | .max2 => .builtin "max"
  | .int => .type "int" | .sorted => .builtin "sorted" | .list => .type "list" | .tuple => .type "tuple" | .sum => .builtin "sum" | .divmod => .builtin "divmod"
section
variable {X : Cx} {cv : Nat → Value} {pins : List (Addr × Obj)} {σ : L2.St} {H : Hp} {s : Shared} {ρ : List Addr} {st : Sto}
theorem reps1 {vs : List V} {d : D} (r : Reps X.K ρ H vs [d]) : ∃ v, vs = [v] ∧ Rep X.K ρ H v d := by
  cases r with
  | cons a b => cases b; exact ⟨_, rfl, a⟩
theorem reps2 {vs : List V} {d e : D} (r : Reps X.K ρ H vs [d, e]) : ∃ v u, vs = [v, u] ∧ Rep X.K ρ H v d ∧ Rep X.K ρ H u e := by
  cases r with
  | cons a b =>
    cases b with
    | cons c d => cases d; exact ⟨_, _, rfl, a, c⟩
theorem reps_ints : ∀ {vs : List V} {ds : List D} {ns : List Int}, Reps X.K ρ H vs ds → intsOf ds = some ns → vs = ns.map V.int
  | _, _, ns, .nil, h => by simp [intsOf] at h; subst h; rfl
  | _, _, ns, .cons r t, h => by
    cases r with
    | int i =>
      simp only [intsOf, Option.map_eq_some_iff] at h
      obtain ⟨ms, hm, rfl⟩ := h
      rw [List.map_cons, reps_ints t hm]
    | _ => simp [intsOf] at h
theorem foldl_min_le (x : Int) : ∀ (r : List Int) , (r.foldl min x) ≤ x ∧ (∀ y ∈ r, r.foldl min x ≤ y) ∧ (r.foldl min x = x ∨ r.foldl min x ∈ r) := by
  intro r
  induction r generalizing x with
  | nil => simp
  | cons y r ih =>
    obtain ⟨a, b, c⟩ := ih (min x y)
    rw [List.foldl_cons]
    refine ⟨by omega, fun z hz => ?_, ?_⟩
    · rcases List.mem_cons.mp hz with rfl | hz
      · omega
      · exact b z hz
    · rcases c with c | c
      · by_cases h : x ≤ y
        · left; omega
        · right; rw [c, show min x y = y by omega]; exact List.mem_cons_self
      · right; exact List.mem_cons_of_mem _ c
theorem foldl_max_le (x : Int) : ∀ (r : List Int) , x ≤ (r.foldl max x) ∧ (∀ y ∈ r, y ≤ r.foldl max x) ∧ (r.foldl max x = x ∨ r.foldl max x ∈ r) := by
  intro r
  induction r generalizing x with
  | nil => simp
  | cons y r ih =>
    obtain ⟨a, b, c⟩ := ih (max x y)
    rw [List.foldl_cons]
    refine ⟨by omega, fun z hz => ?_, ?_⟩
    · rcases List.mem_cons.mp hz with rfl | hz
      · omega
      · exact b z hz
    · rcases c with c | c
      · by_cases h : y ≤ x
        · left; omega
        · right; rw [c, show max x y = y by omega]; exact List.mem_cons_self
      · right; exact List.mem_cons_of_mem _ c
theorem least_is {ns : List Int} {m k : Int} (h : least ns = some m) (hk : k ∈ ns) (hl : ∀ y ∈ ns, k ≤ y) : k = m := by
  cases ns with
  | nil => cases h
  | cons x r =>
    simp only [least, Option.some.injEq] at h
    obtain ⟨a, b, c⟩ := foldl_min_le x r
    rw [h] at a b c
    have h1 : k ≤ m := by
      rcases c with c | c
      · rw [c]; exact hl x List.mem_cons_self
      · exact hl m (List.mem_cons_of_mem _ c)
    have h2 : m ≤ k := by
      rcases List.mem_cons.mp hk with rfl | hk
      · exact a
      · exact b k hk
    omega
theorem most_is {ns : List Int} {m k : Int} (h : most ns = some m) (hk : k ∈ ns) (hl : ∀ y ∈ ns, y ≤ k) : k = m := by
  cases ns with
  | nil => cases h
  | cons x r =>
    simp only [most, Option.some.injEq] at h
    obtain ⟨a, b, c⟩ := foldl_max_le x r
    rw [h] at a b c
    have h1 : m ≤ k := by
      rcases c with c | c
      · rw [c]; exact hl x List.mem_cons_self
      · exact hl m (List.mem_cons_of_mem _ c)
    have h2 : k ≤ m := by
      rcases List.mem_cons.mp hk with rfl | hk
      · exact a
      · exact b k hk
    omega
theorem len_dict (hu : X.A.units + 74 < cLine) {a : Addr} {kvs : List (D × D)} {Q : VK} (I : Inv X pins σ H s) (Dd : DctR (pm X cv) ρ H a kvs) (q : Q (.int kvs.length) H) : wpAny (model X.prog X.w) X.A (call (.builtin "len") [.ref a]) (EP X pins σ Q) X.xe s := by
  obtain ⟨xs, hm, hp, hs, hz, hl⟩ := dct_is I Dd
  have hk : s.heap.DictKeyed (nestedKind X.prog X.w) a (pairsH xs) := ⟨xs, hm, rfl⟩
  have hn : (pairsH xs).length = kvs.length := by rw [pairsH_length, hl]
  have h63 : sizeLine < 2 ^ 63 := line63
  refine PyProof.Rows.call_len_slot (n := (kvs.length : Int)) hk.typeIs F.slot_dict_len (fun Q' hq => len_keyed (A := X.A.in1) hs hk ?_) (by omega) (by omega) ?_
  · rw [hn]; exact hq
  · exact ⟨.int _, H, I.tok _, ⟨_, rfl⟩, q⟩
mutual
theorem alike_lay : ∀ d : PyData, d.canLay0 = true → PySem.W.alike d d = true
  | .none, _ => by simp [PySem.W.alike]
  | .bool _, _ => by simp [PySem.W.alike]
  | .int _, _ => by simp [PySem.W.alike]
  | .str _, _ => by simp [PySem.W.alike]
  | .list xs, h => by
    rw [PySem.W.alike]
    exact alikeAll_lay xs (by simpa [PyData.canLay0] using h)
  | .tuple xs, h => by
    rw [PySem.W.alike]
    exact alikeAll_lay xs (by simpa [PyData.canLay0] using h)
  | .dict _, h => by simp [PyData.canLay0] at h
theorem alikeAll_lay : ∀ ds : List PyData, PyData.canLayAll0 ds = true → PySem.W.alikeAll ds ds = true
  | [], _ => by simp [PySem.W.alikeAll]
  | d :: ds, h => by
    simp only [PyData.canLayAll0, Bool.and_eq_true] at h
    rw [PySem.W.alikeAll, alike_lay d h.1, alikeAll_lay ds h.2]
    rfl
end
theorem alike_self {d : D} {x : PyData} (h : toP st deep d = some x) : PySem.W.alike x x = true := alike_lay x (toP_shape _ _ _ h).1
/-- lists and tuples that min and max take -/
theorem min_data (hc : X.calm = true) (hu : X.A.units + 74 < cLine) {x y : D} {v u : V} {b : Bool} {Q : VK} {us : List Value} (I : Inv X pins σ H s) (R : Rel (pm X cv) ρ H st) (r1 : Rep X.K ρ H v x) (r2 : Rep X.K ρ H u y) (rv : Vals [v, u] us)
    (h : ltD st y x = some b) (q : Q (if b = true then u else v) H) : wpAny (model X.prog X.w) X.A (call (.builtin "min") us) (EP X pins σ Q) X.xe s := by
  obtain ⟨a, c, rfl, ra, rc⟩ := vals2 rv
  unfold ltD at h
  split at h
  · rename_i dy dx hy hx
    split at h
    · rename_i hal
      cases h
      obtain ⟨as, q1⟩ := Dp.reads I dx v a (toP_dp R _ _ _ _ hx r1) ra
      obtain ⟨bs, q2⟩ := Dp.reads I dy u c (toP_dp R _ _ _ _ hy r2) rc
      have e1 := (toP_shape _ _ _ hx).2
      have e2 := (toP_shape _ _ _ hy).2
      have e3 : deep = 12 := rfl
      have al := PySem.W.alike_comm dx dy ▸ hal.1
      have hnx : dx ≠ .none := fun z => by
        have : dy ≠ .none := fun z => hal.2 (toP_none (by rw [hy, z]))
        exact PySem.W.ne_none_both hal.1 this z
      refine min_two (I.ok.hd hc) q1 q2 (two_alike al (alike_self hx) (alike_self hy) hnx) (by simp only [PyData.depthAll]; omega) fun h' tk hk => ⟨_, H, I.kept hk, ?_, q⟩
      split <;> assumption
    · cases h
  · cases h
theorem max_data (hc : X.calm = true) (hu : X.A.units + 74 < cLine) {x y : D} {v u : V} {b : Bool} {Q : VK} {us : List Value} (I : Inv X pins σ H s) (R : Rel (pm X cv) ρ H st) (r1 : Rep X.K ρ H v x) (r2 : Rep X.K ρ H u y) (rv : Vals [v, u] us)
    (h : ltD st x y = some b) (q : Q (if b = true then u else v) H) : wpAny (model X.prog X.w) X.A (call (.builtin "max") us) (EP X pins σ Q) X.xe s := by
  obtain ⟨a, c, rfl, ra, rc⟩ := vals2 rv
  unfold ltD at h
  split at h
  · rename_i dx dy hx hy
    split at h
    · rename_i hal
      cases h
      obtain ⟨as, q1⟩ := Dp.reads I dx v a (toP_dp R _ _ _ _ hx r1) ra
      obtain ⟨bs, q2⟩ := Dp.reads I dy u c (toP_dp R _ _ _ _ hy r2) rc
      have e1 := (toP_shape _ _ _ hx).2
      have e2 := (toP_shape _ _ _ hy).2
      have e3 : deep = 12 := rfl
      have al := hal.1
      have hnx : dx ≠ .none := fun z => hal.2 (toP_none (by rw [hx, z]))
      refine max_two (I.ok.hd hc) q1 q2 (two_alike al (alike_self hx) (alike_self hy) hnx) (by simp only [PyData.depthAll]; omega) fun h' tk hk => ⟨_, H, I.kept hk, ?_, q⟩
      split <;> assumption
    · cases h
  · cases h
theorem sortD_len {xs ys : List D} (h : sortD st xs = some ys) : ys.length = xs.length := by
  unfold sortD at h
  split at h
  · split at h
    · cases h
      exact mergeSort_len _ _
    · cases h
  · cases h
theorem bi_ok (hc : X.calm = true) (hu : X.A.units + 74 < cLine) (f : Bi) : CallR X (biVal f) (CalD (pm X cv) (bi f)) := by
  intro pins s σ H vs us Q I rv h
  obtain ⟨W, ρ, st, ds, R, r0, g⟩ := h
  unfold bi at g
  split at g
  · -- len of a text
    split at g
    · rename_i hz
      obtain ⟨v, rfl, r⟩ := reps1 r0
      cases r
      exact call_len_str pins s σ H _ us Q I rv ⟨_, rfl, by rw [line_eq]; exact hz, Got.here R g _ (.int _)⟩
    · exact g.elim
  · -- len
    obtain ⟨v, rfl, r⟩ := reps1 r0
    split at g
    · rename_i kvs hd
      obtain ⟨l, a, rfl, rfl, hl, _, Dd⟩ := dct_rep R hd r
      have e := Vals.ref1 rv
      subst e
      exact len_dict hu I Dd (Got.here R g _ (.int _))
    · split at g
      · rename_i xs hx
        obtain ⟨a, ws, rfl, q, hh⟩ := seq_rep R hx r
        refine call_len_seq pins s σ H _ us Q I rv ⟨a, ws, rfl, hh, ?_⟩
        rw [q.length]
        exact Got.here R g _ (.int _)
      · exact g.elim
  · -- abs
    obtain ⟨v, rfl, r⟩ := reps1 r0
    cases r
    exact call_abs pins s σ H _ us Q I rv ⟨_, rfl, Got.here R g _ (.int _)⟩
  · -- min
    obtain ⟨v, rfl, r⟩ := reps1 r0
    split at g
    · rename_i m hm
      obtain ⟨ns, hn, hm⟩ := Option.bind_eq_some_iff.mp hm
      obtain ⟨xs, hx, hn⟩ := Option.bind_eq_some_iff.mp hn
      obtain ⟨a, ws, rfl, q, hh⟩ := lis_rep R hx r
      have e := reps_ints q hn
      subst e
      have h0 : 0 < ns.length := by cases ns with | nil => cases hm | cons _ _ => simp
      refine cr_min hc pins s σ H _ us Q I rv ⟨a, ns, rfl, hh, h0, fun k hk hl => ?_⟩
      rw [least_is hm hk hl]
      exact Got.here R g _ (.int _)
    · exact g.elim
  · -- max
    obtain ⟨v, rfl, r⟩ := reps1 r0
    split at g
    · rename_i m hm
      obtain ⟨ns, hn, hm⟩ := Option.bind_eq_some_iff.mp hm
      obtain ⟨xs, hx, hn⟩ := Option.bind_eq_some_iff.mp hn
      obtain ⟨a, ws, rfl, q, hh⟩ := lis_rep R hx r
      have e := reps_ints q hn
      subst e
      have h0 : 0 < ns.length := by cases ns with | nil => cases hm | cons _ _ => simp
      refine cr_max hc pins s σ H _ us Q I rv ⟨a, ns, rfl, hh, h0, fun k hk hl => ?_⟩
      rw [most_is hm hk hl]
      exact Got.here R g _ (.int _)
    · exact g.elim
  · -- min of two
    obtain ⟨v, u, rfl, r1, r2⟩ := reps2 r0
    split at g
    · rename_i b hb
      refine min_data hc hu I R r1 r2 rv hb (Got.here R g _ ?_)
      split <;> assumption
    · exact g.elim
  · -- max of two
    obtain ⟨v, u, rfl, r1, r2⟩ := reps2 r0
    split at g
    · rename_i b hb
      refine max_data hc hu I R r1 r2 rv hb (Got.here R g _ ?_)
      split <;> assumption
    · exact g.elim
  · obtain ⟨v, rfl, r⟩ := reps1 r0
    cases r
    exact call_int1 pins s σ H _ us Q I rv (.inl ⟨_, rfl, Got.here R g _ (.int _)⟩)
  · obtain ⟨v, rfl, r⟩ := reps1 r0
    cases r
    exact call_int1 pins s σ H _ us Q I rv (.inr ⟨_, rfl, Got.here R g _ (.int _)⟩)
  · -- sorted
    obtain ⟨v, rfl, r⟩ := reps1 r0
    split at g
    · rename_i kvs hd
      split at g
      · rename_i ys hy
        obtain ⟨l, a, rfl, rfl, hl, _, Dd⟩ := dct_rep R hd r
        have e := Vals.ref1 rv
        subst e
        exact sorted_dict hc hu I R Dd hy fun b ws hb rw' => new_listL R rw' hb g
      · exact g.elim
    · split at g
      · rename_i ys hy
        obtain ⟨xs, hx, hy⟩ := Option.bind_eq_some_iff.mp hy
        have hz := newL_len g
        have hz' : xs.length ≤ sizeLine := by rw [← sortD_len hy]; exact hz
        obtain ⟨a, ws, rfl, q, hh⟩ := lis_rep R hx r
        have e := Vals.ref1 rv
        subst e
        exact sorted_list hu I R q hh hz' hy fun b ws hb rw' => new_listL R rw' hb g
      · exact g.elim
  · -- list
    obtain ⟨v, rfl, r⟩ := reps1 r0
    split at g
    · rename_i xs hx
      obtain ⟨a, ws, rfl, q, hh⟩ := seq_rep R hx r
      exact call_list_of pins s σ H _ us Q I rv ⟨a, ws, rfl, hh, fun l hl => new_listL R q hl g⟩
    · exact g.elim
  · -- tuple
    obtain ⟨v, rfl, r⟩ := reps1 r0
    split at g
    · rename_i xs hx
      obtain ⟨a, ws, rfl, q, hh⟩ := seq_rep R hx r
      refine call_tuple_of pins s σ H _ us Q I rv ⟨a, ws, rfl, ?_⟩
      rcases hh with hh | hh
      · exact .inl ⟨hh, fun l hl => g ρ _ (Ext.grow hl _) (R.grow hl _) _ (.tup (SqT.of upd_same) (q.ext (Ext.grow hl _)))⟩
      · exact .inr ⟨hh, Got.here R g _ (.tup hh q)⟩
    · exact g.elim
  · -- sum
    obtain ⟨v, rfl, r⟩ := reps1 r0
    split at g
    · rename_i ns hn
      obtain ⟨xs, hx, hn⟩ := Option.bind_eq_some_iff.mp hn
      obtain ⟨a, ws, rfl, q, hh⟩ := lis_rep R hx r
      have e := reps_ints q hn
      subst e
      exact cr_sum hc pins s σ H _ us Q I rv ⟨a, ns, rfl, hh, Got.here R g _ (.int _)⟩
    · exact g.elim
  · -- divmod
    obtain ⟨v, u, rfl, r1, r2⟩ := reps2 r0
    cases r1
    cases r2
    split at g
    · rename_i hj
      rename_i i j
      have hj' : 0 < j ∧ j.natAbs.log2 < 9000 := of_decide_eq_true hj
      have hp : CDivP i j := by
        refine ⟨hj'.1, ?_⟩
        show (decide ((if j == 0 then 0 else j.natAbs.log2 / 30 + 1) > 300) && decide ((if i == 0 then 0 else i.natAbs.log2 / 30 + 1) > (if j == 0 then 0 else j.natAbs.log2 / 30 + 1) + 150)) = false
        rw [if_neg (show ¬ (j == 0) = true by simpa using (show j ≠ 0 by omega))]
        have : ¬ (j.natAbs.log2 / 30 + 1 > 300) := by omega
        rw [decide_eq_false this]; rfl
      exact call_divmodW pins s σ H _ us Q I rv ⟨_, _, rfl, hp, fun p hp => g ρ _ (Ext.grow hp _) (R.grow hp _) _ (.tup (SqT.of upd_same) (.cons (.int _) (.cons (.int _) .nil)))⟩
    · exact g.elim
  · exact g.elim
end
end Ev

/-! Methods of lists and dicts; stores. -/
namespace Ev
open PySem PySem.Spec PyProof.Rows L2

def kdT : Kd → String
  | .l => "list" | .d => "dict"
def mtName : Mt → Str
  | .append => "append" | .clear => "clear" | .pop0 => "pop" | .pop1 => "pop" | .get1 => "get" | .get2 => "get" | .setdef => "setdefault"
def mtId : Kd → Mt → String
  | .l, .append => "list.append" | .l, .clear => "list.clear" | .l, .pop0 => "list.pop" | .l, .pop1 => "list.pop"
  | .d, .pop1 => "dict.pop" | .d, .get1 => "dict.get" | .d, .get2 => "dict.get" | .d, .setdef => "dict.setdefault"
  | _, _ => ""
section
variable {X : Cx} {cv : Nat → Value} {pins : List (Addr × Obj)} {σ : L2.St} {H : Hp} {s : Shared} {ρ : List Addr} {st : Sto}
theorem mt_slot {k : Kd} {m : Mt} (h : mtId k m ≠ "") : PlainAttrs (kdT k) ∧ Slot (kdT k) (mtName m) (mtId k m) ∧ typeOf (.builtin (mtId k m)) = pure (.type "method_descriptor") := by
  cases k <;> cases m <;> first
    | exact absurd rfl h
    | exact ⟨PySem.F.plainAttrs_list, PySem.F.slot_list_append, PySem.F.type_list_append⟩
    | exact ⟨PySem.F.plainAttrs_list, PySem.F.slot_list_clear, PySem.F.type_list_clear⟩
    | exact ⟨PySem.F.plainAttrs_list, PySem.F.slot_list_pop, PySem.F.type_list_pop⟩
    | exact ⟨PySem.F.plainAttrs_dict, PySem.F.slot_dict_pop, PySem.F.type_dict_pop⟩
    | exact ⟨PySem.F.plainAttrs_dict, PySem.F.slot_dict_get, PySem.F.type_dict_get⟩
    | exact ⟨PySem.F.plainAttrs_dict, PySem.F.slot_dict_setdefault, PySem.F.type_dict_setdefault⟩
/-- of what kind it is, in the machine -/
theorem kind_is (I : Inv X pins σ H s) (R : Rel (pm X cv) ρ H st) {x : D} {v : V} {u : Value} {k : Kd} (r : Rep X.K ρ H v x) (ru : RelV v u) (h : kindD st x = some k) :
    s.TypeIs u (kdT k) ∧ ∀ a, u = .ref a → ∃ ob, s.heap.get? a = some ob ∧ ob.dict = none := by
  cases x with
  | ref l =>
    cases r with
    | ref hl =>
      cases ru
      rw [kindD] at h
      cases e : st[l]? with
      | none => rw [e] at h; cases h
      | some o =>
        rw [e] at h
        cases o with
        | lst ds =>
          cases h
          obtain ⟨vs, h1, _⟩ := R.obj l _ _ hl e
          exact tyV_is (x := .ref _) I rfl (.inl ⟨rfl, vs, SqL.of h1⟩)
        | dct kvs =>
          cases h
          obtain ⟨o, xs, es, ep, h1, h2, h3, h4, _⟩ := R.obj l _ _ hl e
          have e1 := (I.hok _ _ h1).1
          refine ⟨⟨o, e1, h4.1⟩, fun a e2 => ?_⟩
          cases e2
          exact ⟨o, e1, h4.2.1⟩
  | _ => cases h
theorem mt_ok (hu : X.A.units + 74 < cLine) {k : Kd} {m : Mt} {x : D} {ds : List D} {v : V} {vs : List V} {u : Value} {us : List Value} {Q : VK} {W : Value → Option Addr → Hp → Prop} (I : Inv X pins σ H s) (R : Rel (pm X cv) ρ H st) (r : Rep X.K ρ H v x) (rs : Reps X.K ρ H vs ds) (ru : RelV v u) (rus : Vals vs us)
    (g : Got (pm X cv) ρ H (mt k m x ds st) (fun r _ ρ' H' => ∀ v, Rep X.K ρ' H' v r → Q v H') W) : mtId k m ≠ "" ∧ wpAny (model X.prog X.w) X.A (call (.builtin (mtId k m)) (u :: us)) (EP X pins σ Q) X.xe s := by
  cases x with
  | ref l =>
    cases r with
    | ref hl =>
      rename_i a
      simp only [mt] at g
      split at g
      · -- a list
        rename_i xs hs
        obtain ⟨ws, h1, h2⟩ := R.obj l _ _ hl hs
        have put : ∀ {zs : List V} {ys : List D}, Reps X.K ρ H zs ys → Rel (pm X cv) ρ (upd H a (.lst zs)) (st.set l (.lst ys)) ∧ Ext ρ H ρ (upd H a (.lst zs)) := fun {zs ys} rz => by
          have hx : Ext ρ H ρ (upd H a (.lst zs)) := Ext.put (List.mem_of_getElem? hl) (by rw [h1]; trivial) _
          exact R.put hl ⟨zs, upd_same, rz.ext hx⟩
        have z := I.lstM h1
        unfold mtL at g
        split at g
        · split at g
          · rename_i hz
            refine ⟨by decide, ?_⟩
            obtain ⟨y, rfl, ry⟩ := reps1 rs
            obtain ⟨p1, p2⟩ := put (h2.append (.cons ry .nil))
            exact mt_append pins s σ H _ _ u us Q I ru rus ⟨a, ws, y, rfl, rfl, h1, by rw [h2.length, line_eq]; exact hz, g _ _ p2 p1 _ .non⟩
          · exact g.elim
        · refine ⟨by decide, ?_⟩
          cases rs
          obtain ⟨p1, p2⟩ := put .nil
          exact mt_clear pins s σ H _ _ u us Q I ru rus ⟨a, ws, rfl, rfl, h1, g _ _ p2 p1 _ .non⟩
        · refine ⟨by decide, ?_⟩
          cases rs
          split at g
          · rename_i y hy
            obtain ⟨w, hw, rw'⟩ := h2.get hy
            obtain ⟨p1, p2⟩ := put h2.dropLast
            exact mt_pop pins s σ H _ _ u us Q I ru rus ⟨a, ws, w, rfl, rfl, h1, by rw [h2.length]; exact hw, g _ _ p2 p1 _ (rw'.ext p2)⟩
          · exact g.elim
        · refine ⟨by decide, ?_⟩
          obtain ⟨y, rfl, ry⟩ := reps1 rs
          cases ry
          split at g
          · rename_i j hj
            split at g
            · rename_i y hy
              obtain ⟨w, hw, rw'⟩ := h2.get hy
              obtain ⟨p1, p2⟩ := put (h2.eraseIdx j)
              obtain ⟨q1, q2, q3, q4⟩ := ixN_seq (by rw [← place_eq]; exact hj)
              have hz := z.1
              rw [h2.length] at hz
              have h63 : sizeLine < 2 ^ 63 := line63
              exact mt_popAt pins s σ H _ _ u us Q I ru rus ⟨a, ws, _, j, w, rfl, rfl, h1, by omega, by omega, by rw [h2.length]; exact q1, hw, g _ _ p2 p1 _ (rw'.ext p2)⟩
            · exact g.elim
          · exact g.elim
        · exact g.elim
      · -- a dict
        rename_i kvs hs
        have Dd : DctR (pm X cv) ρ H a kvs := R.obj l _ _ hl hs
        obtain ⟨xs, hm, hp, hsy, hz, hlen⟩ := dct_is I Dd
        cases ru
        unfold mtD at g
        split at g
        · split at g
          · rename_i hk
            refine ⟨by decide, ?_⟩
            obtain ⟨y, rfl, ry⟩ := reps1 rs
            obtain ⟨u1, rfl, ru1⟩ := vals1 rus
            obtain ⟨c, rfl, rfl, ki⟩ := key_is I hk ry ru1
            rcases look (X := X) hk hp with ⟨e1, e2⟩ | ⟨d', b', u', v', e1, e2, e3, e4⟩
            · rw [e1] at g; exact g.elim
            · rw [e1] at g
              refine call_pop_heap (hsz := by rw [hlen]; exact hz) (more := []) (.inl rfl) (F.args_dict_pop_2 _ _) (room8 hu) ki hsy hm e2 fun h' hm' hs' => ?_
              obtain ⟨H', I', R', x'⟩ := dct_put (t' := s.toks + (nestedKind X.prog X.w).draws (toK _)) I R hl Dd hm' hs' (paired_del hk hp) (Nat.le_trans (dDel_length _ _) hz)
              exact ⟨v', H', I', e3, g _ _ x' R' _ (e4.ext x')⟩
          · exact g.elim
        · split at g
          · rename_i hk
            refine ⟨by decide, ?_⟩
            obtain ⟨y, rfl, ry⟩ := reps1 rs
            obtain ⟨u1, rfl, ru1⟩ := vals1 rus
            obtain ⟨c, rfl, rfl, ki⟩ := key_is I hk ry ru1
            refine call_meetsIn F.slot_dict_get hm.typeIs F.entry_dict_get (F.args_dict_get_2 _ _) (meetsH_dict_get (nestedKind X.prog X.w) a c hsy) ⟨room8 hu, _, xs, ki, hm, ?_⟩
            rcases look (X := X) hk hp with ⟨e1, e2⟩ | ⟨d', b', u', v', e1, e2, e3, e4⟩
            · rw [e1] at g
              rw [e2]
              exact ⟨.non, H, I.tok _, rfl, Got.here R g _ .non⟩
            · rw [e1] at g
              rw [e2]
              exact ⟨v', H, I.tok _, e3, Got.here R g _ e4⟩
          · exact g.elim
        · split at g
          · rename_i hk
            refine ⟨by decide, ?_⟩
            obtain ⟨y, y2, rfl, ry, ry2⟩ := reps2 rs
            obtain ⟨u1, u2, rfl, ru1, ru2⟩ := vals2 rus
            obtain ⟨c, rfl, rfl, ki⟩ := key_is I hk ry ru1
            refine call_meetsIn F.slot_dict_get hm.typeIs F.entry_dict_get (F.args_dict_get_3 _ _ _) (meetsH_dict_get_default (nestedKind X.prog X.w) a c hsy u2) ⟨room8 hu, _, xs, ki, hm, ?_⟩
            rcases look (X := X) hk hp with ⟨e1, e2⟩ | ⟨d', b', u', v', e1, e2, e3, e4⟩
            · rw [e1] at g
              rw [e2]
              exact ⟨y2, H, I.tok _, ru2, Got.here R g _ ry2⟩
            · rw [e1] at g
              rw [e2]
              exact ⟨v', H, I.tok _, e3, Got.here R g _ e4⟩
          · exact g.elim
        · split at g
          · rename_i hk
            rw [Bool.and_eq_true] at hk
            obtain ⟨hk, hz2⟩ := hk
            have hz3 : kvs.length < line := of_decide_eq_true hz2
            refine ⟨by decide, ?_⟩
            obtain ⟨y, y2, rfl, ry, ry2⟩ := reps2 rs
            obtain ⟨u1, u2, rfl, ru1, ru2⟩ := vals2 rus
            obtain ⟨c, rfl, rfl, ki⟩ := key_is I hk ry ru1
            refine call_setdefault_heap (hsz := by rw [hlen]; exact hz) (room8 hu) ki hsy hm (fun p hp' => ?_) fun hn h' hm' hs' => ?_
            · rcases look (X := X) hk hp with ⟨e1, e2⟩ | ⟨d', b', u', v', e1, e2, e3, e4⟩
              · rw [e2] at hp'; cases hp'
              · rw [e1] at g
                rw [e2] at hp'
                cases hp'
                exact ⟨v', H, I.tok _, e3, Got.here R g _ e4⟩
            · rcases look (X := X) hk hp with ⟨e1, e2⟩ | ⟨d', b', u', v', e1, e2, e3, e4⟩
              · rw [e1] at g
                obtain ⟨H', I', R', x'⟩ := dct_put (t' := s.toks + (nestedKind X.prog X.w).draws (toK _)) I R hl Dd hm' hs' (paired_set hp ⟨hk, rfl, ry, y2, ru2, ry2⟩) (Nat.le_trans (dSet_length _ _ _) (by rw [line_eq]; exact hz3))
                exact ⟨y2, H', I', ru2, g _ _ x' R' _ (ry2.ext x')⟩
              · rw [e2] at hn; cases hn
          · exact g.elim
        · exact g.elim
      · exact g.elim
  | _ => exact g.elim
/-- o[i] = v -/
def PutD (p : Pm) : V → V → V → Hp → (Hp → Prop) → Prop := fun o i v H Q => ∃ ρ st x y z st', Rel p ρ H st ∧ Rep p.K ρ H o x ∧ Rep p.K ρ H i y ∧ Rep p.K ρ H v z ∧ putD x y z st = some st' ∧ ∀ H', Ext ρ H ρ H' → Rel p ρ H' st' → Q H'
theorem put_ok (hu : X.A.units + 74 < cLine) : PSet X (PutD (pm X cv)) := by
  intro pins s σ H o i v ov iv u Q I ro ri rv h
  obtain ⟨ρ, st, x, y, z, st', R, r1, r2, r3, hp, q⟩ := h
  unfold putD at hp
  cases x with
  | ref l =>
    cases r1 with
    | ref hl =>
      rename_i a
      simp only at hp
      cases hs : st[l]? with
      | none => rw [hs] at hp; cases hp
      | some ob =>
        rw [hs] at hp
        cases ob with
        | lst xs =>
          cases r2 with
          | int k =>
            obtain ⟨j, hj, rfl⟩ := Option.map_eq_some_iff.mp hp
            obtain ⟨ws, h1, h2⟩ := R.obj l _ _ hl hs
            have hx : Ext ρ H ρ (upd H a (.lst (ws.set j v))) := Ext.put (List.mem_of_getElem? hl) (by rw [h1]; trivial) _
            obtain ⟨p1, _⟩ := R.put (o := .lst (ws.set j v)) (q := .lst (xs.set j z)) hl ⟨_, upd_same, (h2.set r3 j).ext hx⟩
            exact set_list pins s σ H _ _ v ov iv u Q I ro ri rv ⟨a, ws, k, j, rfl, rfl, h1, by rw [h2.length, ← place_eq]; exact hj, q _ hx p1⟩
          | _ => cases hp
        | dct kvs =>
          simp only at hp
          split at hp
          · rename_i hk
            cases hp
            rw [Bool.and_eq_true] at hk
            obtain ⟨hk, hz2⟩ := hk
            have hz3 : kvs.length < line := of_decide_eq_true hz2
            have Dd : DctR (pm X cv) ρ H a kvs := R.obj l _ _ hl hs
            obtain ⟨xs, hm, hp, hsy, hz, hlen⟩ := dct_is I Dd
            cases ro
            obtain ⟨c, rfl, rfl, ki⟩ := key_is I hk r2 ri
            refine wpAny_setItem_heap (hsz := by rw [hlen]; exact hz) (room8 hu) ki hm fun h' hm' hs' => ?_
            obtain ⟨H', I', R', x'⟩ := dct_put (t' := s.toks + (nestedKind X.prog X.w).draws (toK _)) I R hl Dd hm' hs' (paired_set hp ⟨hk, rfl, r2, v, rv, r3⟩) (Nat.le_trans (dSet_length _ _ _) (by rw [line_eq]; exact hz3))
            exact ⟨H', I', q _ x' R'⟩
          · cases hp
  | _ => cases hp
end
end Ev

/-! From the program's text to the language. -/
namespace Ev
open PySem PySem.Spec PyProof.Rows L2

/-- where a text stands: the slots' names, the scope, which cells may be stored, the defs' names, the module's numbers -/
structure CC where
  N : List Str
  sc : Scope
  own : Str → Bool
  fs : List Str
  gs : List (Str × Int)
  xs : List (Str × Bool) := []
  ds : List (Str × Nat × Nat) := []
def ixOf : List Str → Str → Option Nat
  | [], _ => none
  | y :: ys, x => if y = x then some 0 else (ixOf ys x).map (· + 1)
theorem ixOf_at : ∀ {N : List Str} {x : Str} {i : Nat}, ixOf N x = some i → N[i]? = some x
  | y :: ys, x, i, h => by
    rw [ixOf] at h
    split at h
    · cases h
      subst y
      rfl
    · obtain ⟨j, hj, rfl⟩ := Option.map_eq_some_iff.mp h
      simpa using ixOf_at hj
def plainName (x : Str) : Bool := !(x == ("__debug__" : Str)) && !(x == ("__classdict__" : Str)) && !(x == ("__name__" : Str))
def CC.glob (c : CC) (x : Str) : Bool := decide (c.sc.names.lookup x = some .globalImplicit) && plainName x
def CC.slot (c : CC) (x : Str) : Option Nat := if (decide (c.sc.names.lookup x = some .local) || decide (c.sc.names.lookup x = some .cell) || decide (c.sc.names.lookup x = some .free)) && plainName x then ixOf c.N x else none
def CC.store (c : CC) (x : Str) : Option Nat := if decide (c.sc.names.lookup x = some .local) || (decide (c.sc.names.lookup x = some .cell) && c.own x) then ixOf c.N x else none
/-- how many defaults (None each) fill up a call with n arguments; ds: name, parameters, defaults -/
def CC.tail (c : CC) (x : Str) (n : Nat) : Option Nat := match c.ds.lookup x with
  | none => some 0
  | some (np, nd) => if n ≤ np ∧ np - n ≤ nd then some (np - n) else none
/-- the classes that may be raised, by their numbers -/
def CC.rz (c : CC) : List Nat := (List.range c.xs.length).filter fun i => (c.xs[i]?.map (·.2)) == some true
def CC.xn (c : CC) (x : Str) : Option Nat := ixOf (c.xs.map (·.1)) x
def biTab : List (Str × Nat × Bi) := [("len", 1, .len), ("abs", 1, .abs), ("min", 1, .min1), ("max", 1, .max1), ("min", 2, .min2), ("max", 2, .max2), ("int", 1, .int), ("sorted", 1, .sorted), ("list", 1, .list), ("tuple", 1, .tuple), ("sum", 1, .sum), ("divmod", 2, .divmod)]
def biOf (x : Str) (n : Nat) : Option Bi := (biTab.find? fun p => decide (p.1 = x) && decide (p.2.1 = n)).map (·.2.2)
def tyTab : List (Str × Ty) := [("int", .int), ("bool", .bool), ("str", .str), ("list", .list), ("tuple", .tuple)]
def tyNamed (x : Str) : Option Ty := (tyTab.find? fun p => decide (p.1 = x)).map (·.2)
def mtTab : List (Str × Nat × Mt) := [("append", 1, .append), ("clear", 0, .clear), ("pop", 0, .pop0), ("pop", 1, .pop1), ("get", 1, .get1), ("get", 2, .get2), ("setdefault", 2, .setdef)]
def mtOf (x : Str) (n : Nat) : Option Mt := (mtTab.find? fun p => decide (p.1 = x) && decide (p.2.1 = n)).map (·.2.2)
/-- the built-in names that are used -/
def bltNames : List Str := ["len", "abs", "min", "max", "int", "sorted", "list", "tuple", "sum", "divmod", "isinstance", "bool", "str", "range", "enumerate", "zip", "ValueError"]

def isLc : Expr → Bool
  | .ListComp .. => true
  | .SetComp .. => true
  | .DictComp .. => true
  | _ => false
/-- no star, no slice, no set: what the rules' small print asks -/
def plainE : Expr → Bool
  | .Starred .. => false
  | .Slice .. => false
  | .Set .. => false
  | _ => true
mutual
def cT (c : CC) : Nat → Expr → Option Tg
  | 0, _ => none
  | _ + 1, .Name x _ => (c.store x).map .nm
  | n + 1, .Tuple es _ _ => (cTs c n es).map .tp
  | _ + 1, _ => none
def cTs (c : CC) : Nat → List Expr → Option (List Tg)
  | _, [] => some []
  | 0, _ => none
  | n + 1, e :: es => if plainE e then match cT c n e, cTs c n es with
    | some t, some ts => some (t :: ts)
    | _, _ => none
    else none
end
mutual
def tgSlots : Tg → List Nat
  | .nm i => [i]
  | .tp ts => tgsSlots ts
def tgsSlots : List Tg → List Nat
  | [] => []
  | t :: ts => tgSlots t ++ tgsSlots ts
end
def ownOf (N : List Str) (names : List (Str × NameKind)) : List (Str × Nat) :=
  names.filterMap fun y => if decide (y.2 = .local) || decide (y.2 = .cell) then (ixOf N y.1).map fun i => (y.1, i) else none
/-- within a comprehension -/
def CC.blk (c : CC) (scope : Scope) : CC := { c with sc := relS scope c.sc, own := fun x => scope.names.lookup x == some .cell }
def isTup : Expr → Bool
  | .Tuple .. => true
  | _ => false
/-- no call without arguments -/
def okBase : Expr → Bool
  | .Call (.Name _ _) [] [] _ => false
  | _ => true
def walkCall (c : CC) : Expr → Option (Nat × List Expr)
  | .Call (.Name x _) args [] _ => if c.glob x && decide (ixOf c.fs x = none) then (if x = ("range" : Str) then some (0, args) else if x = ("enumerate" : Str) then some (1, args) else if x = ("zip" : Str) then some (2, args) else none) else none
  | _ => none
mutual
def cE : Nat → CC → Expr → Option E
  | 0, _, _ => none
  | n + 1, c, a => match a with
    | .Name x _ => match c.slot x with
      | some i => some (.var i)
      | none => if c.glob x then (c.gs.lookup x).map fun i => .cst (.int i) else none
    | .Constant k _ _ => match k with
      | .none => some (.cst .non)
      | .bool b => some (.cst (.bl b))
      | .int i => some (.cst (.int i))
      | .str x => some (.cst (.str x))
      | _ => none
    | .Tuple es _ _ => (cEs n c es).map .tup
    | .List es _ => (cEs n c es).map .lst
    | .Dict ks vs _ => match ks, vs with
      | [], [] => some .dct0
      | [some a], [b] => (cE n c a).bind fun x => (cE n c b).map fun y => .dct1 x y
      | _, _ => none
    | .BinOp x op y _ => (cE n c x).bind fun a => (cE n c y).map fun b => .bin op a b
    | .UnaryOp op x _ => match op with
      | .USub => (cE n c x).map .neg
      | .Not => (cE n c x).map .not
      | _ => none
    | .Compare x ops ys _ => match ops, ys with
      | [op], [y] => if plainE y then (cE n c x).bind fun a => (cE n c y).map fun b => .cmp op a b else none
      | [op, op'], [y, z] => if plainE y && plainE z then (cE n c x).bind fun a => (cE n c y).bind fun b => (cE n c z).map fun d => .chn op op' a b d else none
      | _, _ => none
    | .BoolOp op es _ => match es with
      | [] => none
      | e :: es => (cEs n c (e :: es)).map (.bop op)
    | .IfExp t x y _ => (cE n c t).bind fun k => (cE n c x).bind fun a => (cE n c y).map fun b => .ite k a b
    | .Subscript x s _ => match s with
      | .Slice lo hi none _ => (cE n c x).bind fun a => (cO n c lo).bind fun l => (cO n c hi).map fun h => .sl a l h
      | s => if plainE s then (cE n c x).bind fun a => (cE n c s).map fun b => .ix a b else none
    | .Call f args kws pos => if kws.isEmpty then match f with
      | .Name x _ => if c.glob x then
          match ixOf c.fs x with
          | some k => if args.isEmpty then none else (c.tail x args.length).bind fun m => (cEs n c args).map fun es => .fn k (es ++ List.replicate m (.cst .non))
          | none => match args with
            | [] => none
            | [a, .Name t _] => if x = ("isinstance" : Str) then (if c.glob t then (if decide (ixOf c.fs t = none) then (tyNamed t).bind fun t => if plainE a then (cE n c a).map fun e => .isi e t else none else none) else none)
                else (biOf x 2).bind fun f => (cEs n c args).map (.bi f)
            | a :: as => (biOf x args.length).bind fun f => (cEs n c args).map (.bi f)
          else none
      | .Attribute o m apos => if apos.endLine == pos.line && plainE o && okBase o then (mtOf m args.length).bind fun m => (cE n c o).bind fun x => (cEs n c args).map fun es => .mt m x es else none
      | _ => none
      else none
    | .ListComp elt gs scope _ => match gs with
      | [⟨tg, iter, ifs, 0⟩] => if blkC c.N c.sc scope (ownOf c.N scope.names) && plainE iter && decide (ifs.length ≤ 1) then
          (cT (c.blk scope) n tg).bind fun t => if (tgSlots t).all (fun i => ((ownOf c.N scope.names).map (·.2)).contains i) then
            (cI n c tg iter).bind fun it => (cEs n (c.blk scope) ifs).bind fun ts => (cE n (c.blk scope) elt).map fun e => .lc ((ownOf c.N scope.names).map (·.2)) t it ts e else none
          else none
      | _ => none
    | _ => none
def cEs : Nat → CC → List Expr → Option (List E)
  | _, _, [] => some []
  | 0, _, _ => none
  | n + 1, c, e :: es => if plainE e then match cE n c e, cEs n c es with
    | some x, some xs => some (x :: xs)
    | _, _ => none
    else none
def cO : Nat → CC → Option Expr → Option (Option E)
  | _, _, none => some none
  | 0, _, _ => none
  | n + 1, c, some e => (cE n c e).map some
/-- what a loop or a comprehension walks; tg its target -/
def cI : Nat → CC → Expr → Expr → Option I
  | 0, _, _, _ => none
  | n + 1, c, tg, a => match walkCall c a with
    | some (0, [x]) => if plainE x then (cE n c x).map .rng1 else none
    | some (0, [x, y]) => if plainE x && plainE y then (cE n c x).bind fun a => (cE n c y).map fun b => .rng2 a b else none
    | some (1, [x]) => if isTup tg && plainE x then (cE n c x).map .enm else none
    | some (2, [x, y]) => if isTup tg && plainE x && plainE y then (cE n c x).bind fun a => (cE n c y).map fun b => .zip a b else none
    | some _ => none
    | none => (cE n c a).map .seq
end
end Ev

/-! Expressions: what the evaluator gives, the model gives. -/
namespace Ev
open PySem PySem.Spec PyProof.Rows L2

/-- what is promised of a def -/
def spOf (p : Pm) (m : List D → Sto → Res D) : Sp := fun vs H Q E => ∃ ρ st ds, Rel p ρ H st ∧ Reps p.K ρ H vs ds ∧ Got p ρ H (m ds st) (fun r _ ρ' H' => ∀ v, Rep p.K ρ' H' v r → Q v H') E
/-- what is known of an own class of errors -/
structure XcIs (K : PySem.W.Frag) (C : Addr) : Prop where
  make : PySem.W.excIn K C He.veBase "ValueError.__new__" = true
  kp : PySem.W.keepIn K (.ref C) = true
  sb : PySem.W.subIn K (.ref C) (.type "BaseException") = some true
  ty : PySem.W.typeIn K (.ref C) = some (.type "type")
  ec : ExcC K C
  ve : PySem.W.kitOne K (.ref C) (.type "ValueError") = some true
structure Gd (cl : Calls) (cv : Nat → Value) (k : Nat) (X : Cx) (c : CC) : Prop where
  N : X.N = c.N
  nd : X.N.Nodup
  sc : X.env.scope = c.sc
  own : ∀ x, c.own x = true → X.fn x = true
  calm : X.calm = true
  room : Room k X.A
  fns : ∀ (i : Nat) x, c.fs[i]? = some x → ∃ fa fd ps, X.mg x = some (.ref fa) ∧ PySem.W.keepIn X.K (.ref fa) = true ∧ (∀ n m, c.tail x n = some m → ∃ dv, Vals (List.replicate m V.non) dv ∧ Binds X.K fd ps dv) ∧ FnOk X.prog X.w X.K X.mg X.base (CX X.prog X.w) k fa fd ps (spOf (pm X cv) (cl i))
  gs : ∀ x i, c.gs.lookup x = some i → ∃ t, X.mg x = some (.int i t)
  blt : ∀ x, x ∈ bltNames → X.mg x = none
  exs : ∀ (i : Nat) x, c.xn x = some i → ∃ C, cv i = .ref C ∧ X.mg x = some (.ref C)
  exr : ∀ i ∈ c.rz, ∃ C, cv i = .ref C ∧ XcIs X.K C
  exm : ∀ i ∈ c.rz, ∀ x j, c.xn x = some j → PySem.W.exmOne X.K (cv i) (cv j) = some (xsub i j) ∧ PySem.W.kitOne X.K (cv i) (cv j) = some (xsub i j)

/-! ### readings by the evaluator -/
def lE (p : Pm) (W : WX) (m : En → Sto → Res D) : TE := fun σ H Q => ∃ ρ env st, EnvR p.K ρ H σ env ∧ Rel p ρ H st ∧ Got p ρ H (m env st) (fun d _ ρ' H' => ∀ v, Rep p.K ρ' H' v d → Q v H') (fun c dd H' => W c dd σ H')
def lA (p : Pm) (W : WX) (m : En → Sto → Res (List D)) : TA := fun σ H Q => ∃ ρ env st, EnvR p.K ρ H σ env ∧ Rel p ρ H st ∧ Got p ρ H (m env st) (fun d _ ρ' H' => ∀ v, Reps p.K ρ' H' v d → Q v H') (fun c dd H' => W c dd σ H')
def lT (p : Pm) (W : WX) (m : En → Sto → Res Bool) : TT := fun σ H Q => ∃ ρ env st, EnvR p.K ρ H σ env ∧ Rel p ρ H st ∧ Got p ρ H (m env st) (fun d _ _ H' => Q d H') (fun c dd H' => W c dd σ H')
def lO (p : Pm) (W : WX) (m : En → Sto → Res (Option Int)) : TO := fun σ H Q => ∃ ρ env st, EnvR p.K ρ H σ env ∧ Rel p ρ H st ∧ Got p ρ H (m env st) (fun d _ _ H' => Q d H') (fun c dd H' => W c dd σ H')
section
variable {p : Pm} {W : WX} {ρ : List Addr} {H : Hp} {σ : L2.St} {env : En} {st : Sto} {β : Type}
theorem lE_bind {m : En → Sto → Res D} {f : D → Sto → Res β} {Qf : β → Sto → List Addr → Hp → Prop} {K : VK} (er : EnvR p.K ρ H σ env) (R : Rel p ρ H st) (g : Got p ρ H ((m env st).bind f) Qf (fun c dd H' => W c dd σ H'))
    (nx : ∀ x st1 ρ1 H1 v, Ext ρ H ρ1 H1 → Rel p ρ1 H1 st1 → EnvR p.K ρ1 H1 σ env → Rep p.K ρ1 H1 v x → Got p ρ1 H1 (f x st1) Qf (fun c dd H' => W c dd σ H') → K v H1) : lE p W m σ H K :=
  ⟨ρ, env, st, er, R, (Got.bind g).mono fun x st1 ρ1 H1 _ _ ⟨e1, R1, g1⟩ v rv => nx x st1 ρ1 H1 v e1 R1 (er.ext e1) rv g1⟩
theorem lA_bind {m : En → Sto → Res (List D)} {f : List D → Sto → Res β} {Qf : β → Sto → List Addr → Hp → Prop} {K : List V → Hp → Prop} (er : EnvR p.K ρ H σ env) (R : Rel p ρ H st) (g : Got p ρ H ((m env st).bind f) Qf (fun c dd H' => W c dd σ H'))
    (nx : ∀ x st1 ρ1 H1 v, Ext ρ H ρ1 H1 → Rel p ρ1 H1 st1 → EnvR p.K ρ1 H1 σ env → Reps p.K ρ1 H1 v x → Got p ρ1 H1 (f x st1) Qf (fun c dd H' => W c dd σ H') → K v H1) : lA p W m σ H K :=
  ⟨ρ, env, st, er, R, (Got.bind g).mono fun x st1 ρ1 H1 _ _ ⟨e1, R1, g1⟩ v rv => nx x st1 ρ1 H1 v e1 R1 (er.ext e1) rv g1⟩
theorem lT_bind {m : En → Sto → Res Bool} {f : Bool → Sto → Res β} {Qf : β → Sto → List Addr → Hp → Prop} {K : Bool → Hp → Prop} (er : EnvR p.K ρ H σ env) (R : Rel p ρ H st) (g : Got p ρ H ((m env st).bind f) Qf (fun c dd H' => W c dd σ H'))
    (nx : ∀ x st1 ρ1 H1, Ext ρ H ρ1 H1 → Rel p ρ1 H1 st1 → EnvR p.K ρ1 H1 σ env → Got p ρ1 H1 (f x st1) Qf (fun c dd H' => W c dd σ H') → K x H1) : lT p W m σ H K :=
  ⟨ρ, env, st, er, R, (Got.bind g).mono fun x st1 ρ1 H1 _ _ ⟨e1, R1, g1⟩ => nx x st1 ρ1 H1 e1 R1 (er.ext e1) g1⟩
theorem lO_bind {m : En → Sto → Res (Option Int)} {f : Option Int → Sto → Res β} {Qf : β → Sto → List Addr → Hp → Prop} {K : Option Int → Hp → Prop} (er : EnvR p.K ρ H σ env) (R : Rel p ρ H st) (g : Got p ρ H ((m env st).bind f) Qf (fun c dd H' => W c dd σ H'))
    (nx : ∀ x st1 ρ1 H1, Ext ρ H ρ1 H1 → Rel p ρ1 H1 st1 → EnvR p.K ρ1 H1 σ env → Got p ρ1 H1 (f x st1) Qf (fun c dd H' => W c dd σ H') → K x H1) : lO p W m σ H K :=
  ⟨ρ, env, st, er, R, (Got.bind g).mono fun x st1 ρ1 H1 _ _ ⟨e1, R1, g1⟩ => nx x st1 ρ1 H1 e1 R1 (er.ext e1) g1⟩
theorem asB_some {d : D} {Q : Bool → Sto → List Addr → Hp → Prop} {W' : Value → Option Addr → Hp → Prop} (g : Got p ρ H (asB d st) Q W') : ∃ b, d = .bl b ∧ Got p ρ H (.ok b st) Q W' := by
  cases d <;> first | exact g.elim | exact ⟨_, rfl, g⟩
theorem asI_some {d : D} {Q : Int → Sto → List Addr → Hp → Prop} {W' : Value → Option Addr → Hp → Prop} (g : Got p ρ H (asI d st) Q W') : ∃ b, d = .int b ∧ Got p ρ H (.ok b st) Q W' := by
  cases d <;> first | exact g.elim | exact ⟨_, rfl, g⟩
end

section
variable {p : Pm} {ρ : List Addr} {H : Hp} {st : Sto} {β : Type} {Q : β → Sto → List Addr → Hp → Prop} {W : Value → Option Addr → Hp → Prop}
theorem got_asI {x : D} {f : Int → Sto → Res β} (g : Got p ρ H ((asI x st).bind f) Q W) : ∃ i, x = .int i ∧ Got p ρ H (f i st) Q W := by
  cases x <;> first | exact g.elim | exact ⟨_, rfl, g⟩
theorem got_asB {x : D} {f : Bool → Sto → Res β} (g : Got p ρ H ((asB x st).bind f) Q W) : ∃ i, x = .bl i ∧ Got p ρ H (f i st) Q W := by
  cases x <;> first | exact g.elim | exact ⟨_, rfl, g⟩
theorem got_of {α : Type} {x : Option α} {f : α → Sto → Res β} (g : Got p ρ H ((Res.of x st).bind f) Q W) : ∃ i, x = some i ∧ Got p ρ H (f i st) Q W := by
  cases x <;> first | exact g.elim | exact ⟨_, rfl, g⟩
end
/-! ### small print -/
theorem _root_.L2.PE.mono {X : Cx} {e : Expr} {t t' : TE} (h : PE X e t) (m : ∀ σ H Q, t' σ H Q → t σ H Q) : PE X e t' := ⟨fun pins s σ H Q I q => h.run pins s σ H Q I (m σ H Q q)⟩
theorem _root_.L2.PT.mono {X : Cx} {e : Expr} {t t' : TT} (h : PT X e t) (m : ∀ σ H Q, t' σ H Q → t σ H Q) : PT X e t' := ⟨fun pins s σ H Q I q => h.run pins s σ H Q I (m σ H Q q)⟩
theorem _root_.L2.PW.mono {X : Cx} {e : Expr} {t t' : TT} (h : PW X e t) (m : ∀ σ H Q, t' σ H Q → t σ H Q) : PW X e t' := ⟨fun wh pins s σ H Q I q => h.run wh pins s σ H Q I (m σ H Q q)⟩
theorem _root_.L2.PA.mono {X : Cx} {e : List Expr} {t t' : TA} (h : PA X e t) (m : ∀ σ H Q, t' σ H Q → t σ H Q) : PA X e t' := ⟨fun pos pins s σ H Q I q => h.run pos pins s σ H Q I (m σ H Q q)⟩
theorem _root_.L2.PO.mono {X : Cx} {e : Option Expr} {t t' : TO} (h : PO X e t) (m : ∀ σ H Q, t' σ H Q → t σ H Q) : PO X e t' := ⟨fun pins s σ H Q I q => h.run pins s σ H Q I (m σ H Q q)⟩
theorem star_cons {e : Expr} {es : List Expr} {env : Env} (h : plainE e = true) : starEach (e :: es) env = (false, eval e env) :: starEach es env := by
  cases e <;> first | rfl | (simp [plainE] at h)
theorem plain_ix {e : Expr} (h : plainE e = true) : PlainIx e := by
  cases e <;> first | (intro _ _; rfl) | (simp [plainE] at h)
theorem plain_mark {op : CmpOp} {e : Expr} (h : plainE e = true) : behindInMarks op e = false := by
  cases e <;> first | rfl | (simp [plainE] at h)
theorem plain_folded {e : Expr} {env : Env} (h : plainE e = true) (x : Value) : foldedSetIterable e env x = pure x := by
  cases e <;> first | rfl | (simp [plainE] at h)
theorem base_ok {o : Expr} {f : Str} {env : Env} {w : Sem Value} (h : okBase o = true) : attributeBase o f env w = w := by
  unfold attributeBase
  split
  · simp [okBase] at h
  · rfl
/-- a test that is no and, or, not, comparison, if -/
def leafE : Expr → Bool
  | .UnaryOp .Not _ _ => false
  | .BoolOp .. => false
  | .IfExp .. => false
  | .Compare .. => false
  | _ => true
theorem leaf_true {e : Expr} {env : Env} (h : leafE e = true) (w : Sem Value) : isTrue e env w = (do let v ← w; standAt e.pos; holding [v] (truthy v)) := by
  cases e with
  | UnaryOp op a pos => cases op <;> first | rfl | (simp [leafE] at h)
  | BoolOp => simp [leafE] at h
  | IfExp => simp [leafE] at h
  | Compare => simp [leafE] at h
  | _ => rfl
theorem plain_parts {x : Str} (h : plainName x = true) : (x == ("__debug__" : Str)) = false ∧ (x == ("__classdict__" : Str)) = false ∧ x ≠ ("__name__" : Str) := by
  unfold plainName at h
  simp only [Bool.and_eq_true, Bool.not_eq_true'] at h
  refine ⟨h.1.1, h.1.2, fun z => ?_⟩
  have q := h.2
  rw [z] at q
  simp at q
section
variable {cl : Calls} {cv : Nat → Value} {k : Nat} {X : Cx} {c : CC} {W : WX}
theorem Gd.units (g : Gd cl cv k X c) : X.A.units + 74 < cLine := by
  have := g.room.un
  omega
theorem Gd.slot (g : Gd cl cv k X c) {x : Str} {i : Nat} (h : c.slot x = some i) : X.N[i]? = some x ∧ Vis X.env.scope x ∧ plainName x = true := by
  unfold CC.slot at h
  split at h
  · rename_i hc
    rw [Bool.and_eq_true, Bool.or_eq_true, Bool.or_eq_true, decide_eq_true_eq, decide_eq_true_eq, decide_eq_true_eq] at hc
    refine ⟨by rw [g.N]; exact ixOf_at h, ?_, hc.2⟩
    rw [g.sc]
    rcases hc.1 with (q | q) | q
    · exact .inl q
    · exact .inr (.inl q)
    · exact .inr (.inr q)
  · cases h
theorem Gd.glob (g : Gd cl cv k X c) {x : Str} (h : c.glob x = true) : Gl X x ∧ plainName x = true := by
  unfold CC.glob at h
  rw [Bool.and_eq_true, decide_eq_true_eq] at h
  refine ⟨?_, h.2⟩
  show X.env.scope.names.lookup x = _
  rw [g.sc]
  exact h.1
theorem Gd.store (g : Gd cl cv k X c) {x : Str} {i : Nat} (h : c.store x = some i) : X.N[i]? = some x ∧ Loc X.env.scope x ∧ (X.fn x = true ∨ X.env.scope.names.lookup x = some .local) := by
  unfold CC.store at h
  split at h
  · rename_i hc
    rw [Bool.or_eq_true, Bool.and_eq_true, decide_eq_true_eq, decide_eq_true_eq] at hc
    refine ⟨by rw [g.N]; exact ixOf_at h, ?_, ?_⟩
    · rw [g.sc]
      rcases hc with q | q
      · exact .inl q
      · exact .inr q.1
    · rcases hc with q | q
      · exact .inr (by rw [g.sc]; exact q)
      · exact .inl (g.own x q.2)
  · cases h
/-- names and numbers -/
theorem pe_name (g : Gd cl cv k X c) {x : Str} {pos : Pos} {i : Nat} (h : c.slot x = some i) : PE X (.Name x pos) (lE (pm X cv) W (evalE cl (.var i))) := by
  obtain ⟨h1, h2, h3⟩ := g.slot h
  obtain ⟨p1, p2, p3⟩ := plain_parts h3
  refine (pe_var h1 h2 p1 p2).mono fun σ H Q q => ?_
  obtain ⟨ρ, env, st, er, R, gg⟩ := q
  rw [evalE] at gg
  obtain ⟨d, hd, q⟩ := Got.of R gg
  obtain ⟨v, hv, rv⟩ := er.val i d (En.val_some hd)
  exact ⟨v, hv, q v rv⟩
theorem pe_cst {a : Expr} {v : V} {d : D} (h : PE X a (tC v)) (hr : ∀ ρ H, Rep X.K ρ H v d) : PE X a (lE (pm X cv) W (evalE cl (.cst d))) := by
  refine h.mono fun σ H Q q => ?_
  obtain ⟨ρ, env, st, er, R, gg⟩ := q
  rw [evalE] at gg
  exact Got.here R gg v (hr ρ H)
/-- a list of expressions -/
theorem pa_nilD : PA X [] (lA (pm X cv) W (evalEs cl [])) := pa_nil.mono fun σ H Q q => by
  obtain ⟨ρ, env, st, er, R, gg⟩ := q
  rw [evalEs] at gg
  exact Got.here R gg [] .nil
theorem pa_consD {a : Expr} {as : List Expr} {e : E} {es : List E} (hp : plainE a = true) (ha : PE X a (lE (pm X cv) W (evalE cl e))) (hr : PA X as (lA (pm X cv) W (evalEs cl es))) : PA X (a :: as) (lA (pm X cv) W (evalEs cl (e :: es))) :=
  (pa_cons ha hr (star_cons hp)).mono fun σ H Q q => by
    obtain ⟨ρ, env, st, er, R, gg⟩ := q
    rw [evalEs] at gg
    refine lE_bind er R gg fun x st1 ρ1 H1 v e1 R1 er1 rv g1 => ?_
    refine lA_bind er1 R1 g1 fun xs st2 ρ2 H2 vs e2 R2 er2 rvs g2 => ?_
    exact Got.here R2 g2 (v :: vs) (.cons (rv.ext e2) rvs)
theorem plain_any {es : List Expr} {env : Env} (h : ∀ e ∈ es, plainE e = true) (pos : Pos) : (backTo pos (starEach es env)).any (·.1) = false := by
  induction es with
  | nil => rfl
  | cons e es ih =>
    rw [star_cons (h e List.mem_cons_self)]
    have := ih fun x hx => h x (List.mem_cons_of_mem _ hx)
    unfold backTo at this ⊢
    simpa using this
theorem plain_all {es : List Expr} {env : Env} (h : ∀ e ∈ es, plainE e = true) (pos : Pos) : (backTo pos (starEach es env)).all (fun x => !x.1) = true := by
  induction es with
  | nil => rfl
  | cons e es ih =>
    rw [star_cons (h e List.mem_cons_self)]
    have := ih fun x hx => h x (List.mem_cons_of_mem _ hx)
    unfold backTo at this ⊢
    simpa using this
/-- displays -/
theorem pe_tupD {as : List Expr} {es : List E} {x1 : Nat} {pos : Pos} (ha : PA X as (lA (pm X cv) W (evalEs cl es))) : PE X (.Tuple as x1 pos) (lE (pm X cv) W (evalE cl (.tup es))) := (pe_tup ha).mono fun σ H Q q => by
  obtain ⟨ρ, env, st, er, R, gg⟩ := q
  rw [evalE] at gg
  refine lA_bind er R gg fun xs st1 ρ1 H1 vs e1 R1 er1 rvs g1 => ?_
  split at g1
  · rename_i hz
    refine ⟨by rw [rvs.length, line_eq]; exact hz, fun a hn => ?_⟩
    exact g1 ρ1 _ (Ext.grow hn _) (R1.grow hn _) _ (.tup (SqT.of upd_same) (rvs.ext (Ext.grow hn _)))
  · exact g1.elim
theorem pe_lstD {as : List Expr} {es : List E} {pos : Pos} (ha : PA X as (lA (pm X cv) W (evalEs cl es))) : PE X (.List as pos) (lE (pm X cv) W (evalE cl (.lst es))) := (pe_lst ha).mono fun σ H Q q => by
  obtain ⟨ρ, env, st, er, R, gg⟩ := q
  rw [evalE] at gg
  refine lA_bind er R gg fun xs st1 ρ1 H1 vs e1 R1 er1 rvs g1 => ?_
  exact ⟨by rw [rvs.length]; exact newL_len g1, fun a hn => new_listL R1 rvs hn g1⟩
theorem pe_dctD {pos : Pos} : PE X (.Dict [] [] pos) (lE (pm X cv) W (evalE cl .dct0)) := ⟨fun pins s σ H Q I q => by
  obtain ⟨ρ, env, st, er, R, gg⟩ := q
  rw [evalE] at gg
  have hn : H s.heap.objs.size = none := I.hok.fresh (Nat.le_refl _)
  have e0 : (s.heap.push { cls := .type "dict", data := .dict #[] }).get? s.heap.objs.size = some { cls := .type "dict", data := .dict #[] } := Heap.get?_push_size _ rfl
  obtain ⟨xs, o, es, ep, q1, q2, q3, q4, q5, q6⟩ := (⟨[], Heap.DictOfH.new s.heap⟩ : ∃ xs, (s.heap.push { cls := .type "dict", data := .dict #[] }).DictOfH (nestedKind X.prog X.w) s.heap.objs.size xs)
  rw [e0] at q1
  cases q1
  refine wpAny_Dict_empty ⟨.ref s.heap.objs.size, _, I.laid (a := s.heap.objs.size) (o := .ext fun h => h.get? s.heap.objs.size = some { cls := .type "dict", data := .dict #[] }) (t' := s.toks) (fun _ _ q => Heap.get?_push_of_some _ q) (Nat.le_refl _) (ext_ok e0), rfl, ?_⟩
  refine gg _ _ (Ext.laid hn _) (R.laid hn ?_) _ (Rep.new R)
  exact ⟨_, [], #[], 0, upd_same, beq_eq_false_iff_ne.mpr (Nat.ne_of_gt I.big), Nat.zero_le _, q2, rfl, rfl, List.nodup_nil, .nil⟩⟩
theorem room8' (hu : X.A.units + 74 < cLine) : (nestedKind X.prog X.w).room X.A := by
  show X.A.units + 8 < cLine
  omega
theorem _root_.Ev.Rel.adoptO {p : Pm} {ρ : List Addr} {H : Hp} {st : Sto} (R : Rel p ρ H st) {a : Addr} {q : O} (ha : a ∉ ρ) (hq : ObjR p (ρ ++ [a]) H a q) : Rel p (ρ ++ [a]) H (st ++ [q]) := by
  have hx : Pre ρ H (ρ ++ [a]) H := ⟨fun l b h => by
    rw [List.getElem?_append_left (List.getElem?_eq_some_iff.mp h).1]
    exact h, fun _ _ h => h, fun _ _ _ h => h⟩
  refine ⟨by simp [R.len], ?_, fun l b u h1 h2 => ?_⟩
  · refine List.nodup_append.mpr ⟨R.nd, by simp, fun x hm y hy => ?_⟩
    have e : y = a := by simpa using hy
    subst e
    exact fun z => ha (z ▸ hm)
  · by_cases hl : l < st.length
    · rw [List.getElem?_append_left hl] at h2
      rw [List.getElem?_append_left (by rw [R.len]; exact hl)] at h1
      exact (R.obj l b u h1 h2).ext hx rfl
    · rw [List.getElem?_append_right (by omega)] at h2
      have e0 : l - st.length = 0 := by
        obtain ⟨z, _⟩ := List.getElem?_eq_some_iff.mp h2
        simp at z
        omega
      rw [List.getElem?_append_right (by rw [R.len]; omega), R.len, e0] at h1
      rw [e0] at h2
      have e1 : a = b := by simpa using h1
      have e2 : q = u := by simpa using h2
      subst e1 e2
      exact hq
/-- {k: v} -/
theorem pe_dct1D (g : Gd cl cv k X c) {a b : Expr} {x y : E} {pos : Pos} (ha : PE X a (lE (pm X cv) W (evalE cl x))) (hb : PE X b (lE (pm X cv) W (evalE cl y))) : PE X (.Dict [some a] [b] pos) (lE (pm X cv) W (evalE cl (.dct1 x y))) := ⟨fun pins s σ H Q I q => by
  obtain ⟨ρ, env, st, er, R, gg⟩ := q
  rw [evalE] at gg
  obtain ⟨p, hp⟩ : ∃ p, p = s.heap.objs.size := ⟨_, rfl⟩
  have hn : H p = none := by rw [hp]; exact I.hok.fresh (Nat.le_refl _)
  have e0 : (s.heap.push { cls := .type "dict", data := .dict #[] }).get? p = some { cls := .type "dict", data := .dict #[] } := by rw [hp]; exact Heap.get?_push_size _ rfl
  obtain ⟨xs0, o0, es0, ep0, q1, q2, q3, q4, q5, q6⟩ := (⟨[], by rw [hp]; exact Heap.DictOfH.new s.heap⟩ : ∃ xs, (s.heap.push { cls := .type "dict", data := .dict #[] }).DictOfH (nestedKind X.prog X.w) p xs)
  rw [e0] at q1
  cases q1
  let o : HO := .ext fun h => h.get? p = some { cls := .type "dict", data := .dict #[] }
  have I1 : Inv X pins σ (upd H p o) { s with heap := s.heap.push { cls := .type "dict", data := .dict #[] } } := I.laid (a := p) (o := o) (t' := s.toks) (fun _ _ q => Heap.get?_push_of_some _ q) (by rw [hp]; exact Nat.le_refl _) (ext_ok e0)
  have R1 : Rel (pm X cv) ρ (upd H p o) st := R.grow hn o
  have x1 : Ext ρ H ρ (upd H p o) := Ext.grow hn o
  rw [arm_eval_Dict, zip_pairTrees [some a] [b] X.env pos rfl rfl, dictDisplay_pairs (pairTrees [some a] [b] X.env pos) (by simp [pairTrees]) (by simp [pairTrees])]
  refine wpAny_bind (wpAny_standAt (wpAny_bind (wpAny_subDictH (knd := nestedKind X.prog X.w) (room8' g.units) (by simp [pairTrees]) ?_)))
  refine pairTrees_cons_walk (thn (ha.run pins _ σ _ (fun v H2 => ∃ ρ2 st2 d, evalE cl x env st = .ok d st2 ∧ Ext ρ (upd H p o) ρ2 H2 ∧ Rel (pm X cv) ρ2 H2 st2 ∧ Rep X.K ρ2 H2 v d) I1 ⟨ρ, env, st, er.ext x1, R1, ?_⟩) fun u s2 hh => ?_)
  · cases hr : evalE cl x env st with
    | ok d st2 => exact fun ρ2 H2 e2 R2 v rv => ⟨ρ2, st2, d, rfl, e2, R2, rv⟩
    | exc c0 fs st2 =>
      rw [hr] at gg
      exact fun ρ2 H2 dd e2 R2 z => gg ρ2 H2 dd (x1.trans e2) R2 z
    | bad =>
      rw [hr] at gg
      exact gg
  obtain ⟨v, H2, I2, ru, ρ2, st2, d, hr, e2, R2, rv⟩ := hh
  rw [hr] at gg
  have gg1 : Got (pm X cv) ρ H ((evalE cl y env st2).bind fun y st => if isKey d = true then new (.dct [(d, y)]) st else .bad) (fun d _ ρ' H' => ∀ v, Rep X.K ρ' H' v d → Q v H') (fun c dd H' => W c dd σ H') := gg
  refine thn (hb.run pins s2 σ H2 (fun v' H3 => ∃ ρ3 st3 d', evalE cl y env st2 = .ok d' st3 ∧ Ext ρ2 H2 ρ3 H3 ∧ Rel (pm X cv) ρ3 H3 st3 ∧ Rep X.K ρ3 H3 v' d') I2 ⟨ρ2, env, st2, er.ext (x1.trans e2), R2, ?_⟩) fun u' s3 hh => ?_
  · cases hr2 : evalE cl y env st2 with
    | ok d' st3 => exact fun ρ3 H3 e3 R3 v' rv' => ⟨ρ3, st3, d', rfl, e3, R3, rv'⟩
    | exc c0 fs st3 =>
      rw [hr2] at gg1
      exact fun ρ3 H3 dd e3 R3 z => gg1 ρ3 H3 dd ((x1.trans e2).trans e3) R3 z
    | bad =>
      rw [hr2] at gg1
      exact gg1
  obtain ⟨v', H3, I3, ru', ρ3, st3, d', hr2, e3, R3, rv'⟩ := hh
  rw [hr2] at gg1
  have g3 : Got (pm X cv) ρ H (if isKey d = true then new (.dct [(d, d')]) st3 else .bad) (fun d _ ρ' H' => ∀ v, Rep X.K ρ' H' v d → Q v H') (fun c dd H' => W c dd σ H') := gg1
  refine pairTrees_nil_walk ?_
  split at g3
  · rename_i hk
    obtain ⟨ka, rfl, rfl, ki⟩ := key_is I3 hk (rv.ext e3) ru
    have e23 : Ext ρ (upd H p o) ρ3 H3 := e2.trans e3
    have hpn : p ∉ ρ := R.fresh hn
    have hp3 : H3 p = some o := e23.keep p o hpn upd_same
    have hpn3 : p ∉ ρ3 := fun z => by
      rcases e23.new p z with z | z
      · exact hpn z
      · rw [upd_same] at z; cases z
    have hg3 : s3.heap.get? p = some { cls := .type "dict", data := .dict #[] } := (I3.hok p _ hp3).1
    refine ⟨[(toK d, ka, u')], ⟨rfl, rfl, ki, trivial⟩, ?_, fun h' tk hm hs => ?_⟩
    · rw [← hp]
      exact ⟨_, #[], _, hg3, q2, rfl, by simp, by simp, by simp⟩
    · rw [← hp] at hm hs ⊢
      obtain ⟨o', es', ep', w1, w2, w3, w4, w5, w6⟩ := hm
      have I4 : Inv X pins σ (upd H3 p (.ext fun h => h.get? p = some o')) { s3 with heap := h', toks := tk } := I3.write (by rw [hp3]; trivial) (.inl rfl) (fun b u hb q => (hs.2 b hb).trans q) ⟨_, w1⟩ (ext_ok w1)
      have hmut : Mut (H3 p) := by rw [hp3]; trivial
      have R4 := R3.out (o := .ext fun h => h.get? p = some o') hpn3 hmut
      have x4 : Ext ρ H ρ3 (upd H3 p (.ext fun h => h.get? p = some o')) := Ext.out (x1.trans e23) hn hmut
      have x5 := Ext.adopt x4 hn
      have kp : Pre ρ3 H3 (ρ3 ++ [p]) (upd H3 p (.ext fun h => h.get? p = some o')) := ⟨fun l b h => by
        rw [List.getElem?_append_left (List.getElem?_eq_some_iff.mp h).1]
        exact h, (Pre.out (ρ := ρ3) hmut).tups, (Pre.out (ρ := ρ3) hmut).frzs⟩
      have R5 : Rel (pm X cv) (ρ3 ++ [p]) (upd H3 p (.ext fun h => h.get? p = some o')) (st3 ++ [.dct [(d, d')]]) := R4.adoptO hpn3
        ⟨o', [(toK d, ka, u')], es', ep', upd_same, beq_eq_false_iff_ne.mpr (by rw [hp]; exact Nat.ne_of_gt I.big), by rw [sizeLine_eq]; simp, w2, w3, w4, w6, .cons ⟨hk, rfl, (rv.ext e3).kept kp, v', ru', rv'.kept kp⟩ .nil⟩
      exact wpAny_pure ⟨.ref p, _, I4, rfl, g3 _ _ x5 R5 _ (Rep.new (K := X.K) R4)⟩
  · exact g3.elim⟩
/-- operators -/
theorem pe_binD (g : Gd cl cv k X c) {a b : Expr} {x y : E} {op : Operator} {pos : Pos} (ha : PE X a (lE (pm X cv) W (evalE cl x))) (hb : PE X b (lE (pm X cv) W (evalE cl y))) : PE X (.BinOp a op b pos) (lE (pm X cv) W (evalE cl (.bin op x y))) :=
  (pe_op (op_bin op) ha hb).mono fun σ H Q q => by
    obtain ⟨ρ, env, st, er, R, gg⟩ := q
    rw [evalE] at gg
    refine lE_bind er R gg fun x st1 ρ1 H1 v e1 R1 er1 rv g1 => ?_
    refine lE_bind er1 R1 g1 fun y st2 ρ2 H2 u e2 R2 er2 ru g2 => ?_
    exact ⟨_, ρ2, st2, x, y, R2, rv.ext e2, ru, g2⟩
theorem pe_negD {a : Expr} {x : E} {pos : Pos} (ha : PE X a (lE (pm X cv) W (evalE cl x))) : PE X (.UnaryOp .USub a pos) (lE (pm X cv) W (evalE cl (.neg x))) :=
  (pe_un un_neg ha).mono fun σ H Q q => by
    obtain ⟨ρ, env, st, er, R, gg⟩ := q
    rw [evalE] at gg
    refine lE_bind er R gg fun x st1 ρ1 H1 v e1 R1 er1 rv g1 => ?_
    obtain ⟨i, rfl, g2⟩ := got_asI g1
    cases rv
    exact ⟨i, rfl, Got.here R1 g2 _ (.int _)⟩
theorem pe_notD {a : Expr} {x : E} {pos : Pos} (ha : PE X a (lE (pm X cv) W (evalE cl x))) : PE X (.UnaryOp .Not a pos) (lE (pm X cv) W (evalE cl (.not x))) :=
  (pe_not ha).mono fun σ H Q q => by
    obtain ⟨ρ, env, st, er, R, gg⟩ := q
    rw [evalE] at gg
    refine lE_bind er R gg fun x st1 ρ1 H1 v e1 R1 er1 rv g1 => ?_
    obtain ⟨i, rfl, g2⟩ := got_asB g1
    cases rv
    exact ⟨i, rfl, Got.here R1 g2 _ (.bl _)⟩
/-- the evaluator's test -/
abbrev test (cl : Calls) (e : E) : En → Sto → Res Bool := fun env st => (evalE cl e env st).bind asB
theorem bind_assoc {α β γ : Type} (r : Res α) (f : α → Sto → Res β) (h : β → Sto → Res γ) : (r.bind f).bind h = r.bind fun a st => (f a st).bind h := by cases r <;> rfl
theorem bind_ite {α β : Type} (b : Bool) (x y : Res α) (f : α → Sto → Res β) : (if b = true then x else y).bind f = if b = true then x.bind f else y.bind f := by cases b <;> rfl
theorem pt_notD {a : Expr} {x : E} {pos : Pos} (ha : PT X a (lT (pm X cv) W (test cl x))) : PT X (.UnaryOp .Not a pos) (lT (pm X cv) W (test cl (.not x))) :=
  (pt_not ha).mono fun σ H Q q => by
    obtain ⟨ρ, env, st, er, R, gg⟩ := q
    have e : test cl (.not x) env st = (test cl x env st).bind fun b st => .ok (!b) st := by
      show (evalE cl (.not x) env st).bind asB = ((evalE cl x env st).bind asB).bind _
      rw [evalE, bind_assoc, bind_assoc]
      congr 1
      funext d st
      cases d <;> rfl
    rw [e] at gg
    exact lT_bind er R gg fun b st1 ρ1 H1 e1 R1 er1 g1 => Got.here R1 g1
/-- a test is a value that is a bool -/
theorem lT_lE {e : E} {σ : L2.St} {H : Hp} {Q : Bool → Hp → Prop} {p : Pm} (h : lT p W (test cl e) σ H Q) : lE p W (evalE cl e) σ H (fun x H1 => ∃ b, x = .bl b ∧ Q b H1) := by
  obtain ⟨ρ, env, st, er, R, gg⟩ := h
  refine lE_bind er R gg fun x st1 ρ1 H1 v e1 R1 er1 rv g1 => ?_
  obtain ⟨b, rfl, g2⟩ := asB_some g1
  cases rv
  exact ⟨b, rfl, Got.here R1 g2⟩
theorem pt_leafD {a : Expr} {x : E} (hl : leafE a = true) (ha : PE X a (lE (pm X cv) W (evalE cl x))) : PT X a (lT (pm X cv) W (test cl x)) :=
  (pt_val ha (leaf_true hl)).mono fun σ H Q q => lT_lE q
theorem rd_cmp {x y : E} {op : CmpOp} {p : Pm} {σ : L2.St} {H : Hp} {Q : VK} (h : lE p W (evalE cl (.cmp op x y)) σ H Q) : tOp (OpD p fun x y st => (Res.of (cmp op x y st) st).bind fun b st => .ok (.bl b) st) (lE p W (evalE cl x)) (lE p W (evalE cl y)) σ H Q := by
  obtain ⟨ρ, env, st, er, R, gg⟩ := h
  rw [evalE] at gg
  refine lE_bind er R gg fun x st1 ρ1 H1 v e1 R1 er1 rv g1 => ?_
  refine lE_bind er1 R1 g1 fun y st2 ρ2 H2 u e2 R2 er2 ru g2 => ?_
  exact ⟨_, ρ2, st2, x, y, R2, rv.ext e2, ru, g2⟩
theorem pe_cmpD (g : Gd cl cv k X c) {a b : Expr} {x y : E} {op : CmpOp} {pos : Pos} (hp : plainE b = true) (ha : PE X a (lE (pm X cv) W (evalE cl x))) (hb : PE X b (lE (pm X cv) W (evalE cl y))) : PE X (.Compare a [op] [b] pos) (lE (pm X cv) W (evalE cl (.cmp op x y))) :=
  (pe_cmpR (op_cmp (cv := cv) g.units op) ha hb (plain_mark hp)).mono fun σ H Q q => rd_cmp q
theorem pt_cmpD (g : Gd cl cv k X c) {a b : Expr} {x y : E} {op : CmpOp} {pos : Pos} (hp : plainE b = true) (ha : PE X a (lE (pm X cv) W (evalE cl x))) (hb : PE X b (lE (pm X cv) W (evalE cl y))) : PT X (.Compare a [op] [b] pos) (lT (pm X cv) W (test cl (.cmp op x y))) :=
  (pt_cmpR (op_cmp (cv := cv) g.units op) ha hb (plain_mark hp)).mono fun σ H Q q => rd_cmp (lT_lE q)
/-- a chain of two -/
abbrev cmpM (op : CmpOp) : D → D → Sto → Res D := fun x y st => (Res.of (cmp op x y st) st).bind fun b st => .ok (.bl b) st
theorem rd_chn {x y z : E} {op op' : CmpOp} {p : Pm} {σ : L2.St} {H : Hp} {Q : VK} (h : lE p W (evalE cl (.chn op op' x y z)) σ H Q) : tChain (OpD p (cmpM op)) (OpD p (cmpM op')) (lE p W (evalE cl x)) (lE p W (evalE cl y)) (lE p W (evalE cl z)) σ H Q := by
  obtain ⟨ρ, env, st, er, R, gg⟩ := h
  rw [evalE] at gg
  refine lE_bind er R gg fun x st1 ρ1 H1 v e1 R1 er1 rv g1 => ?_
  refine lE_bind er1 R1 g1 fun y st2 ρ2 H2 u e2 R2 er2 ru g2 => ?_
  obtain ⟨b, hb, g3⟩ := got_of g2
  refine ⟨fun _ _ _ => True, ρ2, st2, x, y, R2, rv.ext e2, ru, ?_⟩
  show Got p ρ2 H2 ((Res.of (cmp op x y st2) st2).bind _) _ _
  rw [hb]
  intro ρ3 H3 e3 R3 v3 rv3
  cases rv3
  refine ⟨b, rfl, ?_⟩
  cases b with
  | false =>
    refine ite_ff ?_
    exact g3 ρ3 H3 e3 R3 _ (.bl _)
  | true =>
    refine ite_tt ?_
    have g4 : Got p ρ2 H2 ((evalE cl z env st2).bind fun z st => (Res.of (cmp op' y z st) st).bind fun k st => .ok (D.bl k) st) _ _ := g3
    refine lE_bind (er2.ext e3) R3 (g4.step e3) fun z st4 ρ4 H4 w e4 R4 er4 rw' g5 => ?_
    exact ⟨_, ρ4, st4, y, z, R4, (ru.ext e3).ext e4, rw', g5⟩
theorem last_mark {op op' : CmpOp} {b d : Expr} (h : plainE d = true) : lastMarks [op, op'] [b, d] = false := plain_mark h
theorem pe_chnD (g : Gd cl cv k X c) {a b d : Expr} {x y z : E} {op op' : CmpOp} {pos : Pos} (hp' : plainE d = true) (ha : PE X a (lE (pm X cv) W (evalE cl x))) (hb : PE X b (lE (pm X cv) W (evalE cl y))) (hd : PE X d (lE (pm X cv) W (evalE cl z))) :
    PE X (.Compare a [op, op'] [b, d] pos) (lE (pm X cv) W (evalE cl (.chn op op' x y z))) :=
  (pe_chain (op_cmp (cv := cv) g.units op) (op_cmp (cv := cv) g.units op') ha hb hd (last_mark hp')).mono fun σ H Q q => rd_chn q
theorem pt_chnD (g : Gd cl cv k X c) {a b d : Expr} {x y z : E} {op op' : CmpOp} {pos : Pos} (hp' : plainE d = true) (ha : PE X a (lE (pm X cv) W (evalE cl x))) (hb : PE X b (lE (pm X cv) W (evalE cl y))) (hd : PE X d (lE (pm X cv) W (evalE cl z))) :
    PT X (.Compare a [op, op'] [b, d] pos) (lT (pm X cv) W (test cl (.chn op op' x y z))) :=
  (pt_chain (op_cmp (cv := cv) g.units op) (op_cmp (cv := cv) g.units op') ha hb hd (last_mark hp')).mono fun σ H Q q => rd_chn (lT_lE q)
/-- and, or -/
theorem pe_bop1 {op : BoolOp} {a : Expr} {x : E} {pos : Pos} (ha : PE X a (lE (pm X cv) W (evalE cl x))) : PE X (.BoolOp op [a] pos) (lE (pm X cv) W (evalB cl op [x])) :=
  (pe_one ha).mono fun σ H Q q => by
    obtain ⟨ρ, env, st, er, R, gg⟩ := q
    rw [evalB] at gg
    refine lE_bind er R gg fun x st1 ρ1 H1 v e1 R1 er1 rv g1 => ?_
    obtain ⟨b, rfl, g2⟩ := got_asB g1
    exact Got.here R1 g2 v rv
theorem pe_bop2 {op : BoolOp} {a b : Expr} {as : List Expr} {x y : E} {ys : List E} {pos : Pos} (ha : PE X a (lE (pm X cv) W (evalE cl x))) (hr : PE X (.BoolOp op (b :: as) pos) (lE (pm X cv) W (evalB cl op (y :: ys)))) :
    PE X (.BoolOp op (a :: b :: as) pos) (lE (pm X cv) W (evalB cl op (x :: y :: ys))) := by
  cases op with
  | And =>
    refine (pe_and ha hr).mono fun σ H Q q => ?_
    obtain ⟨ρ, env, st, er, R, gg⟩ := q
    rw [evalB] at gg
    refine lE_bind er R gg fun x st1 ρ1 H1 v e1 R1 er1 rv g1 => ?_
    obtain ⟨b, rfl, g2⟩ := got_asB g1
    cases rv
    refine ⟨b, rfl, ?_⟩
    cases b with
    | true => exact ite_tt ⟨ρ1, env, st1, er1, R1, g2⟩
    | false => exact ite_ff (Got.here R1 g2 _ (.bl _))
  | Or =>
    refine (pe_or ha hr).mono fun σ H Q q => ?_
    obtain ⟨ρ, env, st, er, R, gg⟩ := q
    rw [evalB] at gg
    refine lE_bind er R gg fun x st1 ρ1 H1 v e1 R1 er1 rv g1 => ?_
    obtain ⟨b, rfl, g2⟩ := got_asB g1
    cases rv
    refine ⟨b, rfl, ?_⟩
    cases b with
    | true => exact ite_tt (Got.here R1 g2 _ (.bl _))
    | false => exact ite_ff ⟨ρ1, env, st1, er1, R1, g2⟩
abbrev testB (cl : Calls) (op : BoolOp) (es : List E) : En → Sto → Res Bool := fun env st => (evalB cl op es env st).bind asB
theorem pw_bop1 {op : BoolOp} {a : Expr} {x : E} {pos : Pos} (ha : PT X a (lT (pm X cv) W (test cl x))) : PW X (.BoolOp op [a] pos) (lT (pm X cv) W (testB cl op [x])) := by
  have rd : ∀ σ H Q, lT (pm X cv) W (testB cl op [x]) σ H Q → lT (pm X cv) W (test cl x) σ H Q := fun σ H Q q => by
    obtain ⟨ρ, env, st, er, R, gg⟩ := q
    have e : testB cl op [x] env st = test cl x env st := by
      show (evalB cl op [x] env st).bind asB = (evalE cl x env st).bind asB
      rw [evalB, bind_assoc]
      congr 1
      funext d st
      cases d <;> rfl
    rw [e] at gg
    exact ⟨ρ, env, st, er, R, gg⟩
  cases op with
  | And => exact (pw_and1 ha).mono rd
  | Or => exact (pw_or1 ha).mono rd
theorem pw_bop2 {op : BoolOp} {a b : Expr} {as : List Expr} {x y : E} {ys : List E} {pos : Pos} (ha : PT X a (lT (pm X cv) W (test cl x))) (hr : PW X (.BoolOp op (b :: as) pos) (lT (pm X cv) W (testB cl op (y :: ys)))) :
    PW X (.BoolOp op (a :: b :: as) pos) (lT (pm X cv) W (testB cl op (x :: y :: ys))) := by
  have e : ∀ env st, testB cl op (x :: y :: ys) env st = (test cl x env st).bind fun b st => match op with
      | .And => if b = true then testB cl .And (y :: ys) env st else .ok false st
      | .Or => if b = true then .ok true st else testB cl .Or (y :: ys) env st := fun env st => by
    show (evalB cl op (x :: y :: ys) env st).bind asB = ((evalE cl x env st).bind asB).bind _
    rw [evalB, bind_assoc, bind_assoc]
    congr 1
    funext d st
    cases d with
    | bl b => cases op <;> cases b <;> rfl
    | _ => rfl
  cases op with
  | And =>
    refine (pw_and ha hr).mono fun σ H Q q => ?_
    obtain ⟨ρ, env, st, er, R, gg⟩ := q
    rw [e] at gg
    refine lT_bind er R gg fun b st1 ρ1 H1 e1 R1 er1 g1 => ?_
    cases b with
    | true => exact ite_tt ⟨ρ1, env, st1, er1, R1, g1⟩
    | false => exact ite_ff (Got.here R1 g1)
  | Or =>
    refine (pw_or ha hr).mono fun σ H Q q => ?_
    obtain ⟨ρ, env, st, er, R, gg⟩ := q
    rw [e] at gg
    refine lT_bind er R gg fun b st1 ρ1 H1 e1 R1 er1 g1 => ?_
    cases b with
    | true => exact ite_tt (Got.here R1 g1)
    | false => exact ite_ff ⟨ρ1, env, st1, er1, R1, g1⟩
/-- a if t else b -/
theorem rd_ite {t x y : E} {p : Pm} {σ : L2.St} {H : Hp} {Q : VK} (h : lE p W (evalE cl (.ite t x y)) σ H Q) : tIf (lT p W (test cl t)) (lE p W (evalE cl x)) (lE p W (evalE cl y)) σ H Q := by
  obtain ⟨ρ, env, st, er, R, gg⟩ := h
  rw [evalE, ← bind_assoc] at gg
  refine lT_bind er R gg fun b st1 ρ1 H1 e1 R1 er1 g1 => ?_
  cases b with
  | true => exact ite_tt ⟨ρ1, env, st1, er1, R1, g1⟩
  | false => exact ite_ff ⟨ρ1, env, st1, er1, R1, g1⟩
theorem pe_iteD {t a b : Expr} {u x y : E} {pos : Pos} (ht : PT X t (lT (pm X cv) W (test cl u))) (ha : PE X a (lE (pm X cv) W (evalE cl x))) (hb : PE X b (lE (pm X cv) W (evalE cl y))) : PE X (.IfExp t a b pos) (lE (pm X cv) W (evalE cl (.ite u x y))) :=
  (pe_ifExp ht ha hb).mono fun _ _ _ q => rd_ite q
theorem pt_iteD {t a b : Expr} {u x y : E} {pos : Pos} (ht : PT X t (lT (pm X cv) W (test cl u))) (ha : PT X a (lT (pm X cv) W (test cl x))) (hb : PT X b (lT (pm X cv) W (test cl y))) : PT X (.IfExp t a b pos) (lT (pm X cv) W (test cl (.ite u x y))) := ⟨fun pins s σ H Q I q => by
  obtain ⟨ρ, env, st, er, R, gg⟩ := q
  have e : test cl (.ite u x y) env st = (test cl u env st).bind fun b st => if b = true then test cl x env st else test cl y env st := by
    show (evalE cl (.ite u x y) env st).bind asB = ((evalE cl u env st).bind asB).bind _
    rw [evalE, bind_assoc, bind_assoc]
    congr 1
    funext d st
    rw [bind_assoc]
    congr 1
    funext b st
    cases b <;> rfl
  rw [e] at gg
  have h1 : lT (pm X cv) W (test cl u) σ H (fun b H1 => (b = true → lT (pm X cv) W (test cl x) σ H1 Q) ∧ (b = false → lT (pm X cv) W (test cl y) σ H1 Q)) :=
    lT_bind er R gg fun b st1 ρ1 H1 e1 R1 er1 g1 => by
      refine ⟨fun z => ?_, fun z => ?_⟩
      · subst z
        exact ⟨ρ1, env, st1, er1, R1, g1⟩
      · subst z
        exact ⟨ρ1, env, st1, er1, R1, g1⟩
  show wpAny (model X.prog X.w) X.A (isTrue (.IfExp t a b pos) X.env (eval (.IfExp t a b pos) X.env)) _ _ _
  rw [PySem.isTrue]
  refine wpAny_bind (thn (ht.run pins s σ H _ I h1) fun d s1 ⟨H1, I1, q1⟩ => ?_)
  cases d with
  | true =>
    rw [if_pos rfl]
    exact ha.run pins s1 σ H1 Q I1 (q1.1 rfl)
  | false =>
    rw [if_neg Bool.false_ne_true]
    exact hb.run pins s1 σ H1 Q I1 (q1.2 rfl)⟩
/-- subscripts and slices -/
theorem pe_ixD (g : Gd cl cv k X c) {a b : Expr} {x y : E} {pos : Pos} (hp : plainE b = true) (ha : PE X a (lE (pm X cv) W (evalE cl x))) (hb : PE X b (lE (pm X cv) W (evalE cl y))) : PE X (.Subscript a b pos) (lE (pm X cv) W (evalE cl (.ix x y))) :=
  (pe_ix (ix_ok (cv := cv) g.units) ha hb (plain_ix hp)).mono fun σ H Q q => by
    obtain ⟨ρ, env, st, er, R, gg⟩ := q
    rw [evalE] at gg
    refine lE_bind er R gg fun x st1 ρ1 H1 v e1 R1 er1 rv g1 => ?_
    refine lE_bind er1 R1 g1 fun y st2 ρ2 H2 u e2 R2 er2 ru g2 => ?_
    exact ⟨_, ρ2, st2, x, y, R2, rv.ext e2, ru, g2⟩
theorem po_noneD : PO X none (lO (pm X cv) W (evalO cl none)) := po_none.mono fun σ H Q q => by
  obtain ⟨ρ, env, st, er, R, gg⟩ := q
  rw [evalO] at gg
  exact Got.here R gg
theorem po_someD {a : Expr} {x : E} (ha : PE X a (lE (pm X cv) W (evalE cl x))) : PO X (some a) (lO (pm X cv) W (evalO cl (some x))) := (po_some ha).mono fun σ H Q q => by
  obtain ⟨ρ, env, st, er, R, gg⟩ := q
  rw [evalO] at gg
  refine lE_bind er R gg fun x st1 ρ1 H1 v e1 R1 er1 rv g1 => ?_
  obtain ⟨i, rfl, g2⟩ := got_asI g1
  cases rv
  exact ⟨i, rfl, Got.here R1 g2⟩
theorem pe_slD {a : Expr} {lo hi : Option Expr} {x : E} {l h : Option E} {p2 pos : Pos} (ha : PE X a (lE (pm X cv) W (evalE cl x))) (hl : PO X lo (lO (pm X cv) W (evalO cl l))) (hh : PO X hi (lO (pm X cv) W (evalO cl h))) :
    PE X (.Subscript a (.Slice lo hi none p2) pos) (lE (pm X cv) W (evalE cl (.sl x l h))) :=
  (pe_slice (sl_ok (cv := cv)) ha hl hh).mono fun σ H Q q => by
    obtain ⟨ρ, env, st, er, R, gg⟩ := q
    rw [evalE] at gg
    refine lE_bind er R gg fun x st1 ρ1 H1 v e1 R1 er1 rv g1 => ?_
    refine lO_bind er1 R1 g1 fun l st2 ρ2 H2 e2 R2 er2 g2 => ?_
    refine lO_bind er2 R2 g2 fun h st3 ρ3 H3 e3 R3 er3 g3 => ?_
    exact ⟨_, ρ3, st3, x, R3, (rv.ext e2).ext e3, g3⟩
/-- calls -/
theorem evalEs_fill (m : Nat) : ∀ (es : List E) (env : En) (st : Sto), evalEs cl (es ++ List.replicate m (.cst .non)) env st = (evalEs cl es env st).bind fun xs st => .ok (xs ++ List.replicate m .non) st
  | [], env, st => by
    rw [evalEs, List.nil_append, Res.bind_ok]
    induction m with
    | zero => rw [List.replicate_zero, evalEs]; rfl
    | succ m ih => rw [List.replicate_succ, evalEs, evalE, Res.bind_ok, ih, Res.bind_ok, List.replicate_succ]; rfl
  | e :: es, env, st => by
    rw [List.cons_append, evalEs, evalEs, bind_assoc]
    congr 1
    funext x st1
    rw [evalEs_fill m es env st1, bind_assoc, bind_assoc]
    rfl
theorem Reps.nons {K : PySem.W.Frag} {ρ : List Addr} {H : Hp} : ∀ m : Nat, Reps K ρ H (List.replicate m V.non) (List.replicate m D.non)
  | 0 => .nil
  | m + 1 => .cons .non (Reps.nons m)
theorem pe_fnD (g : Gd cl cv k X c) (tk : Takes X W) {x : Str} {p pos : Pos} {as : List Expr} {es : List E} {i n m : Nat} (hg : c.glob x = true) (hi : ixOf c.fs x = some i) (hm : c.tail x n = some m) (hne : as ≠ []) (hp : ∀ a ∈ as, plainE a = true) (ha : PA X as (lA (pm X cv) W (evalEs cl es))) :
    PE X (.Call (.Name x p) as [] pos) (lE (pm X cv) W (evalE cl (.fn i (es ++ List.replicate m (.cst .non))))) := by
  obtain ⟨g1, g2⟩ := g.glob hg
  obtain ⟨d1, d2, d3⟩ := plain_parts g2
  obtain ⟨fa, fd, ps, m1, m2, m3, F⟩ := g.fns i x (ixOf_at hi)
  obtain ⟨dv, v1, v2⟩ := m3 n m hm
  have rd : ∀ σ H Q, lE (pm X cv) W (evalE cl (.fn i (es ++ List.replicate m (.cst .non)))) σ H Q → tCallSD (spOf (pm X cv) (cl i)) (List.replicate m V.non) (fun σ => WE W σ) (lA (pm X cv) W (evalEs cl es)) σ H Q := fun σ H Q q => by
    obtain ⟨ρ, env, st, er, R, gg⟩ := q
    rw [evalE, evalEs_fill, bind_assoc] at gg
    refine lA_bind er R gg fun xs st1 ρ1 H1 vs e1 R1 er1 rvs g1 => ?_
    rw [Res.bind_ok] at g1
    exact ⟨ρ1, st1, xs ++ List.replicate m D.non, R1, rvs.append (Reps.nons m), g1⟩
  cases as with
  | nil => exact absurd rfl hne
  | cons a as =>
    refine (pe_callSD F g.room g1 m1 m2 v2 v1 (fun σ => passAt tk σ) ha d1 (star_cons (hp a List.mem_cons_self)) (plain_any (fun e he => hp e (List.mem_cons_of_mem _ he)) pos)).mono rd
theorem biTab_ok : ∀ p ∈ biTab, bootBuiltins p.1 = some (biVal p.2.2) ∧ p.1 ∈ bltNames := by
  have h : (biTab.all fun p => decide (bootBuiltins p.1 = some (biVal p.2.2)) && decide (p.1 ∈ bltNames)) = true := by decide +kernel
  intro p hp
  have q := List.all_eq_true.mp h p hp
  rw [Bool.and_eq_true, decide_eq_true_eq, decide_eq_true_eq] at q
  exact q
theorem biOf_ok {x : Str} {n : Nat} {f : Bi} (h : biOf x n = some f) : bootBuiltins x = some (biVal f) ∧ x ∈ bltNames := by
  unfold biOf at h
  obtain ⟨p, hp, rfl⟩ := Option.map_eq_some_iff.mp h
  have h1 := List.find?_some hp
  rw [Bool.and_eq_true, decide_eq_true_eq] at h1
  obtain ⟨q1, q2⟩ := biTab_ok p (List.mem_of_find?_eq_some hp)
  rw [h1.1] at q1 q2
  exact ⟨q1, q2⟩
theorem pe_biD (g : Gd cl cv k X c) {x : Str} {p pos : Pos} {a : Expr} {as : List Expr} {es : List E} {n : Nat} {f : Bi} (hg : c.glob x = true) (hf : biOf x n = some f) (hp : ∀ b ∈ a :: as, plainE b = true) (ha : PA X (a :: as) (lA (pm X cv) W (evalEs cl es))) :
    PE X (.Call (.Name x p) (a :: as) [] pos) (lE (pm X cv) W (evalE cl (.bi f es))) := by
  obtain ⟨g1, g2⟩ := g.glob hg
  obtain ⟨d1, d2, d3⟩ := plain_parts g2
  obtain ⟨b1, b2⟩ := biOf_ok hf
  have hm := g.blt x b2
  have rd : ∀ σ H Q, lE (pm X cv) W (evalE cl (.bi f es)) σ H Q → tCB (CalD (pm X cv) (bi f)) (lA (pm X cv) W (evalEs cl es)) σ H Q := fun σ H Q q => by
    obtain ⟨ρ, env, st, er, R, gg⟩ := q
    rw [evalE] at gg
    refine lA_bind er R gg fun xs st1 ρ1 H1 vs e1 R1 er1 rvs g1 => ?_
    exact ⟨_, ρ1, st1, xs, R1, rvs, g1⟩
  have hs := star_cons (es := as) (env := X.env) (hp a List.mem_cons_self)
  have hpl := plain_any (env := X.env) (fun e he => hp e (List.mem_cons_of_mem _ he)) pos
  have hc := bi_ok (X := X) (cv := cv) g.calm g.units f
  cases f <;> first
    | exact (pe_callB hc g1 hm b1 ha d3 d1 hs hpl).mono rd
    | exact (pe_callTy hc g1 hm b1 ha d3 d1 hs hpl).mono rd
theorem tyTab_ok : ∀ p ∈ tyTab, bootBuiltins p.1 = some (.type (tyName p.2)) ∧ p.1 ∈ bltNames := by
  have h : (tyTab.all fun p => decide (bootBuiltins p.1 = some (.type (tyName p.2))) && decide (p.1 ∈ bltNames)) = true := by decide +kernel
  intro p hp
  have q := List.all_eq_true.mp h p hp
  rw [Bool.and_eq_true, decide_eq_true_eq, decide_eq_true_eq] at q
  exact q
theorem tyNamed_ok {x : Str} {t : Ty} (h : tyNamed x = some t) : bootBuiltins x = some (.type (tyName t)) ∧ x ∈ bltNames := by
  unfold tyNamed at h
  obtain ⟨p, hp, rfl⟩ := Option.map_eq_some_iff.mp h
  have h1 := List.find?_some hp
  rw [decide_eq_true_eq] at h1
  obtain ⟨q1, q2⟩ := tyTab_ok p (List.mem_of_find?_eq_some hp)
  rw [h1] at q1 q2
  exact ⟨q1, q2⟩
def rIsiD (p : Pm) (t : Ty) : List V → Hp → VK → Prop := fun xs H Q => ∃ ρ st v d b, xs = [v, .ty (tyName t)] ∧ Rel p ρ H st ∧ Rep p.K ρ H v d ∧ isi st d t = some b ∧ Q (.bl b) H
theorem pe_isiD (g : Gd cl cv k X c) {tn : Str} {p p' pos : Pos} {a : Expr} {e : E} {t : Ty} (hg : c.glob "isinstance" = true) (hg' : c.glob tn = true) (ht : tyNamed tn = some t) (hp : plainE a = true) (ha : PE X a (lE (pm X cv) W (evalE cl e))) :
    PE X (.Call (.Name "isinstance" p) [a, .Name tn p'] [] pos) (lE (pm X cv) W (evalE cl (.isi e t))) := by
  obtain ⟨g1, g2⟩ := g.glob hg
  obtain ⟨d1, d2, d3⟩ := plain_parts g2
  obtain ⟨g1', g2'⟩ := g.glob hg'
  obtain ⟨d1', d2', d3'⟩ := plain_parts g2'
  obtain ⟨b1, b2⟩ := tyNamed_ok ht
  have hc : CallR X (.builtin "isinstance") (rIsiD (pm X cv) t) := by
    intro pins s σ H xs us Q I rv h
    obtain ⟨ρ, st, v, d, b, rfl, R, r, hb, q⟩ := h
    exact isi_ok I R r hb rv q
  have hT : PE X (.Name tn p') (tC (.ty (tyName t))) := pe_bltn g1' (g.blt tn b2) b1 rfl d3' d1'
  refine (pe_callB hc g1 (g.blt _ (by decide)) (by decide +kernel) (pa_cons ha (pa_cons hT pa_nil) (star_cons hp)) d3 d1 (star_cons hp) (plain_any (es := [.Name tn p']) (fun e he => ?_) pos)).mono fun σ H Q q => ?_
  · simp at he
    subst he
    rfl
  · obtain ⟨ρ, env, st, er, R, gg⟩ := q
    rw [evalE] at gg
    refine lE_bind er R gg fun x st1 ρ1 H1 v e1 R1 er1 rv g1 => ?_
    obtain ⟨b, hb, g2⟩ := got_of g1
    exact ⟨ρ1, st1, v, x, b, rfl, R1, rv, hb, Got.here R1 g2 _ (.bl b)⟩
/-- methods -/
theorem mtTab_ok : ∀ p ∈ mtTab, p.1 = mtName p.2.2 ∧ p.2.1 ≤ 2 := by
  intro p hp
  simp only [mtTab, List.mem_cons, List.not_mem_nil, or_false] at hp
  rcases hp with rfl | rfl | rfl | rfl | rfl | rfl | rfl <;> exact ⟨rfl, by simp⟩
theorem mtOf_ok {x : Str} {n : Nat} {m : Mt} (h : mtOf x n = some m) : x = mtName m ∧ n ≤ 2 := by
  unfold mtOf at h
  obtain ⟨p, hp, rfl⟩ := Option.map_eq_some_iff.mp h
  have h1 := List.find?_some hp
  rw [Bool.and_eq_true, decide_eq_true_eq, decide_eq_true_eq] at h1
  rw [← h1.1, ← h1.2]
  exact mtTab_ok p (List.mem_of_find?_eq_some hp)
theorem kindM_ok {m : Mt} {st : Sto} {d : D} {kd : Kd} (h : kindM m st d = some kd) : kindD st d = some kd ∧ mtId kd m ≠ "" := by
  unfold kindM at h
  split at h
  · rename_i k hk
    split at h
    · rename_i ho
      cases h
      refine ⟨hk, ?_⟩
      cases kd <;> cases m <;> first | decide | (simp [mtOk] at ho)
    · cases h
  · cases h
theorem pe_mtD (g : Gd cl cv k X c) {o : Expr} {apos pos : Pos} {as : List Expr} {x : E} {es : List E} {m : Mt} (ho : okBase o = true) (hl : (apos.endLine == pos.line) = true) (hp : ∀ b ∈ as, plainE b = true) (hlen : as.length < 20) (hes : as = [] → es = [])
    (hx : PE X o (lE (pm X cv) W (evalE cl x))) (ha : PA X as (lA (pm X cv) W (evalEs cl es))) : PE X (.Call (.Attribute o (mtName m) apos) as [] pos) (lE (pm X cv) W (evalE cl (.mt m x es))) := by
  refine ⟨fun pins s σ H Q I q => ?_⟩
  obtain ⟨ρ, env, st, er, R, gg⟩ := q
  rw [evalE] at gg
  have hx' : lE (pm X cv) W (evalE cl x) σ H (fun v H1 => ∃ d st1 ρ1 kd, Rel (pm X cv) ρ1 H1 st1 ∧ EnvR X.K ρ1 H1 σ env ∧ Rep X.K ρ1 H1 v d ∧ kindM m st1 d = some kd ∧
      Got (pm X cv) ρ1 H1 ((evalEs cl es env st1).bind fun ds st => mt kd m d ds st) (fun d _ ρ' H' => ∀ v, Rep X.K ρ' H' v d → Q v H') (fun c dd H' => W c dd σ H')) :=
    lE_bind er R gg fun d st1 ρ1 H1 v e1 R1 er1 rv g1 => by
      obtain ⟨kd, hk, g2⟩ := got_of g1
      exact ⟨d, st1, ρ1, kd, R1, er1, rv, hk, g2⟩
  have hfew : ((backTo pos (starEach as X.env)).all (fun x => !x.1) && (backToKw pos (keywordEach [] X.env)).all (fun x => x.1.isSome) && decide (as.length + ([] : List Keyword).length + (if ([] : List Keyword).isEmpty then 0 else 1) < 30)) = true := by
    rw [plain_all hp]
    show (true && true && decide (as.length + 0 + 0 < 30)) = true
    rw [decide_eq_true (by omega)]
    rfl
  refine wpAny_Call_method_late (base_ok ho) hfew hl rfl (thn (hx.run pins s σ H _ I hx') fun u s1 ⟨v, H1, I1, ru, d, st1, ρ1, kd, R1, er1, rv, hk, g2⟩ => ?_)
  obtain ⟨hk1, hk2⟩ := kindM_ok hk
  obtain ⟨m1, m2, m3⟩ := mt_slot hk2
  obtain ⟨t1, t2⟩ := kind_is I1 R1 rv ru hk1
  refine ⟨kdT kd, mtId kd m, m1, m2, m3, t1, t2, ?_⟩
  cases as with
  | nil =>
    have e0 : es = [] := hes rfl
    subst e0
    have g3 : Got (pm X cv) ρ1 H1 (mt kd m d [] st1) (fun d _ ρ' H' => ∀ v, Rep X.K ρ' H' v d → Q v H') (fun c dd H' => W c dd σ H') := by
      rw [evalEs] at g2
      exact g2
    exact Calls.callWith_builtin rfl (PySem.evalArgs_none (mt_ok g.units I1 R1 rv .nil ru .nil g3).2)
  | cons a as =>
  have hA := ha.run pos pins s1 σ H1 (fun vs H2 => ∃ ds st2 ρ2, Ext ρ1 H1 ρ2 H2 ∧ Rel (pm X cv) ρ2 H2 st2 ∧ Reps X.K ρ2 H2 vs ds ∧ Got (pm X cv) ρ2 H2 (mt kd m d ds st2) (fun d _ ρ' H' => ∀ v, Rep X.K ρ' H' v d → Q v H') (fun c dd H' => W c dd σ H')) I1
    (lA_bind er1 R1 g2 fun ds st2 ρ2 H2 vs e2 R2 er2 rvs g3 => ⟨ds, st2, ρ2, e2, R2, rvs, g3⟩)
  have hst := star_cons (es := as) (env := X.env) (hp a List.mem_cons_self)
  have hpl := plain_any (env := X.env) hp pos
  rw [hst] at hA hpl ⊢
  refine Calls.callWith_builtin hpl (Calls.evalArgs_plain ?_)
  refine thn hA fun us s2 ⟨vs, H2, I2, r2, ds, st2, ρ2, e2, R2, rvs, g3⟩ => ?_
  exact (mt_ok g.units I2 R2 (rv.ext e2) rvs ru r2 g3).2
end
end Ev

/-! Targets, walks, comprehensions; all expressions. -/
namespace Ev
open PySem PySem.Spec PyProof.Rows L2

/-! ### targets -/
/-- only these slots have changed -/
def But (sl : List Nat) (σ σ' : L2.St) : Prop := σ'.length = σ.length ∧ ∀ i, i ∉ sl → σ'[i]? = σ[i]?
theorem But.trans {a b : List Nat} {σ σ1 σ2 : L2.St} (h : But a σ σ1) (h' : But b σ1 σ2) : But (a ++ b) σ σ2 :=
  ⟨h'.1.trans h.1, fun i hi => (h'.2 i fun z => hi (List.mem_append_right _ z)).trans (h.2 i fun z => hi (List.mem_append_left _ z))⟩
theorem wipe_at (σ : L2.St) : ∀ (vs : List Nat) (i : Nat), (L2.wipe σ vs)[i]? = if i ∈ vs then (if i < σ.length then some none else none) else σ[i]?
  | [], i => by simp [L2.wipe]
  | v :: vs, i => by
    unfold L2.wipe
    by_cases hv : v = i
    · subst hv
      by_cases hl : v < σ.length
      · rw [List.getElem?_set_self (by rw [wipe_length]; exact hl)]
        simp [hl]
      · rw [List.getElem?_eq_none (by simp [wipe_length]; omega)]
        simp [hl]
    · rw [List.getElem?_set_ne hv, wipe_at σ vs i]
      have e : (i ∈ v :: vs) ↔ (i ∈ vs) := by
        rw [List.mem_cons]
        exact ⟨fun h => h.resolve_left fun z => hv z.symm, .inr⟩
      simp only [e]
theorem wipe_but {sl vs : List Nat} {σ σ' : L2.St} (h : But sl (L2.wipe σ vs) σ') (hs : ∀ i ∈ sl, i ∈ vs) : L2.wipe σ' vs = L2.wipe σ vs := by
  apply List.ext_getElem?
  intro i
  have hl : σ'.length = σ.length := by rw [h.1, wipe_length]
  rw [wipe_at, hl]
  by_cases hi : i ∈ vs
  · rw [if_pos hi, wipe_at, if_pos hi]
  · rw [if_neg hi]
    exact h.2 i fun z => hi (hs i z)
def lG (p : Pm) (t : Tg) : TG := fun v σ H Q => ∃ ρ env st d env', EnvR p.K ρ H σ env ∧ Rel p ρ H st ∧ Rep p.K ρ H v d ∧ bindT st t d env = some env' ∧ ∀ σ', EnvR p.K ρ H σ' env' → But (tgSlots t) σ σ' → Q σ' H
def lGs (p : Pm) (ts : List Tg) : TGs := fun vs σ H Q => ∃ ρ env st ds env', EnvR p.K ρ H σ env ∧ Rel p ρ H st ∧ Reps p.K ρ H vs ds ∧ ds.length = ts.length ∧ bindTs st ts ds env = some env' ∧ ∀ σ', EnvR p.K ρ H σ' env' → But (tgsSlots ts) σ σ' → Q σ' H
theorem _root_.L2.PG.or {X : Cx} {e : Expr} {t t' : TG} (h : PG X e t) (h' : PG X e t') : PG X e (fun v σ H Q => t v σ H Q ∨ t' v σ H Q) := ⟨fun pins s σ H v u Q I r q => q.elim (h.run pins s σ H v u Q I r) (h'.run pins s σ H v u Q I r)⟩
theorem _root_.L2.PG.mono {X : Cx} {e : Expr} {t t' : TG} (h : PG X e t) (m : ∀ v σ H Q, t' v σ H Q → t v σ H Q) : PG X e t' := ⟨fun pins s σ H v u Q I r q => h.run pins s σ H v u Q I r (m v σ H Q q)⟩
theorem _root_.L2.PGs.mono {X : Cx} {e : List Expr} {t t' : TGs} (h : PGs X e t) (m : ∀ v σ H Q, t' v σ H Q → t v σ H Q) : PGs X e t' := ⟨fun pins s σ H v u Q I r q => h.run pins s σ H v u Q I r (m v σ H Q q)⟩
theorem assign_cons {e : Expr} {es : List Expr} {env : Env} (h : plainE e = true) : assignEach (e :: es) env = (false, assign e env) :: assignEach es env := by
  cases e <;> first | rfl | (simp [plainE] at h)
theorem assign_len {env : Env} : ∀ {es : List Expr}, (∀ e ∈ es, plainE e = true) → (assignEach es env).length = es.length ∧ (assignEach es env).findIdx? (·.1) = none
  | [], _ => ⟨rfl, rfl⟩
  | e :: es, h => by
    rw [assign_cons (h e List.mem_cons_self)]
    obtain ⟨a, b⟩ := assign_len (env := env) (es := es) fun x hx => h x (List.mem_cons_of_mem _ hx)
    refine ⟨by simp [a], ?_⟩
    rw [List.findIdx?_cons]
    simp [b]
section
variable {cl : Calls} {cv : Nat → Value} {k : Nat} {X : Cx} {c : CC} {W : WX}
theorem cTs_plain : ∀ {n : Nat} {es : List Expr} {ts : List Tg}, cTs c n es = some ts → (∀ e ∈ es, plainE e = true) ∧ ts.length = es.length
  | n, [], ts, h => by cases n <;> (simp [cTs] at h; subst h; simp)
  | 0, e :: es, ts, h => by simp [cTs] at h
  | n + 1, e :: es, ts, h => by
    rw [cTs] at h
    split at h
    · rename_i hp
      split at h
      · rename_i t ts' h1 h2
        cases h
        obtain ⟨a, b⟩ := cTs_plain h2
        refine ⟨fun x hx => ?_, by simp [b]⟩
        rcases List.mem_cons.mp hx with rfl | hx
        · exact hp
        · exact a x hx
      · cases h
    · cases h
mutual
theorem cT_ok (g : Gd cl cv k X c) : ∀ (n : Nat) (a : Expr) (t : Tg), cT c n a = some t → PG X a (lG (pm X cv) t)
  | 0, a, t, h => by simp [cT] at h
  | n + 1, a, t, h => by
    cases a with
    | Name x pos =>
      rw [cT] at h
      obtain ⟨i, hi, rfl⟩ := Option.map_eq_some_iff.mp h
      obtain ⟨h1, h2, h3⟩ := g.store hi
      refine (pg_name g.nd h1 h2 h3).mono fun v σ H Q q => ?_
      obtain ⟨ρ, env, st, d, env', er, R, r, hb, q⟩ := q
      simp only [bindT, Option.some.injEq] at hb
      subst hb
      refine q _ (er.set r i) ⟨by simp, fun j hj => ?_⟩
      rw [List.getElem?_set_ne]
      intro z
      exact hj (by simp [tgSlots, z])
    | Tuple es kk pos =>
      rw [cT] at h
      obtain ⟨ts, ht, rfl⟩ := Option.map_eq_some_iff.mp h
      obtain ⟨hp, hl⟩ := cTs_plain ht
      obtain ⟨a1, a2⟩ := assign_len (env := X.env) hp
      have hr := cTs_ok g n es ts ht
      refine ((pg_tup (n := es.length) g.calm hr a1 a2).or (pg_unl (n := es.length) g.calm hr a1 a2)).mono fun v σ H Q q => ?_
      obtain ⟨ρ, env, st, d, env', er, R, r, hb, q⟩ := q
      simp only [bindT] at hb
      split at hb
      · rename_i ds hs
        split at hb
        · rename_i hlen
          obtain ⟨a, vs, rfl, h2, hh⟩ := seq_rep R hs r
          rcases hh with hh | hh
          · exact .inr ⟨a, vs, rfl, hh, by rw [h2.length, hlen, hl], ρ, env, st, ds, env', er, R, h2, hlen, hb, q⟩
          · exact .inl ⟨a, vs, rfl, hh, by rw [h2.length, hlen, hl], ρ, env, st, ds, env', er, R, h2, hlen, hb, q⟩
        · cases hb
      · cases hb
    | _ => simp [cT] at h
theorem cTs_ok (g : Gd cl cv k X c) : ∀ (n : Nat) (as : List Expr) (ts : List Tg), cTs c n as = some ts → PGs X as (lGs (pm X cv) ts)
  | n, [], ts, h => by
    have e : ts = [] := by cases n <;> (simp [cTs] at h; exact h)
    subst e
    refine pgs_nil.mono fun vs σ H Q q => ?_
    obtain ⟨ρ, env, st, ds, env', er, R, r, hl, hb, q⟩ := q
    have e : ds = [] := List.length_eq_zero_iff.mp hl
    subst e
    cases r
    simp only [bindTs, Option.some.injEq] at hb
    subst hb
    exact ⟨rfl, q σ er ⟨rfl, fun _ _ => rfl⟩⟩
  | 0, e :: es, ts, h => by simp [cTs] at h
  | n + 1, e :: es, ts, h => by
    rw [cTs] at h
    split at h
    · rename_i hp
      split at h
      · rename_i t ts' h1 h2
        cases h
        refine (pgs_cons (cT_ok g n e t h1) (cTs_ok g n es ts' h2) (by rw [assign_cons hp]; rfl)).mono fun vs σ H Q q => ?_
        obtain ⟨ρ, env, st, ds, env', er, R, r, hl, hb, q⟩ := q
        cases r with
        | nil => simp at hl
        | cons r1 r2 =>
          rw [bindTs] at hb
          obtain ⟨env1, hb1, hb2⟩ := Option.bind_eq_some_iff.mp hb
          refine ⟨_, _, rfl, ρ, env, st, _, env1, er, R, r1, hb1, fun σ1 er1 b1 => ?_⟩
          exact ⟨ρ, env1, st, _, env', er1, R, r2, by simpa using hl, hb2, fun σ2 er2 b2 => q σ2 er2 (b1.trans b2)⟩
      · cases h
    · cases h
end

/-! ### walks -/
structure LW (p : Pm) (J : It) (w : Its) (ρ0 : List Addr) (H0 : Hp) : Prop where
  goes : ∀ i ρ H st, Ext ρ0 H0 ρ H → Rel p ρ H st → still w.gd st = true → i < w.xs.length → J.go i H
  stops : ∀ ρ H st, Ext ρ0 H0 ρ H → Rel p ρ H st → still w.gd st = true → J.stop w.xs.length H
  yields : ∀ i ρ H st x H', Ext ρ0 H0 ρ H → Rel p ρ H st → still w.gd st = true → i < w.xs.length → J.yld i H x H' → Ext ρ H ρ H' ∧ Rel p ρ H' st ∧ ∃ d, w.xs[i]? = some d ∧ Rep p.K ρ H' x d
def lI (p : Pm) (W : WX) (m : En → Sto → Res Its) : TI := fun σ H R => ∃ ρ env st, EnvR p.K ρ H σ env ∧ Rel p ρ H st ∧ Got p ρ H (m env st) (fun w _ ρ' H' => ∀ J, LW p J w ρ' H' → R J H') (fun c dd H' => W c dd σ H')
theorem _root_.L2.PI.mono {tg e : Expr} {t t' : TI} (h : PI X tg e t) (m : ∀ σ H Q, t' σ H Q → t σ H Q) : PI X tg e t' := ⟨fun pins s σ H Q I q => h.run pins s σ H Q I (m σ H Q q)⟩
theorem _root_.L2.PI.or {tg e : Expr} {t t' : TI} (h : PI X tg e t) (h' : PI X tg e t') : PI X tg e (fun σ H R => t σ H R ∨ t' σ H R) := ⟨fun pins s σ H Q I q => q.elim (h.run pins s σ H Q I) (h'.run pins s σ H Q I)⟩
theorem still_one {l : Nat} {o : O} {st : Sto} (h : still [(l, o)] st = true) : st[l]? = some o := by
  unfold still at h
  simpa using h
theorem lw_list {p : Pm} {ρ0 : List Addr} {H0 : Hp} {l : Nat} {a : Addr} {xs : List D} (hl : ρ0[l]? = some a) : LW p (Itl p.K a) ⟨xs, [(l, .lst xs)]⟩ ρ0 H0 := by
  have at' : ∀ ρ H st, Ext ρ0 H0 ρ H → Rel p ρ H st → still [(l, .lst xs)] st = true → ∃ vs, H a = some (.lst vs) ∧ Reps p.K ρ H vs xs := fun ρ H st e R h => R.obj l a _ (e.pre l a hl) (still_one h)
  refine ⟨fun i ρ H st e R h hi => ?_, fun ρ H st e R h => ?_, fun i ρ H st x H' e R h hi y => ?_⟩
  · obtain ⟨vs, h1, h2⟩ := at' ρ H st e R h
    have hv : i < vs.length := by rw [h2.length]; exact hi
    exact ⟨vs, vs[i], SqL.of h1, List.getElem?_eq_getElem hv⟩
  · obtain ⟨vs, h1, h2⟩ := at' ρ H st e R h
    exact ⟨vs, SqL.of h1, by rw [h2.length]; exact Nat.le_refl _⟩
  · obtain ⟨vs, h1, h2⟩ := at' ρ H st e R h
    obtain ⟨e1, y⟩ := y
    subst e1
    obtain ⟨d, hd, r⟩ := h2.get' (y vs (SqL.of h1))
    exact ⟨.refl, R, d, hd, r⟩
theorem lw_scr {p : Pm} {ρ0 : List Addr} {H0 : Hp} {a : Addr} {ns : List Int} (hs : Scr p.K H0 a (ns.map V.int)) : LW p (Itl p.K a) ⟨ns.map .int, []⟩ ρ0 H0 := by
  refine ⟨fun i ρ H st e R h hi => ?_, fun ρ H st e R h => ?_, fun i ρ H st x H' e R h hi y => ?_⟩
  · have hs' := (Scr.ext e.toPre hs).sq
    have hv : i < (ns.map V.int).length := by simpa using hi
    exact ⟨_, _, hs', List.getElem?_eq_getElem hv⟩
  · have hs' := (Scr.ext e.toPre hs).sq
    exact ⟨_, hs', by simp⟩
  · have hs' := (Scr.ext e.toPre hs).sq
    obtain ⟨e1, y⟩ := y
    subst e1
    obtain ⟨d, hd, r⟩ := (Reps.ints (K := p.K) (ρ := ρ) (H := H') (ns := ns)).get' (y _ hs')
    exact ⟨.refl, R, d, hd, r⟩
theorem lw_tup {p : Pm} {ρ0 : List Addr} {H0 : Hp} {a : Addr} {vs : List V} {xs : List D} (hs : SqT p.K H0 a vs) (r : Reps p.K ρ0 H0 vs xs) : LW p (Itt p.K a) ⟨xs, []⟩ ρ0 H0 := by
  refine ⟨fun i ρ H st e R h hi => ?_, fun ρ H st e R h => ?_, fun i ρ H st x H' e R h hi y => ?_⟩
  · have hv : i < vs.length := by rw [r.length]; exact hi
    exact ⟨_, _, SqT.ext e.toPre hs, List.getElem?_eq_getElem hv⟩
  · exact ⟨_, SqT.ext e.toPre hs, by rw [r.length]; exact Nat.le_refl _⟩
  · obtain ⟨e1, y⟩ := y
    subst e1
    obtain ⟨d, hd, rr⟩ := (r.ext e).get' (y vs (SqT.ext e.toPre hs))
    exact ⟨.refl, R, d, hd, rr⟩
theorem lw_range {p : Pm} {ρ0 : List Addr} {H0 : Hp} {lo : Int} {n : Nat} : LW p (Itr lo n) ⟨(List.range n).map fun k => .int (lo + (k : Nat)), []⟩ ρ0 H0 := by
  refine ⟨fun i ρ H st e R h hi => (by simpa using hi : i < n), fun ρ H st e R h => by simp [Itr], fun i ρ H st x H' e R h hi y => ?_⟩
  obtain ⟨e1, y⟩ := y
  subst e1 y
  have hi' : i < n := by simpa using hi
  exact ⟨.refl, R, _, by simp [hi'], .int _⟩
/-- what is walked as a list (a list of the store, the script) -/
theorem walkD_list {p : Pm} {ρ : List Addr} {H : Hp} {st : Sto} {x : D} {v : V} {w : Its} (R : Rel p ρ H st) (r : Rep p.K ρ H v x) (h : walkD st x = some w) :
    (∃ a vs, v = .ref a ∧ SqL p.K H a vs ∧ LW p (Itl p.K a) w ρ H ∧ (∀ ρ' H' st', Ext ρ H ρ' H' → Rel p ρ' H' st' → still w.gd st' = true → ∃ ws, SqL p.K H' a ws ∧ Reps p.K ρ' H' ws w.xs)) ∨ (∃ a vs, v = .ref a ∧ SqT p.K H a vs ∧ LW p (Itt p.K a) w ρ H) := by
  cases r with
  | tup h1 h2 =>
    simp only [walkD, Option.some.injEq] at h
    subst h
    exact .inr ⟨_, _, rfl, h1, lw_tup h1 h2⟩
  | scr h1 =>
    simp only [walkD, Option.some.injEq] at h
    subst h
    exact .inl ⟨_, _, rfl, h1.sq, lw_scr h1, fun ρ' H' st' e R' _ => ⟨_, (Scr.ext e.toPre h1).sq, Reps.ints⟩⟩
  | ref hl =>
    rename_i l a
    rw [walkD] at h
    cases e : st[l]? with
    | none => rw [e] at h; cases h
    | some o =>
      rw [e] at h
      cases o with
      | lst ds =>
        cases h
        obtain ⟨vs, h1, h2⟩ := R.obj l a _ hl e
        exact .inl ⟨a, vs, rfl, SqL.of h1, lw_list hl, fun ρ' H' st' ee R' hs => by
          obtain ⟨ws, w1, w2⟩ := R'.obj l a _ (ee.pre l a hl) (still_one hs)
          exact ⟨ws, SqL.of w1, w2⟩⟩
      | dct kvs => cases h
  | _ => cases h
theorem walkL_ok {p : Pm} {ρ : List Addr} {H : Hp} {st : Sto} {x : D} {v : V} {w : Its} (R : Rel p ρ H st) (r : Rep p.K ρ H v x) (h : walkL st x = some w) :
    ∃ a vs, v = .ref a ∧ SqL p.K H a vs ∧ ∀ ρ' H' st', Ext ρ H ρ' H' → Rel p ρ' H' st' → still w.gd st' = true → ∃ ws, SqL p.K H' a ws ∧ Reps p.K ρ' H' ws w.xs := by
  cases r with
  | tup h1 h2 => cases h
  | scr h1 =>
    have h' : walkD st (.scr _) = some w := h
    simp only [walkD, Option.some.injEq] at h'
    subst h'
    exact ⟨_, _, rfl, h1.sq, fun ρ' H' st' e R' _ => ⟨_, (Scr.ext e.toPre h1).sq, Reps.ints⟩⟩
  | ref hl =>
    rename_i l a
    have h' : walkD st (.ref l) = some w := h
    rw [walkD] at h'
    cases e : st[l]? with
    | none => rw [e] at h'; cases h'
    | some o =>
      rw [e] at h'
      cases o with
      | lst ds =>
        cases h'
        obtain ⟨vs, h1, h2⟩ := R.obj l a _ hl e
        exact ⟨a, vs, rfl, SqL.of h1, fun ρ' H' st' ee R' hs => by
          obtain ⟨ws, w1, w2⟩ := R'.obj l a _ (ee.pre l a hl) (still_one hs)
          exact ⟨ws, SqL.of w1, w2⟩⟩
      | dct kvs => cases h'
  | _ => cases h
theorem pi_seqD {tg a : Expr} {e : E} (ha : PE X a (lE (pm X cv) W (evalE cl e))) : PI X tg a (lI (pm X cv) W (evalI cl (.seq e))) :=
  ((pi_list ha).or (pi_tup ha)).mono fun σ H Q q => by
    obtain ⟨ρ, env, st, er, R, gg⟩ := q
    rw [evalI] at gg
    cases hr : evalE cl e env st with
    | bad => rw [hr] at gg; exact gg.elim
    | exc c fs st1 =>
      rw [hr] at gg
      exact .inl ⟨ρ, env, st, er, R, by rw [hr]; exact gg⟩
    | ok x st1 =>
      rw [hr] at gg
      cases hw : walkD st1 x with
      | none =>
        have g2 : Got (pm X cv) ρ H (Res.of (walkD st1 x) st1) _ _ := gg
        rw [hw] at g2
        exact g2.elim
      | some w =>
        have g2 : Got (pm X cv) ρ H (Res.of (walkD st1 x) st1) _ _ := gg
        rw [hw] at g2
        by_cases ht : ∃ ds, x = .tup ds
        · obtain ⟨ds, rfl⟩ := ht
          refine .inr ⟨ρ, env, st, er, R, ?_⟩
          rw [hr]
          intro ρ1 H1 e1 R1 v rv
          cases rv with
          | tup h1 h2 =>
            simp only [walkD, Option.some.injEq] at hw
            subst hw
            exact ⟨_, rfl, ⟨_, h1⟩, g2 ρ1 H1 e1 R1 _ (lw_tup h1 h2)⟩
        · refine .inl ⟨ρ, env, st, er, R, ?_⟩
          rw [hr]
          intro ρ1 H1 e1 R1 v rv
          rcases walkD_list R1 rv hw with ⟨a, vs, rfl, h1, h2, _⟩ | ⟨a, vs, rfl, h1, h2⟩
          · exact ⟨a, rfl, ⟨vs, h1⟩, g2 ρ1 H1 e1 R1 _ h2⟩
          · cases rv with
            | tup h1 h2 => exact absurd ⟨_, rfl⟩ ht
            | ref hl =>
              rename_i l
              rw [walkD] at hw
              cases e0 : st1[l]? with
              | none => rw [e0] at hw; cases hw
              | some o =>
                rw [e0] at hw
                cases o with
                | dct kvs => cases hw
                | lst ds =>
                  cases hw
                  obtain ⟨ws, w1, w2⟩ := R1.obj l a _ hl e0
                  exact ⟨a, rfl, ⟨ws, SqL.of w1⟩, g2 ρ1 H1 e1 R1 _ (lw_list hl)⟩
            | scr hs =>
              simp only [walkD, Option.some.injEq] at hw
              subst hw
              exact ⟨a, rfl, ⟨_, hs.sq⟩, g2 ρ1 H1 e1 R1 _ (lw_scr hs)⟩
theorem rangeD_ok {lo hi : Int} {w : Its} (h : rangeD lo hi = some w) : (-(2 ^ 62) ≤ lo ∧ lo < 2 ^ 62 ∧ -(2 ^ 62) ≤ hi ∧ hi < 2 ^ 62) ∧ w = ⟨(List.range (hi - lo).toNat).map fun k => .int (lo + (k : Nat)), []⟩ := by
  unfold rangeD at h
  split at h
  · rename_i hc
    cases h
    exact ⟨hc, rfl⟩
  · cases h
theorem pi_rng1D (g : Gd cl cv k X c) {tg a : Expr} {e : E} {p pos : Pos} (hg : c.glob "range" = true) (hp : plainE a = true) (ha : PE X a (lE (pm X cv) W (evalE cl e))) : PI X tg (.Call (.Name "range" p) [a] [] pos) (lI (pm X cv) W (evalI cl (.rng1 e))) := by
  refine (pi_range1 (g.glob hg).1 (g.blt _ (by decide)) (pa_cons ha pa_nil (star_cons hp)) (by rw [star_cons hp]; rfl)).mono fun σ H Q q => ?_
  obtain ⟨ρ, env, st, er, R, gg⟩ := q
  rw [evalI] at gg
  refine lE_bind er R gg fun x st1 ρ1 H1 v e1 R1 er1 rv g1 => ?_
  obtain ⟨i, rfl, g2⟩ := got_asI g1
  cases rv
  obtain ⟨w, hw, q⟩ := Got.of R1 g2
  obtain ⟨⟨b1, b2, b3, b4⟩, rfl⟩ := rangeD_ok hw
  refine ⟨i, rfl, b3, b4, q _ ?_⟩
  have e0 : (i - 0).toNat = i.toNat := by simp
  rw [e0]
  exact lw_range
theorem pi_rng2D (g : Gd cl cv k X c) {tg a b : Expr} {e f : E} {p pos : Pos} (hg : c.glob "range" = true) (hp : plainE a = true) (hp' : plainE b = true) (ha : PE X a (lE (pm X cv) W (evalE cl e))) (hb : PE X b (lE (pm X cv) W (evalE cl f))) :
    PI X tg (.Call (.Name "range" p) [a, b] [] pos) (lI (pm X cv) W (evalI cl (.rng2 e f))) := by
  refine (pi_range2 (g.glob hg).1 (g.blt _ (by decide)) (pa_cons ha (pa_cons hb pa_nil (star_cons hp')) (star_cons hp)) (by rw [star_cons hp, star_cons hp']; rfl) (by rw [star_cons hp']; rfl)).mono fun σ H Q q => ?_
  obtain ⟨ρ, env, st, er, R, gg⟩ := q
  rw [evalI] at gg
  refine lE_bind er R gg fun x st1 ρ1 H1 v e1 R1 er1 rv g1 => ?_
  refine lE_bind er1 R1 g1 fun y st2 ρ2 H2 u e2 R2 er2 ru g2 => ?_
  obtain ⟨i, rfl, g3⟩ := got_asI g2
  obtain ⟨j, rfl, g4⟩ := got_asI g3
  cases rv
  cases ru
  obtain ⟨w, hw, q⟩ := Got.of R2 g4
  obtain ⟨⟨b1, b2, b3, b4⟩, rfl⟩ := rangeD_ok hw
  exact ⟨i, j, rfl, ⟨b1, b2, b3, b4⟩, q _ lw_range⟩
theorem enum_at {xs : List D} {i : Nat} {d : D} (h : xs[i]? = some d) : (enumD ⟨xs, []⟩).xs[i]? = some (.tup [.int (i : Nat), d]) := by
  have hi : i < xs.length := (List.getElem?_eq_some_iff.mp h).1
  have e : xs[i] = d := (List.getElem?_eq_some_iff.mp h).2
  simp [enumD, List.getElem?_zipWith, hi, e]
theorem lw_enum {p : Pm} {ρ0 : List Addr} {H0 : Hp} {a : Addr} {w : Its} (hw : ∀ ρ' H' st', Ext ρ0 H0 ρ' H' → Rel p ρ' H' st' → still w.gd st' = true → ∃ ws, SqL p.K H' a ws ∧ Reps p.K ρ' H' ws w.xs) : LW p (Ite p.K a) (enumD w) ρ0 H0 := by
  have hl : (enumD w).xs.length = w.xs.length := by simp [enumD]
  refine ⟨fun i ρ H st e R h hi => ?_, fun ρ H st e R h => ?_, fun i ρ H st x H' e R h hi y => ?_⟩
  · obtain ⟨ws, h1, h2⟩ := hw ρ H st e R h
    have hv : i < ws.length := by rw [h2.length, ← hl]; exact hi
    exact ⟨ws, ws[i], h1, List.getElem?_eq_getElem hv⟩
  · obtain ⟨ws, h1, h2⟩ := hw ρ H st e R h
    exact ⟨ws, h1, by rw [h2.length, hl]; exact Nat.le_refl _⟩
  · obtain ⟨ws, h1, h2⟩ := hw ρ H st e R h
    obtain ⟨T, z, rfl, hn, rfl, y⟩ := y
    obtain ⟨d, hd, r⟩ := h2.get' (y ws h1)
    exact ⟨Ext.grow hn _, R.grow hn _, _, enum_at hd, .tup (SqT.of upd_same) (.cons (.int _) (.cons (r.ext (Ext.grow hn _)) .nil))⟩
theorem pi_enmD (g : Gd cl cv k X c) {a : Expr} {elts : List Expr} {kk : Nat} {tpos : Pos} {e : E} {p pos : Pos} (hg : c.glob "enumerate" = true) (hp : plainE a = true) (ha : PE X a (lE (pm X cv) W (evalE cl e))) :
    PI X (.Tuple elts kk tpos) (.Call (.Name "enumerate" p) [a] [] pos) (lI (pm X cv) W (evalI cl (.enm e))) := by
  refine (pi_enum (g.glob hg).1 (g.blt _ (by decide)) (pa_cons ha pa_nil (star_cons hp)) (by rw [star_cons hp]; rfl)).mono fun σ H Q q => ?_
  obtain ⟨ρ, env, st, er, R, gg⟩ := q
  rw [evalI] at gg
  refine lE_bind er R gg fun x st1 ρ1 H1 v e1 R1 er1 rv g1 => ?_
  obtain ⟨w, hw, g2⟩ := got_of g1
  obtain ⟨a, vs, rfl, h1, h2⟩ := walkL_ok R1 rv hw
  exact ⟨a, vs, rfl, h1, Got.here R1 g2 _ (lw_enum h2)⟩
theorem still_app {a b : List (Nat × O)} {st : Sto} (h : still (a ++ b) st = true) : still a st = true ∧ still b st = true := by
  unfold still at h ⊢
  rwa [List.all_append, Bool.and_eq_true] at h
theorem lw_zip {p : Pm} {ρ0 : List Addr} {H0 : Hp} {a b : Addr} {w w' : Its} (hw : ∀ ρ' H' st', Ext ρ0 H0 ρ' H' → Rel p ρ' H' st' → still w.gd st' = true → ∃ ws, SqL p.K H' a ws ∧ Reps p.K ρ' H' ws w.xs)
    (hw' : ∀ ρ' H' st', Ext ρ0 H0 ρ' H' → Rel p ρ' H' st' → still w'.gd st' = true → ∃ ws, SqL p.K H' b ws ∧ Reps p.K ρ' H' ws w'.xs) : LW p (Itz p.K a b) (zipD w w') ρ0 H0 := by
  have hl : (zipD w w').xs.length = min w.xs.length w'.xs.length := by simp [zipD]
  refine ⟨fun i ρ H st e R h hi => ?_, fun ρ H st e R h => ?_, fun i ρ H st x H' e R h hi y => ?_⟩
  · obtain ⟨s1, s2⟩ := still_app h
    obtain ⟨ws, h1, h2⟩ := hw ρ H st e R s1
    obtain ⟨ws', h1', h2'⟩ := hw' ρ H st e R s2
    have hv : i < ws.length := by rw [h2.length]; omega
    have hv' : i < ws'.length := by rw [h2'.length]; omega
    exact ⟨ws, ws', ws[i], ws'[i], h1, h1', List.getElem?_eq_getElem hv, List.getElem?_eq_getElem hv'⟩
  · obtain ⟨s1, s2⟩ := still_app h
    obtain ⟨ws, h1, h2⟩ := hw ρ H st e R s1
    obtain ⟨ws', h1', h2'⟩ := hw' ρ H st e R s2
    exact ⟨ws, ws', h1, h1', by rw [h2.length, h2'.length, hl]; omega⟩
  · obtain ⟨s1, s2⟩ := still_app h
    obtain ⟨ws, h1, h2⟩ := hw ρ H st e R s1
    obtain ⟨ws', h1', h2'⟩ := hw' ρ H st e R s2
    obtain ⟨T, z, z', rfl, hn, rfl, y, y'⟩ := y
    obtain ⟨d, hd, r⟩ := h2.get' (y ws h1)
    obtain ⟨d', hd', r'⟩ := h2'.get' (y' ws' h1')
    exact ⟨Ext.grow hn _, R.grow hn _, .tup [d, d'], by simp [zipD, List.getElem?_zipWith, hd, hd'], .tup (SqT.of upd_same) (.cons (r.ext (Ext.grow hn _)) (.cons (r'.ext (Ext.grow hn _)) .nil))⟩
theorem pi_zipD (g : Gd cl cv k X c) {a b : Expr} {elts : List Expr} {kk : Nat} {tpos : Pos} {e f : E} {p pos : Pos} (hg : c.glob "zip" = true) (hp : plainE a = true) (hp' : plainE b = true) (ha : PE X a (lE (pm X cv) W (evalE cl e))) (hb : PE X b (lE (pm X cv) W (evalE cl f))) :
    PI X (.Tuple elts kk tpos) (.Call (.Name "zip" p) [a, b] [] pos) (lI (pm X cv) W (evalI cl (.zip e f))) := by
  refine (pi_zip (g.glob hg).1 (g.blt _ (by decide)) (pa_cons ha (pa_cons hb pa_nil (star_cons hp')) (star_cons hp)) (star_cons hp) (plain_any (es := [b]) (fun x hx => by simp at hx; subst hx; exact hp') pos)).mono fun σ H Q q => ?_
  obtain ⟨ρ, env, st, er, R, gg⟩ := q
  rw [evalI] at gg
  refine lE_bind er R gg fun x st1 ρ1 H1 v e1 R1 er1 rv g1 => ?_
  refine lE_bind er1 R1 g1 fun y st2 ρ2 H2 u e2 R2 er2 ru g2 => ?_
  obtain ⟨w, hw, g3⟩ := got_of g2
  obtain ⟨w', hw', g4⟩ := got_of g3
  obtain ⟨a, vs, rfl, h1, h2⟩ := walkL_ok R2 (rv.ext e2) hw
  obtain ⟨b, us, rfl, h1', h2'⟩ := walkL_ok R2 ru hw'
  exact ⟨a, b, vs, us, rfl, h1, h1', Got.here R2 g4 _ (lw_zip h2 h2')⟩

/-! ### comprehensions -/
/-- the tests of a clause -/
theorem pts_nilD : PTs X [] (lT (pm X cv) W (evalTs cl [])) := ⟨fun pins s σ H Q I q => pts_nil.run pins s σ H Q I (by
  obtain ⟨ρ, env, st, er, R, gg⟩ := q
  rw [evalTs] at gg
  exact Got.here R gg)⟩
theorem pts_oneD {a : Expr} {e : E} (ha : PT X a (lT (pm X cv) W (test cl e))) : PTs X [a] (lT (pm X cv) W (evalTs cl [e])) := ⟨fun pins s σ H Q I q => (pts_one ha).run pins s σ H Q I (by
  obtain ⟨ρ, env, st, er, R, gg⟩ := q
  rw [evalTs] at gg
  exact ⟨ρ, env, st, er, R, gg⟩)⟩
theorem loopC_cons {bd : Sto → D → En → Option En} {tst : En → Sto → Res Bool} {elt : En → Sto → Res D} {gd : List (Nat × O)} {env : En} {d : D} {ds : List D} {st st2 : Sto} {rest : List D} (h : loopC bd tst elt gd env (d :: ds) st = .ok rest st2) :
    still gd st = true ∧ ∃ env1 b st', bd st d env = some env1 ∧ tst env1 st = .ok b st' ∧ ((b = true ∧ ∃ x st'' xs, elt env1 st' = .ok x st'' ∧ loopC bd tst elt gd env ds st'' = .ok xs st2 ∧ rest = x :: xs) ∨ (b = false ∧ loopC bd tst elt gd env ds st' = .ok rest st2)) := by
  rw [loopC] at h
  split at h
  · rename_i hs
    refine ⟨hs, ?_⟩
    split at h
    · rename_i env1 hb
      cases ht : tst env1 st with
      | bad => rw [ht] at h; cases h
      | exc => rw [ht] at h; cases h
      | ok b st' =>
        rw [ht, Res.bind_ok] at h
        refine ⟨env1, b, st', hb, ht, ?_⟩
        cases b with
        | true =>
          simp only [if_true] at h
          cases he : elt env1 st' with
          | bad => rw [he] at h; cases h
          | exc => rw [he] at h; cases h
          | ok x st'' =>
            rw [he, Res.bind_ok] at h
            cases hl : loopC bd tst elt gd env ds st'' with
            | bad => rw [hl] at h; cases h
            | exc => rw [hl] at h; cases h
            | ok xs st3 =>
              rw [hl, Res.bind_ok] at h
              cases h
              exact .inl ⟨rfl, x, st'', xs, rfl, hl, rfl⟩
        | false =>
          simp only [Bool.false_eq_true, if_false] at h
          exact .inr ⟨rfl, h⟩
    · cases h
  · cases h
theorem ext_fresh {p : Pm} {ρ ρ1 : List Addr} {H H1 : Hp} {st1 : Sto} {A : Addr} (e : Ext ρ H ρ1 H1) (R1 : Rel p ρ1 H1 st1) (h : H1 A = none) : H A = none := by
  cases q : H A with
  | none => rfl
  | some o =>
    by_cases hm : A ∈ ρ
    · obtain ⟨l, hl, e0⟩ := List.mem_iff_getElem.mp hm
      have h1 : ρ[l]? = some A := by rw [List.getElem?_eq_getElem hl, e0]
      exact absurd (List.mem_of_getElem? (e.pre _ _ h1)) (R1.fresh h)
    · rw [e.keep A o hm q] at h
      cases h
theorem rd_lc {p : Pm} {t : Tg} {it : I} {ts : List E} {e : E} {vs : List Nat} {σ : L2.St} {H : Hp} {Q : VK} (hsl : ∀ i ∈ tgSlots t, i ∈ vs) (h : lE p W (evalE cl (.lc vs t it ts e)) σ H Q) :
    tLc (lI p W (evalI cl it)) (lG p t) (lT p (fun _ _ _ _ => False) (evalTs cl ts)) (lE p (fun _ _ _ _ => False) (evalE cl e)) vs σ H Q := by
  obtain ⟨ρ, env, st, er, R, gg⟩ := h
  rw [evalE] at gg
  cases hr : evalI cl it env st with
  | bad => rw [hr] at gg; exact gg.elim
  | exc c fs st1 =>
    rw [hr] at gg
    exact ⟨ρ, env, st, er, R, by rw [hr]; exact gg⟩
  | ok w st1 =>
    rw [hr] at gg
    simp only at gg
    generalize hbody : loopC (fun st => bindT st t) (fun env st => evalTs cl ts env st) (fun env st => evalE cl e env st) w.gd (wipe env vs) w.xs st1 = rl at gg
    cases rl with
    | bad => exact gg.elim
    | exc => exact gg.elim
    | ok fin st2 =>
      simp only at gg
      have hfin : fin.length ≤ sizeLine := by
        unfold newL at gg
        split at gg
        · rw [line_eq]; assumption
        · exact gg.elim
      have gnew : Got p ρ H (new (.lst fin) st2) (fun d _ ρ' H' => ∀ v, Rep p.K ρ' H' v d → Q v H') (fun c dd H' => W c dd σ H') := by
        unfold newL at gg
        split at gg
        · exact gg
        · exact gg.elim
      refine ⟨ρ, env, st, er, R, ?_⟩
      rw [hr]
      intro ρ1 H1 e1 R1 J hJ A hA
      have er1 : EnvR p.K ρ1 H1 (L2.wipe σ vs) (wipe env vs) := (er.ext e1).wipe vs
      let Pv : Nat → Hp → Prop := fun i Hh => ∃ ρi sti accD accV rest, Ext ρ1 H1 ρi Hh ∧ Rel p ρi Hh sti ∧ A ∉ ρi ∧ Hh A = some (.lst accV) ∧ Reps p.K ρi Hh accV accD ∧
        loopC (fun st => bindT st t) (fun env st => evalTs cl ts env st) (fun env st => evalE cl e env st) w.gd (wipe env vs) (w.xs.drop i) sti = .ok rest st2 ∧ fin = accD ++ rest
      refine ⟨fun i m Hh => m = w.xs.length - i ∧ i ≤ w.xs.length ∧ Pv i Hh, ⟨w.xs.length, by simp, Nat.zero_le _, ρ1, st1, [], [], fin, Ext.grow hA _, R1.grow hA _, R1.fresh hA, upd_same, .nil, hbody, rfl⟩, ?_⟩
      rintro i m Hh ⟨rfl, hi, ρi, sti, accD, accV, rest, ei, Ri, nA, hAt, ra, hlp, hf⟩
      by_cases hlt : i < w.xs.length
      · have hd : w.xs.drop i = w.xs[i] :: w.xs.drop (i + 1) := List.drop_eq_getElem_cons hlt
        rw [hd] at hlp
        obtain ⟨hst, env1, b, st', hb, ht, hcase⟩ := loopC_cons hlp
        refine .inr ⟨hJ.goes i ρi Hh sti ei Ri hst hlt, Pv (i + 1), fun H' p' => ⟨w.xs.length - (i + 1), by omega, rfl, hlt, p'⟩, fun x H' y => ?_⟩
        obtain ⟨ey, Ry, d, hdx, rx⟩ := hJ.yields i ρi Hh sti x H' ei Ri hst hlt y
        have ed : d = w.xs[i] := by
          rw [List.getElem?_eq_getElem hlt] at hdx
          exact (Option.some.inj hdx).symm
        subst ed
        have ey1 : Ext ρ1 H1 ρi H' := ei.trans ey
        refine ⟨ρi, wipe env vs, sti, _, env1, er1.ext ey1, Ry, rx, hb, fun σ2 er2 b2 => ⟨wipe_but b2 hsl, ρi, env1, sti, er2, Ry, ?_⟩⟩
        show Got p ρi H' (evalTs cl ts env1 sti) _ _
        have ht' : evalTs cl ts env1 sti = .ok b st' := ht
        rw [ht']
        intro ρ3 H3 e3 R3
        have hA3 : H3 A = some (.lst accV) := e3.keep A _ nA (ey.keep A _ nA hAt)
        have nA3 : A ∉ ρ3 := fun z => by
          rcases e3.new A z with q | q
          · exact nA q
          · rw [ey.keep A _ nA hAt] at q; cases q
        rcases hcase with ⟨rfl, x', st'', xs, he, hrest, rfl⟩ | ⟨rfl, hrest⟩
        · refine iteT ⟨ρ3, env1, st', er2.ext e3, R3, ?_⟩
          have he' : evalE cl e env1 st' = .ok x' st'' := he
          rw [he']
          intro ρ4 H4 e4 R4 v rv
          have hA4 : H4 A = some (.lst accV) := e4.keep A _ nA3 hA3
          have nA4 : A ∉ ρ4 := fun z => by
            rcases e4.new A z with q | q
            · exact nA3 q
            · rw [hA3] at q; cases q
          have hm : Mut (H4 A) := by rw [hA4]; trivial
          have ra4 := ((ra.ext ey).ext e3).ext e4
          have hlen : accV.length < sizeLine := by
            rw [ra.length]
            have : fin.length = accD.length + (xs.length + 1) := by rw [hf]; simp
            omega
          refine ⟨accV, hA4, hlen, ρ4, st'', accD ++ [x'], accV ++ [v], xs, ((ey1.trans e3).trans e4).out hA hm, R4.out nA4 hm, nA4, upd_same, ?_, hrest, by rw [hf]; simp⟩
          exact (ra4.append (.cons rv .nil)).kept (Pre.out hm)
        · exact iteF ⟨ρ3, st', accD, accV, rest, ey1.trans e3, R3, nA3, hA3, (ra.ext ey).ext e3, hrest, hf⟩
      · have en : i = w.xs.length := by omega
        subst en
        rw [List.drop_length] at hlp
        rw [loopC] at hlp
        split at hlp
        · rename_i hst
          cases hlp
          rw [List.append_nil] at hf
          subst hf
          refine .inl ⟨hJ.stops ρi Hh st2 ei Ri hst, ?_⟩
          exact gnew (ρi ++ [A]) Hh ((e1.trans ei).adopt (ext_fresh e1 R1 hA)) (Ri.adopt nA hAt ra) _ (Rep.new Ri)
        · cases hlp
theorem Gd.blk (g : Gd cl cv k X c) {scope : Scope} (s : Shared) (H : Hp) (C : Addr) (cl' : List (Str × Addr)) (fp : List Addr) : Gd cl cv k (X.blk s H scope (compEnvC scope cl' C X.env) fp) (c.blk scope) where
  N := g.N
  nd := g.nd
  sc := by
    show relabel scope X.env = relS scope c.sc
    rw [← g.sc]
    rfl
  own := fun x h => h
  calm := g.calm
  room := g.room
  fns := g.fns
  gs := g.gs
  blt := g.blt
  exs := g.exs
  exr := g.exr
  exm := g.exm
theorem takes_none {X : Cx} : Takes X (fun _ _ _ _ => False) := fun u s' ⟨a, B, sI, pins, σ, H, cls, d, e, I, nb, up, sky, na, os, ag, w⟩ => w.elim
theorem pe_lcD (g : Gd cl cv k X c) {elt tg iter : Expr} {ifs : List Expr} {scope : Scope} {pos : Pos} {t : Tg} {it : I} {ts : List E} {e : E} (hp : plainE iter = true) (hb : blkC c.N c.sc scope (ownOf c.N scope.names) = true)
    (hsl : ∀ i ∈ tgSlots t, i ∈ (ownOf c.N scope.names).map (·.2)) (hi : PI X tg iter (lI (pm X cv) W (evalI cl it)))
    (hg : ∀ (s : Shared) (H : Hp) (C : Addr) (cl' : List (Str × Addr)) (fp : List Addr), PG (X.blk s H scope (compEnvC scope cl' C X.env) fp) tg (lG (pm X cv) t))
    (ht : ∀ (s : Shared) (H : Hp) (C : Addr) (cl' : List (Str × Addr)) (fp : List Addr), PTs (X.blk s H scope (compEnvC scope cl' C X.env) fp) ifs (lT (pm X cv) (fun _ _ _ _ => False) (evalTs cl ts)))
    (he : ∀ (s : Shared) (H : Hp) (C : Addr) (cl' : List (Str × Addr)) (fp : List Addr), PE (X.blk s H scope (compEnvC scope cl' C X.env) fp) elt (lE (pm X cv) (fun _ _ _ _ => False) (evalE cl e))) :
    PE X (.ListComp elt [⟨tg, iter, ifs, 0⟩] scope pos) (lE (pm X cv) W (evalE cl (.lc ((ownOf c.N scope.names).map (·.2)) t it ts e))) :=
  (pe_lc g.calm g.nd hi (by rw [g.N, g.sc]; exact blkOk_by hb) hg ht he (plain_folded hp)).mono fun σ H Q q => rd_lc hsl q
end
end Ev

/-! All expressions. -/
namespace Ev
open PySem PySem.Spec PyProof.Rows L2

section
variable (cl : Calls) (cv : Nat → Value) (k : Nat)
def OkE (n : Nat) : Prop := ∀ (c : CC) (a : Expr) (e : E), cE n c a = some e → ∀ (X : Cx) (W : WX), Gd cl cv k X c → Takes X W → PE X a (lE (pm X cv) W (evalE cl e)) ∧ PT X a (lT (pm X cv) W (test cl e))
def OkEs (n : Nat) : Prop := ∀ (c : CC) (as : List Expr) (es : List E), cEs n c as = some es → (∀ a ∈ as, plainE a = true) ∧ es.length = as.length ∧ ∀ (X : Cx) (W : WX), Gd cl cv k X c → Takes X W → PA X as (lA (pm X cv) W (evalEs cl es)) ∧
  (as ≠ [] → ∀ op pos, PE X (.BoolOp op as pos) (lE (pm X cv) W (evalB cl op es)) ∧ PW X (.BoolOp op as pos) (lT (pm X cv) W (testB cl op es))) ∧ (as.length ≤ 1 → PTs X as (lT (pm X cv) W (evalTs cl es)))
def OkO (n : Nat) : Prop := ∀ (c : CC) (a : Option Expr) (e : Option E), cO n c a = some e → ∀ (X : Cx) (W : WX), Gd cl cv k X c → Takes X W → PO X a (lO (pm X cv) W (evalO cl e))
def OkI (n : Nat) : Prop := ∀ (c : CC) (tg a : Expr) (e : I), cI n c tg a = some e → ∀ (X : Cx) (W : WX), Gd cl cv k X c → Takes X W → PI X tg a (lI (pm X cv) W (evalI cl e))
variable {cl cv k}
theorem okEs_succ {n : Nat} (hE : OkE cl cv k n) (hEs : OkEs cl cv k n) : OkEs cl cv k (n + 1) := by
  intro c as es h
  cases as with
  | nil =>
    simp only [cEs, Option.some.injEq] at h
    subst h
    exact ⟨by simp, rfl, fun X W g tk => ⟨pa_nilD, fun z => absurd rfl z, fun _ => pts_nilD⟩⟩
  | cons a as =>
    rw [cEs] at h
    split at h
    · rename_i hp
      split at h
      · rename_i x xs h1 h2
        cases h
        obtain ⟨p1, p2, p3⟩ := hEs c as xs h2
        refine ⟨fun b hb => ?_, by simp [p2], fun X W g tk => ?_⟩
        · rcases List.mem_cons.mp hb with rfl | hb
          · exact hp
          · exact p1 b hb
        · obtain ⟨q1, q2⟩ := hE c a x h1 X W g tk
          obtain ⟨r1, r2, r3⟩ := p3 X W g tk
          refine ⟨pa_consD hp q1 r1, fun _ op pos => ?_, fun hl => ?_⟩
          · cases as with
            | nil =>
              have e0 : xs = [] := List.length_eq_zero_iff.mp p2
              subst e0
              exact ⟨pe_bop1 q1, pw_bop1 q2⟩
            | cons b as =>
              cases xs with
              | nil => simp at p2
              | cons y ys =>
                obtain ⟨s1, s2⟩ := r2 (by simp) op pos
                exact ⟨pe_bop2 q1 s1, pw_bop2 q2 s2⟩
          · have e1 : as = [] := List.length_eq_zero_iff.mp (by simp at hl; simp [hl])
            subst e1
            have e0 : xs = [] := List.length_eq_zero_iff.mp p2
            subst e0
            exact pts_oneD q2
      · cases h
    · cases h
theorem okO_succ {n : Nat} (hE : OkE cl cv k n) : OkO cl cv k (n + 1) := by
  intro c a e h X W g tk
  cases a with
  | none =>
    simp only [cO, Option.some.injEq] at h
    subst h
    exact po_noneD
  | some a =>
    rw [cO] at h
    obtain ⟨x, hx, rfl⟩ := Option.map_eq_some_iff.mp h
    exact po_someD (hE c a x hx X W g tk).1
theorem walk_name {c : CC} {a : Expr} {i : Nat} {args : List Expr} (h : walkCall c a = some (i, args)) : ∃ x p pos, a = .Call (.Name x p) args [] pos ∧ c.glob x = true ∧ ((i = 0 ∧ x = "range") ∨ (i = 1 ∧ x = "enumerate") ∨ (i = 2 ∧ x = "zip")) := by
  unfold walkCall at h
  split at h
  · rename_i x p as pos
    split at h
    · rename_i hc
      rw [Bool.and_eq_true] at hc
      split at h
      · rename_i hx
        cases h
        exact ⟨x, p, pos, rfl, hc.1, .inl ⟨rfl, hx⟩⟩
      · split at h
        · rename_i hx
          cases h
          exact ⟨x, p, pos, rfl, hc.1, .inr (.inl ⟨rfl, hx⟩)⟩
        · split at h
          · rename_i hx
            cases h
            exact ⟨x, p, pos, rfl, hc.1, .inr (.inr ⟨rfl, hx⟩)⟩
          · cases h
    · cases h
  · cases h
theorem isTup_of {tg : Expr} (h : isTup tg = true) : ∃ es kk pos, tg = .Tuple es kk pos := by
  cases tg <;> first | exact ⟨_, _, _, rfl⟩ | (simp [isTup] at h)
theorem walk0 {c : CC} {a : Expr} {args : List Expr} (h : walkCall c a = some (0, args)) : ∃ p pos, a = .Call (.Name "range" p) args [] pos ∧ c.glob "range" = true := by
  obtain ⟨x, p, pos, rfl, hg, ⟨_, rfl⟩ | ⟨z, _⟩ | ⟨z, _⟩⟩ := walk_name h
  · exact ⟨p, pos, rfl, hg⟩
  · cases z
  · cases z
theorem walk1 {c : CC} {a : Expr} {args : List Expr} (h : walkCall c a = some (1, args)) : ∃ p pos, a = .Call (.Name "enumerate" p) args [] pos ∧ c.glob "enumerate" = true := by
  obtain ⟨x, p, pos, rfl, hg, ⟨z, _⟩ | ⟨_, rfl⟩ | ⟨z, _⟩⟩ := walk_name h
  · cases z
  · exact ⟨p, pos, rfl, hg⟩
  · cases z
theorem walk2 {c : CC} {a : Expr} {args : List Expr} (h : walkCall c a = some (2, args)) : ∃ p pos, a = .Call (.Name "zip" p) args [] pos ∧ c.glob "zip" = true := by
  obtain ⟨x, p, pos, rfl, hg, ⟨z, _⟩ | ⟨z, _⟩ | ⟨_, rfl⟩⟩ := walk_name h
  · cases z
  · cases z
  · exact ⟨p, pos, rfl, hg⟩
theorem okI_succ {n : Nat} (hE : OkE cl cv k n) : OkI cl cv k (n + 1) := by
  intro c tg a e h X W g tk
  rw [cI] at h
  split at h
  · rename_i y hw
    obtain ⟨p, pos, rfl, hg⟩ := walk0 hw
    split at h
    · rename_i hp
      obtain ⟨z, hz, rfl⟩ := Option.map_eq_some_iff.mp h
      exact pi_rng1D g hg hp (hE c _ z hz X W g tk).1
    · cases h
  · rename_i y y2 hw
    obtain ⟨p, pos, rfl, hg⟩ := walk0 hw
    split at h
    · rename_i hp
      rw [Bool.and_eq_true] at hp
      obtain ⟨z, hz, h⟩ := Option.bind_eq_some_iff.mp h
      obtain ⟨z2, hz2, rfl⟩ := Option.map_eq_some_iff.mp h
      exact pi_rng2D g hg hp.1 hp.2 (hE c _ z hz X W g tk).1 (hE c _ z2 hz2 X W g tk).1
    · cases h
  · rename_i y hw
    obtain ⟨p, pos, rfl, hg⟩ := walk1 hw
    split at h
    · rename_i hp
      rw [Bool.and_eq_true] at hp
      obtain ⟨es, kk, tp, rfl⟩ := isTup_of hp.1
      obtain ⟨z, hz, rfl⟩ := Option.map_eq_some_iff.mp h
      exact pi_enmD g hg hp.2 (hE c _ z hz X W g tk).1
    · cases h
  · rename_i y y2 hw
    obtain ⟨p, pos, rfl, hg⟩ := walk2 hw
    split at h
    · rename_i hp
      rw [Bool.and_eq_true, Bool.and_eq_true] at hp
      obtain ⟨es, kk, tp, rfl⟩ := isTup_of hp.1.1
      obtain ⟨z, hz, h⟩ := Option.bind_eq_some_iff.mp h
      obtain ⟨z2, hz2, rfl⟩ := Option.map_eq_some_iff.mp h
      exact pi_zipD g hg hp.1.2 hp.2 (hE c _ z hz X W g tk).1 (hE c _ z2 hz2 X W g tk).1
    · cases h
  · cases h
  · obtain ⟨z, hz, rfl⟩ := Option.map_eq_some_iff.mp h
    exact pi_seqD (hE c _ z hz X W g tk).1
theorem okE_succ {n : Nat} (hE : OkE cl cv k n) (hEs : OkEs cl cv k n) (hO : OkO cl cv k n) (hI : OkI cl cv k n) : OkE cl cv k (n + 1) := by
  intro c a e h X W g tk
  have leaf : leafE a = true → PE X a (lE (pm X cv) W (evalE cl e)) → PE X a (lE (pm X cv) W (evalE cl e)) ∧ PT X a (lT (pm X cv) W (test cl e)) := fun hl hp => ⟨hp, pt_leafD hl hp⟩
  cases a with
  | Name x pos =>
    refine leaf rfl ?_
    simp only [cE] at h
    split at h
    · rename_i i hi
      cases h
      exact pe_name g hi
    · split at h
      · rename_i hg
        obtain ⟨i, hi, rfl⟩ := Option.map_eq_some_iff.mp h
        obtain ⟨t, ht⟩ := g.gs x i hi
        obtain ⟨g1, g2⟩ := g.glob hg
        exact pe_cst (pe_glob (v := .int i) g1 ht ⟨t, rfl⟩ (plain_parts g2).1) fun _ _ => .int i
      · cases h
  | Constant kk j pos =>
    refine leaf rfl ?_
    simp only [cE] at h
    split at h
    · cases h; exact pe_cst pe_non fun _ _ => .non
    · cases h; exact pe_cst pe_bl fun _ _ => .bl _
    · cases h; exact pe_cst pe_int fun _ _ => .int _
    · cases h; exact pe_cst pe_str fun _ _ => .str _
    · cases h
  | Tuple es kk pos =>
    refine leaf rfl ?_
    simp only [cE] at h
    obtain ⟨xs, hx, rfl⟩ := Option.map_eq_some_iff.mp h
    exact pe_tupD ((hEs c es xs hx).2.2 X W g tk).1
  | List es pos =>
    refine leaf rfl ?_
    simp only [cE] at h
    obtain ⟨xs, hx, rfl⟩ := Option.map_eq_some_iff.mp h
    exact pe_lstD ((hEs c es xs hx).2.2 X W g tk).1
  | Dict ks vs pos =>
    refine leaf rfl ?_
    simp only [cE] at h
    split at h
    · cases h
      exact pe_dctD
    · obtain ⟨x, hx, h⟩ := Option.bind_eq_some_iff.mp h
      obtain ⟨y, hy, rfl⟩ := Option.map_eq_some_iff.mp h
      exact pe_dct1D g (hE c _ x hx X W g tk).1 (hE c _ y hy X W g tk).1
    · cases h
  | BinOp x op y pos =>
    refine leaf rfl ?_
    simp only [cE] at h
    obtain ⟨a, ha, h⟩ := Option.bind_eq_some_iff.mp h
    obtain ⟨b, hb, rfl⟩ := Option.map_eq_some_iff.mp h
    exact pe_binD g (hE c x a ha X W g tk).1 (hE c y b hb X W g tk).1
  | UnaryOp op x pos =>
    simp only [cE] at h
    split at h
    · refine leaf rfl ?_
      obtain ⟨a, ha, rfl⟩ := Option.map_eq_some_iff.mp h
      exact pe_negD (hE c x a ha X W g tk).1
    · obtain ⟨a, ha, rfl⟩ := Option.map_eq_some_iff.mp h
      obtain ⟨h1, h2⟩ := hE c x a ha X W g tk
      exact ⟨pe_notD h1, pt_notD h2⟩
    · cases h
  | Compare x ops ys pos =>
    simp only [cE] at h
    split at h
    · rename_i op y
      split at h
      · rename_i hp
        obtain ⟨a, ha, h⟩ := Option.bind_eq_some_iff.mp h
        obtain ⟨b, hb, rfl⟩ := Option.map_eq_some_iff.mp h
        have h1 := (hE c x a ha X W g tk).1
        have h2 := (hE c y b hb X W g tk).1
        exact ⟨pe_cmpD g hp h1 h2, pt_cmpD g hp h1 h2⟩
      · cases h
    · rename_i op op' y z
      split at h
      · rename_i hp
        rw [Bool.and_eq_true] at hp
        obtain ⟨a, ha, h⟩ := Option.bind_eq_some_iff.mp h
        obtain ⟨b, hb, h⟩ := Option.bind_eq_some_iff.mp h
        obtain ⟨d, hd, rfl⟩ := Option.map_eq_some_iff.mp h
        have h1 := (hE c x a ha X W g tk).1
        have h2 := (hE c y b hb X W g tk).1
        have h3 := (hE c z d hd X W g tk).1
        exact ⟨pe_chnD g hp.2 h1 h2 h3, pt_chnD g hp.2 h1 h2 h3⟩
      · cases h
    · cases h
  | BoolOp op es pos =>
    simp only [cE] at h
    split at h
    · cases h
    · rename_i b bs
      obtain ⟨xs, hx, rfl⟩ := Option.map_eq_some_iff.mp h
      obtain ⟨h1, h2⟩ := ((hEs c (b :: bs) xs hx).2.2 X W g tk).2.1 (by simp) op pos
      refine ⟨h1.mono fun σ H Q q => ?_, h2.pt.mono fun σ H Q q => ?_⟩
      · obtain ⟨ρ, env, st, er, R, gg⟩ := q
        rw [evalE] at gg
        exact ⟨ρ, env, st, er, R, gg⟩
      · obtain ⟨ρ, env, st, er, R, gg⟩ := q
        have e0 : test cl (.bop op xs) env st = testB cl op xs env st := by
          show (evalE cl (.bop op xs) env st).bind asB = (evalB cl op xs env st).bind asB
          rw [evalE]
        rw [e0] at gg
        exact ⟨ρ, env, st, er, R, gg⟩
  | IfExp t x y pos =>
    simp only [cE] at h
    obtain ⟨u, hu, h⟩ := Option.bind_eq_some_iff.mp h
    obtain ⟨a, ha, h⟩ := Option.bind_eq_some_iff.mp h
    obtain ⟨b, hb, rfl⟩ := Option.map_eq_some_iff.mp h
    obtain ⟨t1, t2⟩ := hE c t u hu X W g tk
    obtain ⟨a1, a2⟩ := hE c x a ha X W g tk
    obtain ⟨b1, b2⟩ := hE c y b hb X W g tk
    exact ⟨pe_iteD t2 a1 b1, pt_iteD t2 a2 b2⟩
  | Subscript x s pos =>
    refine leaf rfl ?_
    simp only [cE] at h
    split at h
    · rename_i lo hi p2
      obtain ⟨a, ha, h⟩ := Option.bind_eq_some_iff.mp h
      obtain ⟨l, hl, h⟩ := Option.bind_eq_some_iff.mp h
      obtain ⟨u, hu, rfl⟩ := Option.map_eq_some_iff.mp h
      exact pe_slD (hE c x a ha X W g tk).1 (hO c lo l hl X W g tk) (hO c hi u hu X W g tk)
    · split at h
      · rename_i hp
        obtain ⟨a, ha, h⟩ := Option.bind_eq_some_iff.mp h
        obtain ⟨b, hb, rfl⟩ := Option.map_eq_some_iff.mp h
        exact pe_ixD g hp (hE c x a ha X W g tk).1 (hE c _ b hb X W g tk).1
      · cases h
  | Call f args kws pos =>
    refine leaf rfl ?_
    simp only [cE] at h
    split at h
    · rename_i hk
      rw [List.isEmpty_iff] at hk
      subst hk
      split at h
      · rename_i x p
        split at h
        · rename_i hg
          split at h
          · rename_i i hi
            split at h
            · cases h
            · rename_i hne
              obtain ⟨m, hm, h⟩ := Option.bind_eq_some_iff.mp h
              obtain ⟨xs, hx, rfl⟩ := Option.map_eq_some_iff.mp h
              obtain ⟨h1, h2, h3⟩ := hEs c args xs hx
              exact pe_fnD g tk hg hi hm (fun z => hne (by rw [z]; rfl)) h1 (h3 X W g tk).1
          · split at h
            · cases h
            · rename_i a t p'
              split at h
              · rename_i hxi
                subst hxi
                split at h
                · rename_i hg'
                  split at h
                  · obtain ⟨ty, hty, h⟩ := Option.bind_eq_some_iff.mp h
                    split at h
                    · rename_i hp
                      obtain ⟨b, hb, rfl⟩ := Option.map_eq_some_iff.mp h
                      exact pe_isiD g hg hg' hty hp (hE c a b hb X W g tk).1
                    · cases h
                  · cases h
                · cases h
              · obtain ⟨f, hf, h⟩ := Option.bind_eq_some_iff.mp h
                obtain ⟨xs, hx, rfl⟩ := Option.map_eq_some_iff.mp h
                obtain ⟨h1, h2, h3⟩ := hEs c _ xs hx
                exact pe_biD g hg hf h1 (h3 X W g tk).1
            · obtain ⟨f, hf, h⟩ := Option.bind_eq_some_iff.mp h
              obtain ⟨xs, hx, rfl⟩ := Option.map_eq_some_iff.mp h
              obtain ⟨h1, h2, h3⟩ := hEs c _ xs hx
              exact pe_biD g hg hf h1 (h3 X W g tk).1
        · cases h
      · rename_i o m apos
        split at h
        · rename_i hc
          rw [Bool.and_eq_true, Bool.and_eq_true] at hc
          obtain ⟨mm, hm, h⟩ := Option.bind_eq_some_iff.mp h
          obtain ⟨y, hy, h⟩ := Option.bind_eq_some_iff.mp h
          obtain ⟨xs, hx, rfl⟩ := Option.map_eq_some_iff.mp h
          obtain ⟨h1, h2, h3⟩ := hEs c args xs hx
          obtain ⟨m1, m2⟩ := mtOf_ok hm
          subst m1
          exact pe_mtD g hc.2 hc.1.1 h1 (by omega) (fun z => by subst z; exact List.length_eq_zero_iff.mp h2) (hE c o y hy X W g tk).1 (h3 X W g tk).1
        · cases h
      · cases h
    · cases h
  | ListComp elt gs scope pos =>
    refine leaf rfl ?_
    simp only [cE] at h
    split at h
    · rename_i tg iter ifs
      split at h
      · rename_i hc
        rw [Bool.and_eq_true, Bool.and_eq_true, decide_eq_true_eq] at hc
        obtain ⟨t, ht, h⟩ := Option.bind_eq_some_iff.mp h
        split at h
        · rename_i hs
          obtain ⟨it, hit, h⟩ := Option.bind_eq_some_iff.mp h
          obtain ⟨ts, hts, h⟩ := Option.bind_eq_some_iff.mp h
          obtain ⟨e, he, rfl⟩ := Option.map_eq_some_iff.mp h
          refine pe_lcD g hc.1.2 hc.1.1 (fun i hi => ?_) (hI c tg iter it hit X W g tk) (fun s H C cl' fp => cT_ok (g.blk s H C cl' fp) n tg t ht) (fun s H C cl' fp => ?_) (fun s H C cl' fp => ?_)
          · have q := List.all_eq_true.mp hs i hi
            simpa using q
          · exact ((hEs (c.blk scope) ifs ts hts).2.2 _ _ (g.blk s H C cl' fp) takes_none).2.2 hc.2
          · exact (hE (c.blk scope) elt e he _ _ (g.blk s H C cl' fp) takes_none).1
        · cases h
      · cases h
    · cases h
  | _ => simp [cE] at h
theorem ok_all : ∀ n, OkE cl cv k n ∧ OkEs cl cv k n ∧ OkO cl cv k n ∧ OkI cl cv k n
  | 0 => by
    refine ⟨fun c a e h => by simp [cE] at h, fun c as es h => ?_, fun c a e h X W g tk => ?_, fun c tg a e h => by simp [cI] at h⟩
    · cases as with
      | nil =>
        simp only [cEs, Option.some.injEq] at h
        subst h
        exact ⟨by simp, rfl, fun X W g tk => ⟨pa_nilD, fun z => absurd rfl z, fun _ => pts_nilD⟩⟩
      | cons a as => simp [cEs] at h
    · cases a with
      | none =>
        simp only [cO, Option.some.injEq] at h
        subst h
        exact po_noneD
      | some a => simp [cO] at h
  | n + 1 => by
    obtain ⟨h1, h2, h3, h4⟩ := ok_all n
    exact ⟨okE_succ h1 h2 h3 h4, okEs_succ h1 h2, okO_succ h1, okI_succ h1⟩
end
end Ev

/-! Errors: raise, try with its clauses, the suites. -/
namespace Ev
open PySem PySem.Spec PyProof.Rows L2

theorem _root_.L2.PS.mono {X : Cx} {s : Stmt} {t t' : TS} (h : PS X s t) (m : ∀ D σ H, t' D σ H → t D σ H) : PS X s t' := ⟨fun pins s σ H D I q => h.run pins s σ H D I (m D σ H q)⟩
theorem _root_.L2.PSs.mono {X : Cx} {s : List Stmt} {t t' : TS} (h : PSs X s t) (m : ∀ D σ H, t' D σ H → t D σ H) : PSs X s t' := ⟨fun pins s σ H D I q => h.run pins s σ H D I (m D σ H q)⟩
/-- one clause: its class, its name's slot, its suite's reading -/
structure HdI where
  c : Value
  n : Option Nat
  ts : Addr → Value → Option Addr → TS
def goneD (D : Ends) : Option Nat → Ends
  | none => D
  | some i => { nx := fun σ H => D.nx (σ.set i none) H, rt := D.rt, bk := fun σ H => D.bk (σ.set i none) H, ct := fun σ H => D.ct (σ.set i none) H }
def intoS (σ : L2.St) (a : Addr) : Option Nat → L2.St
  | none => σ
  | some i => σ.set i (some (.ref a))
def wAll (K : PySem.W.Frag) (Wo : WX) (D : Ends) : List HdI → WX
  | [] => Wo
  | q :: r => fun cls d σ H => ∃ b, PySem.W.exmOne K cls q.c = some b ∧ (b = true → ∀ a, H a = none → q.ts a cls d (goneD D q.n) (intoS σ a q.n) H) ∧ (b = false → wAll K Wo D r cls d σ H)
inductive NmOk (X : Cx) : Option Str → Option Nat → Prop
  | none : NmOk X none none
  | some {n : Str} {i : Nat} : X.N[i]? = some n → X.env.kindOf n = some .local → NmOk X (some n) (some i)
inductive HdsIs (X : Cx) : List ExceptHandler → List HdI → Prop
  | nil : HdsIs X [] []
  | cons {x : Str} {nm : Option Str} {q : HdI} {b₀ : Stmt} {su : List Stmt} {np pe : Pos} {hds : List ExceptHandler} {l : List HdI} : Names X x q.c → NmOk X nm q.n →
      (∀ (a : Addr) (oe : Obj) (cls : Value) (d : Option Addr) (pn : List (Addr × Obj)), Zc cls d oe → (∃ vs, oe.data = .fields vs) → PSs (X.suite a ((a, oe) :: pn)) (b₀ :: su) (q.ts a cls d)) →
      HdsIs X hds l → HdsIs X (.ExceptHandler (some (.Name x np)) nm (b₀ :: su) pe :: hds) (q :: l)
section
variable {X : Cx} {body : List Stmt} {h₀ : ExceptHandler} {hds : List ExceptHandler} {l : List HdI} {pos : Pos} {tb : WX → TS} {Wo : WX}
/-- try with any clauses -/
theorem ps_tryA (hs : X.stack = X.env :: X.outer) (hf : X.env.frame = some X.env.locals) (hN : X.N.Nodup) (tk : Takes X Wo)
    (hb : ∀ (W : WX) (pn : List (Addr × Obj)) (xe : Value → Shared → Prop), Takes (X.tr pn xe) W → PassesOwn (model X.prog X.w) X.A X.env xe → PSs (X.tr pn xe) body (tb W))
    (hh : HdsIs X (h₀ :: hds) l) : PS X (.Try body (h₀ :: hds) [] [] pos) (fun D σ H => tb (wAll X.K Wo D l) D σ H) := by
  constructor
  intro pins s σ H D I h
  have kk := I.ok
  have hfr : X.A.frames = some (X.env :: X.outer) := kk.frames.trans (congrArg some hs)
  apply wpAny_Try_except
  have run := (hb (wAll X.K Wo D l) (X.pn ++ pins) (fun e s₁ => wpAny (model X.prog X.w) X.A (noteFrame e X.env) (fun _ s₂ => wpAny (model X.prog X.w) X.A (setFlight e none) (fun _ s₃ =>
    wpAny (model X.prog X.w) X.A (handleBy e X.env (h₀ :: hds)) (SP X pins D) X.xe s₃) X.xe s₂) X.xe s₁) ?cc PassesOwn.looking).run [] s σ H D (I.toTry _) h
  · refine wpAny_mono run (fun f s1 q => ?_) fun _ _ q => q
    cases f with
    | next => obtain ⟨σ1, H1, J1, q1⟩ := q; exact wpAny_execs_nil ⟨σ1, H1, J1.ofTry kk, q1⟩
    | brk => obtain ⟨σ1, H1, J1, q1⟩ := q; exact ⟨σ1, H1, J1.ofTry kk, q1⟩
    | cont => obtain ⟨σ1, H1, J1, q1⟩ := q; exact ⟨σ1, H1, J1.ofTry kk, q1⟩
    | ret u => obtain ⟨v1, σ1, H1, J1, r1, q1⟩ := q; exact ⟨v1, σ1, H1, J1.ofTry kk, r1, q1⟩
  · rintro u t ⟨a, B, si, pins', σ', H', cls, d, rfl, J', nb, up, sky, na, os, ag, wish⟩
    have J : Inv X pins σ' H' si := J'.ofTry kk
    rw [show (X.tr (X.pn ++ pins) _).stack = X.env :: X.outer from hs] at sky
    show wpAny (model X.prog X.w) X.A (noteFrame (.ref a) X.env) _ _ _
    refine Sky.land Zc.steady hfr hf sky fun h3 fl3 up3 => ?_
    have J3 : Inv X pins σ' H' { t with heap := h3 } := J.landed nb fl3.1 (up.trans up3) os ag
    obtain ⟨o3, v3, g3, z3, d3⟩ := fl3.there
    have nfr : a ∉ frs (X.env :: X.outer) := fun hm => by
      obtain ⟨_, o', e', hnf⟩ := fl3.2.2.1.mem hm
      rw [g3] at e'; cases e'
      exact hnf _ d3
    have nL : a ≠ X.env.locals := fun z => nfr (List.mem_filterMap.mpr ⟨X.env, List.mem_cons_self, hf.trans (congrArg some z.symm)⟩)
    have nF : a ∉ X.fs := fun hm => by
      obtain ⟨e, he, q⟩ := List.mem_filterMap.mp hm
      exact nfr (List.mem_filterMap.mpr ⟨e, List.mem_cons_of_mem _ he, q⟩)
    have S3 := J3.suite g3 d3 na nL nF
    have tyA : PySem.W.Looks (model X.prog X.w) h3 (typeOf (.ref a)) cls := fun _ _ _ _ k q => wpAny_typeOf_ref (k _ _ g3) (z3.1.symm ▸ q)
    have walk : ∀ {hl : List ExceptHandler} {ql : List HdI}, HdsIs X hl ql → wAll X.K Wo D ql cls d σ' H' → wpAny (model X.prog X.w) X.A (handleBy (.ref a) X.env hl) (SP X pins D) X.xe { t with heap := h3 } := by
      intro hl ql hk
      induction hk with
      | nil =>
        intro wsh
        refine wpAny_handleBy_nil ?_
        obtain ⟨_, _, _, oe, vs, T, oT, ts', he, hz, hd, h1, hr⟩ := id fl3
        unfold PySem.passOn
        refine wpAny_bind (wpAny_field he hd h1 ?_)
        rw [if_neg (show ¬ ((Value.ref T == Value.none) = true) by simp)]
        have fin : wpAny (model X.prog X.w) X.A (setFlight (.ref a) X.env.frame) (fun _ s4 => wpAny (model X.prog X.w) X.A (throw (.ref a) : Sem Flow) (SP X pins D) X.xe s4) X.xe { t with heap := h3 } := by
          rw [hf]
          refine HandSPX.setFlight_upZ fl3 fun h4 hh4 up4 => wpAny_throw (tk _ _ ⟨a, B, si, pins, σ', H', cls, d, rfl, J, nb, (up.trans up3).trans up4, .inr (.inr (hs.symm ▸ hh4)), na, os, ag, wsh⟩)
        first | exact wpAny_bind (wpAny_pure (wpAny_bind fin)) | exact wpAny_bind fin
      | @cons x nm q b₀ su np pe hds2 l2 hc hn hsu r ih =>
        rintro ⟨b, hm, yes, no⟩
        refine wpAny_handleBy_cons (codeAny_handlers_test ?_) (by intro z; cases z)
        have lm := PySem.W.exm_one (M := model X.prog X.w) J3.kIn tyA hm
        have tst : ∀ {Q : Value → Shared → Prop} {E : Value → Shared → Prop}, Q q.c { t with heap := h3 } → wpAny (model X.prog X.w) (X.A.mark (some (.ref a))) (eval (.Name x np) X.env) Q E { t with heap := h3 } := by
          intro Q E z
          obtain ⟨hg, hdb, y | ⟨y1, y2, y3⟩⟩ := hc
          · exact ld_glob (X := X.suite a ((a, o3) :: (X.pn ++ pins))) S3 hg y z hdb
          · exact ld_blt (X := X.suite a ((a, o3) :: (X.pn ++ pins))) S3 hg y1 y2 z y3 hdb
        refine tst (lm.here ?_)
        cases b with
        | false => exact ih (no rfl)
        | true =>
          obtain ⟨qc, qn, qts⟩ := q
          dsimp only at yes hsu hn
          cases hn with
          | none =>
            refine codeAny_handlers_suite (HandSPX.lands_againZ fl3 fun h4 fl4 up4 => ?_)
            have J4 : Inv X pins σ' H' { t with heap := h4 } := J.landed nb fl4.1 ((up.trans up3).trans up4) os ag
            obtain ⟨o4, v4, g4, z4, d4⟩ := fl4.there
            refine wpAny_mono ((hsu a o4 cls d (X.pn ++ pins) z4 ⟨_, d4⟩).run [] _ _ H' _ (J4.suite g4 d4 na nL nF) (yes rfl a na)) (fun f s6 hq => ?_) fun _ _ z => False.elim z
            cases f with
            | next => obtain ⟨σ6, H6, S6, q6⟩ := hq; exact ⟨_, _, S6.unsuite kk, q6⟩
            | brk => obtain ⟨σ6, H6, S6, q6⟩ := hq; exact ⟨_, _, S6.unsuite kk, q6⟩
            | cont => obtain ⟨σ6, H6, S6, q6⟩ := hq; exact ⟨_, _, S6.unsuite kk, q6⟩
            | ret u => obtain ⟨v6, σ6, H6, S6, r6, q6⟩ := hq; exact ⟨_, _, _, S6.unsuite kk, r6, q6⟩
          | @some n i hi hl =>
            refine codeAny_handlers_suite_as (HandSPX.lands_againZ fl3 fun h4 fl4 up4 => ?_)
            have J4 : Inv X pins σ' H' { t with heap := h4 } := J.landed nb fl4.1 ((up.trans up3).trans up4) os ag
            obtain ⟨o4, v4, g4, z4, d4⟩ := fl4.there
            refine store_ok (X := X.suite a ((a, o4) :: (X.pn ++ pins))) (v := .ref a) (J4.suite g4 d4 na nL nF) hN hi (.inl hl) rfl (fun s5 S5 => ?_) (.inr hl)
            refine wpAny_mono ((hsu a o4 cls d (X.pn ++ pins) z4 ⟨_, d4⟩).run [] s5 _ H' _ S5 (yes rfl a na)) (fun f s6 hq => ?_) fun _ _ z => False.elim z
            have done : ∀ {σ6 : L2.St} {H6 : Hp} {Q : Shared → Prop}, Inv (X.suite a ((a, o4) :: (X.pn ++ pins))) [] σ6 H6 s6 → (∀ s7, Inv X pins (σ6.set i none) H6 s7 → Q s7) →
                wpAny (model X.prog X.w) X.A (do bindName X.env n .none; unbindBehindTheSuite X.env n pe) (fun _ s7 => Q s7) X.xe s6 := fun S6 hq => gone_ok (S6.unsuite kk) hN hi hl hq
            cases f with
            | next => obtain ⟨σ6, H6, S6, q6⟩ := hq; exact done S6 fun s7 J7 => ⟨_, _, J7, q6⟩
            | brk => obtain ⟨σ6, H6, S6, q6⟩ := hq; exact done S6 fun s7 J7 => ⟨_, _, J7, q6⟩
            | cont => obtain ⟨σ6, H6, S6, q6⟩ := hq; exact done S6 fun s7 J7 => ⟨_, _, J7, q6⟩
            | ret u => obtain ⟨v6, σ6, H6, S6, r6, q6⟩ := hq; exact done S6 fun s7 J7 => ⟨_, _, _, J7, r6, q6⟩
    exact walk hh wish
end

/-! ### suites: from the text -/
def cXc (c : CC) (t : Str) : Option XC := if c.glob t then match c.xn t with
    | some j => some (.own j)
    | none => if t = ("ValueError" : Str) then some .ve else none
  else none
def cXcs (c : CC) : List Expr → Option (List XC)
  | [] => some []
  | .Name t _ :: r => match cXc c t, cXcs c r with
    | some x, some xs => some (x :: xs)
    | _, _ => none
  | _ => none
/-- er: the error's name and slot; f: the parts -/
def cQE1 (r : Expr → Option QE) (c : CC) (er : Option (Str × Nat)) (a : Expr) : Option QE := match a with
    | .Constant (.int i) _ _ => some (.int i)
    | .Constant (.bool b) _ _ => some (.bl b)
    | .Name x _ => (c.slot x).map .var
    | .BinOp x .Add y _ => (r x).bind fun a => (r y).map fun b => .add a b
    | .BinOp x .Mult y _ => (r x).bind fun a => (r y).map fun b => .mul a b
    | .BoolOp .Or [x, y] _ => (r x).bind fun a => (r y).map fun b => .or a b
    | .Call (.Name f _) [x] [] _ => if c.glob f && decide (f = ("int" : Str)) && plainE x then (r x).map .toI else none
    | .Call (.Name f _) [.Name e _, .Name t _] [] _ => if c.glob f && decide (f = ("isinstance" : Str)) && decide (er.map (·.1) = some e) && decide (c.slot e = er.map (·.2)) then (cXc c t).map fun x => .isx [x] else none
    | .Call (.Name f _) [.Name e _, .Tuple ts _ _] [] _ => if c.glob f && decide (f = ("isinstance" : Str)) && decide (er.map (·.1) = some e) && decide (c.slot e = er.map (·.2)) then (cXcs c ts).bind fun xs => if xs.length ≤ 1000 then some (.isx xs) else none else none
    | _ => none
def cQE : Nat → CC → Option (Str × Nat) → Expr → Option QE
  | 0, _, _, _ => none
  | n + 1, c, er, a => cQE1 (cQE n c er) c er a
mutual
def cQS : Nat → CC → Option (Str × Nat) → Stmt → Option QS
  | 0, _, _, _ => none
  | n + 1, c, er, s => match s with
    | .Assign [.Name x _] e _ => if isLc e then none else (c.store x).bind fun i => if er.map (·.2) = some i then none else (cQE n c er e).map fun a => .asg i a
    | .If t a [] _ => if leafE t then (cQE n c er t).bind fun u => (cQSs n c er a).map fun x => .ite u x else none
    | .Return (some e) _ => (cQE n c er e).map .ret
    | .Return none _ => some .retN
    | _ => none
def cQSs : Nat → CC → Option (Str × Nat) → List Stmt → Option (List QS)
  | _, _, _, [] => some []
  | 0, _, _, _ => none
  | n + 1, c, er, s :: ss => match cQS n c er s, cQSs n c er ss with
    | some x, some xs => some (x :: xs)
    | _, _ => none
end
/-- the error's name, a plain local -/
def cErr (c : CC) : Option Str → Option (Option (Str × Nat))
  | none => some none
  | some n => if decide (c.sc.names.lookup n = some .local) && plainName n then (ixOf c.N n).map fun i => some (n, i) else none
def cHd (n : Nat) (c : CC) : ExceptHandler → Option Hd
  | .ExceptHandler (some (.Name x _)) nm (b₀ :: su) _ => if c.glob x then (c.xn x).bind fun j => (cErr c nm).bind fun er => (cQSs n c er (b₀ :: su)).map fun b => ⟨j, er.map (·.2), b⟩ else none
  | _ => none
def cHds (n : Nat) (c : CC) : List ExceptHandler → Option (List Hd)
  | [] => some []
  | h :: hs => match cHd n c h, cHds n c hs with
    | some x, some xs => some (x :: xs)
    | _, _ => none

/-! ### suites: readings -/
def ErAt (σ : L2.St) (es : Option Nat) (a : Addr) : Prop := ∀ i, es = some i → σ[i]? = some (some (.ref a))
def qL (p : Pm) (es : Option Nat) (a : Addr) (m : En → Option D) : TE := fun σ H Q => ∃ ρ env st d, EnvR p.K ρ H σ env ∧ Rel p ρ H st ∧ ErAt σ es a ∧ m env = some d ∧ ∀ ρ' H' v, Ext ρ H ρ' H' → Rel p ρ' H' st → Rep p.K ρ' H' v d → Q v H'
/-- what an error's suite sees -/
structure Sx (cv : Nat → Value) (X : Cx) (c : CC) (a : Addr) (oe : Obj) (cn : Nat) (C : Addr) : Prop where
  is : cv cn = .ref C
  rz : cn ∈ c.rz
  z : Zc (.ref C) none oe
  f : ∃ vs, oe.data = .fields vs
section
variable {cl : Calls} {cv : Nat → Value} {k : Nat} {X : Cx} {c : CC} {a C : Addr} {oe : Obj} {cn : Nat} {pn : List (Addr × Obj)} {er : Option (Str × Nat)}
theorem call_isT (E : ExcC X.K C) (hz : Zc (.ref C) none oe) (hf : ∃ vs, oe.data = .fields vs) : CallR (X.suite a ((a, oe) :: pn)) (.builtin "isinstance") (fun xs H Q => ∃ t vs b, xs = [.ref a, .ref t] ∧ H t = some (.tup vs) ∧ (∀ us, Vals vs us → PySem.W.kitAny X.K (.ref C) us = some b) ∧ Q (.bl b) H) := by
  intro pins s σ H xs us Q I r h
  obtain ⟨t, vs, b, rfl, ht, e, q⟩ := h
  obtain ⟨u1, u2, rfl, r1, r2⟩ := vals2 r
  cases r1
  cases r2
  obtain ⟨hget, _⟩ := I.pin (a, oe) (List.mem_append.mpr (.inl List.mem_cons_self))
  obtain ⟨ws, hv⟩ := hf
  have J : PySem.W.InstAt s.heap a oe C none := by
    obtain ⟨oc, od, oda, osl⟩ := oe
    obtain ⟨h1, h2⟩ := hz
    dsimp only at h1 h2 hv
    subst h1 h2 hv
    exact ⟨hget, rfl, rfl, trivial⟩
  obtain ⟨its, rv, ⟨⟨oc, od, oda, osl⟩, e1, e2, m, e3⟩, _⟩ := I.tuple (SqT.of ht)
  dsimp only at e2 e3
  subst e2 e3
  exact PySem.W.kia_tup (PySem.W.handS_kitx_exc E.hg E.hk E.hs E.hd E.ha E.hn E.ht E.hm) I.kIn J e1 (e its rv) (fun z => nomatch z) fun tk => ⟨.bl b, H, I.kept (t' := tk) fun _ _ z => z, rfl, q⟩
/-- a class's name -/
def xcV (cv : Nat → Value) : XC → V
  | .own j => match cv j with
    | .ref C => .ref C
    | _ => .non
  | .ve => .ty "ValueError"
theorem xc_name (g : Gd cl cv k X c) (S : Sx cv X c a oe cn C) {t : Str} {p : Pos} {x : XC} (h : cXc c t = some x) : PE (X.suite a ((a, oe) :: pn)) (.Name t p) (tC (xcV cv x)) ∧ ∀ u, RelV (xcV cv x) u → PySem.W.kitOne X.K (.ref C) u = some (xis cn x) := by
  unfold cXc at h
  split at h
  · rename_i hg
    obtain ⟨g1, g2⟩ := g.glob hg
    obtain ⟨d1, d2, d3⟩ := plain_parts g2
    split at h
    · rename_i j hj
      cases h
      obtain ⟨D, e1, e2⟩ := g.exs j t hj
      have ev : xcV cv (.own j) = .ref D := by simp only [xcV, e1]
      rw [ev]
      refine ⟨pe_glob (X := X.suite a ((a, oe) :: pn)) g1 e2 rfl d1, fun u hu => ?_⟩
      cases hu
      have q := (g.exm cn S.rz t j hj).2
      rw [S.is, e1] at q
      exact q
    · split at h
      · rename_i ht
        subst ht
        cases h
        refine ⟨pe_bltn (X := X.suite a ((a, oe) :: pn)) g1 (g.blt _ (by decide)) (by decide +kernel) rfl d3 d1, fun u hu => ?_⟩
        cases hu
        obtain ⟨D, e1, e2⟩ := g.exr cn S.rz
        rw [S.is] at e1
        cases e1
        exact e2.ve
      · cases h
  · cases h
theorem xcs_names (g : Gd cl cv k X c) (S : Sx cv X c a oe cn C) : ∀ {ts : List Expr} {xs : List XC}, cXcs c ts = some xs → (∃ ta : TA, PA (X.suite a ((a, oe) :: pn)) ts ta ∧ ∀ σ H Q, Q (xs.map (xcV cv)) H → ta σ H Q) ∧ ts.length = xs.length ∧
    ∀ us, Vals (xs.map (xcV cv)) us → PySem.W.kitAny X.K (.ref C) us = some (xs.any (xis cn)) := by
  intro ts
  induction ts with
  | nil =>
    intro xs h
    simp only [cXcs, Option.some.injEq] at h
    subst h
    refine ⟨⟨_, pa_nil, fun σ H Q q => q⟩, rfl, fun us r => ?_⟩
    cases r
    rfl
  | cons t ts ih =>
    intro xs h
    cases t with
    | Name t p =>
      rw [cXcs] at h
      split at h
      · rename_i x ys h1 h2
        cases h
        obtain ⟨⟨ta, p1, p2⟩, p3, p4⟩ := ih h2
        obtain ⟨q1, q2⟩ := xc_name (pn := pn) (p := p) g S h1
        refine ⟨⟨_, pa_cons q1 p1, fun σ H Q q => p2 σ H _ q⟩, by simp [p3], fun us r => ?_⟩
        cases r with
        | cons r1 r2 =>
          have e1 := q2 _ r1
          have e2 := p4 _ r2
          rw [PySem.W.kitAny, e1, List.any_cons]
          cases xis cn x with
          | true => rfl
          | false => simpa using e2
      · cases h
    | _ => simp [cXcs] at h
theorem Sx.exc (g : Gd cl cv k X c) (S : Sx cv X c a oe cn C) : ExcC X.K C := by
  obtain ⟨D, e1, e2⟩ := g.exr cn S.rz
  rw [S.is] at e1
  cases e1
  exact e2.ec
theorem q_int {ρ : List Addr} {H : Hp} {v : V} {i : Int} (r : Rep X.K ρ H v (.int i)) : v = .int i := by cases r; rfl
theorem q_bl {ρ : List Addr} {H : Hp} {v : V} {i : Bool} (r : Rep X.K ρ H v (.bl i)) : v = .bl i := by cases r; rfl
/-- two parts, one behind the other -/
theorem qL_two {p : Pm} {es : Option Nat} {m m1 m2 : En → Option D} {σ : L2.St} {H : Hp} {Q : VK} {G : V → V → Hp → VK → Prop} (h : qL p es a m σ H Q)
    (hs : ∀ env d, m env = some d → ∃ d1 d2, m1 env = some d1 ∧ m2 env = some d2 ∧ ∀ ρ H' st x y, Rel p ρ H' st → Rep p.K ρ H' x d1 → Rep p.K ρ H' y d2 → (∀ ρ2 H2 v, Ext ρ H' ρ2 H2 → Rel p ρ2 H2 st → Rep p.K ρ2 H2 v d → Q v H2) → G x y H' Q) :
    qL p es a m1 σ H (fun x H1 => qL p es a m2 σ H1 (fun y H2 => G x y H2 Q)) := by
  obtain ⟨ρ, env, st, d, er, R, ea, hm, q⟩ := h
  obtain ⟨d1, d2, h1, h2, h3⟩ := hs env d hm
  exact ⟨ρ, env, st, d1, er, R, ea, h1, fun ρ1 H1 x e1 R1 r1 => ⟨ρ1, env, st, d2, er.ext e1, R1, ea, h2, fun ρ2 H2 y e2 R2 r2 => h3 ρ2 H2 st x y R2 (r1.ext e2) r2 fun ρ3 H3 v e3 R3 rv => q ρ3 H3 v ((e1.trans e2).trans e3) R3 rv⟩⟩
theorem qe_bin (g : Gd cl cv k X c) {x y : Expr} {u w q : QE} {op : Operator} {pos : Pos} (hu : PE (X.suite a ((a, oe) :: pn)) x (qL (pm X cv) (er.map (·.2)) a (fun env => qE cn env u))) (hw : PE (X.suite a ((a, oe) :: pn)) y (qL (pm X cv) (er.map (·.2)) a (fun env => qE cn env w)))
    (hq : ∀ env d, qE cn env q = some d → ∃ i j : Int, qE cn env u = some (.int i) ∧ qE cn env w = some (.int j) ∧ ∀ st, binI op i j st = .ok d st) : PE (X.suite a ((a, oe) :: pn)) (.BinOp x op y pos) (qL (pm X cv) (er.map (·.2)) a (fun env => qE cn env q)) := by
  refine (pe_op (op_bin (X := X.suite a ((a, oe) :: pn)) (cv := cv) op) hu hw).mono fun σ H Q z => qL_two z fun env d hm => ?_
  obtain ⟨i, j, h1, h2, h3⟩ := hq env d hm
  refine ⟨_, _, h1, h2, fun ρ H' st x y R rx ry qq => ⟨fun _ _ _ => True, ρ, st, .int i, .int j, R, rx, ry, ?_⟩⟩
  show Got _ _ _ (binI op i j st) _ _
  rw [h3]
  exact fun ρ' H'' e' R' v rv => qq ρ' H'' v e' R' rv
theorem er_var (g : Gd cl cv k X c) {e : Str} {p : Pos} (h1 : er.map (·.1) = some e) (h2 : c.slot e = er.map (·.2)) : ∃ i, er = some (e, i) ∧ PE (X.suite a ((a, oe) :: pn)) (.Name e p) (fun σ H Q => ErAt σ (some i) a ∧ Q (.ref a) H) := by
  cases er with
  | none => cases h1
  | some q =>
    obtain ⟨ne, i⟩ := q
    cases h1
    obtain ⟨s1, s2, s3⟩ := g.slot h2
    obtain ⟨p1, p2, p3⟩ := plain_parts s3
    exact ⟨i, rfl, (pe_var (X := X.suite a ((a, oe) :: pn)) s1 s2 p1 p2).mono fun σ H Q z => ⟨_, z.1 i rfl, z.2⟩⟩
theorem qe_ok (g : Gd cl cv k X c) (S : Sx cv X c a oe cn C) : ∀ (n : Nat) (e : Expr) (q : QE), cQE n c er e = some q → PE (X.suite a ((a, oe) :: pn)) e (qL (pm X cv) (er.map (·.2)) a (fun env => qE cn env q)) := by
  intro n
  induction n with
  | zero => intro e q h; simp [cQE] at h
  | succ n ih =>
    intro e q h
    rw [cQE] at h
    unfold cQE1 at h
    split at h
    · cases h
      refine pe_int.mono fun σ H Q z => ?_
      obtain ⟨ρ, env, st, d, er', R, ea, hm, qq⟩ := z
      cases hm
      exact qq ρ H _ .refl R (.int _)
    · cases h
      refine pe_bl.mono fun σ H Q z => ?_
      obtain ⟨ρ, env, st, d, er', R, ea, hm, qq⟩ := z
      cases hm
      exact qq ρ H _ .refl R (.bl _)
    · obtain ⟨i, hi, rfl⟩ := Option.map_eq_some_iff.mp h
      obtain ⟨h1, h2, h3⟩ := g.slot hi
      obtain ⟨p1, p2, p3⟩ := plain_parts h3
      refine (pe_var (X := X.suite a ((a, oe) :: pn)) h1 h2 p1 p2).mono fun σ H Q z => ?_
      obtain ⟨ρ, env, st, d, er', R, ea, hm, qq⟩ := z
      obtain ⟨v, hv, rv⟩ := er'.val i d (En.val_some hm)
      exact ⟨v, hv, qq ρ H v .refl R rv⟩
    · obtain ⟨u, hu, h⟩ := Option.bind_eq_some_iff.mp h
      obtain ⟨w, hw, rfl⟩ := Option.map_eq_some_iff.mp h
      refine qe_bin g (ih _ _ hu) (ih _ _ hw) fun env d hm => ?_
      simp only [qE] at hm
      split at hm
      · rename_i i j h1 h2
        cases hm
        exact ⟨i, j, h1, h2, fun st => rfl⟩
      · cases hm
    · obtain ⟨u, hu, h⟩ := Option.bind_eq_some_iff.mp h
      obtain ⟨w, hw, rfl⟩ := Option.map_eq_some_iff.mp h
      refine qe_bin g (ih _ _ hu) (ih _ _ hw) fun env d hm => ?_
      simp only [qE] at hm
      split at hm
      · rename_i i j h1 h2
        split at hm
        · rename_i hk
          cases hm
          exact ⟨i, j, h1, h2, fun st => by simp [binI, hk]⟩
        · cases hm
      · cases hm
    · obtain ⟨u, hu, h⟩ := Option.bind_eq_some_iff.mp h
      obtain ⟨w, hw, rfl⟩ := Option.map_eq_some_iff.mp h
      refine (pe_or (ih _ _ hu) (pe_one (ih _ _ hw))).mono fun σ H Q z => ?_
      obtain ⟨ρ, env, st, d, er', R, ea, hm, qq⟩ := z
      simp only [qE] at hm
      split at hm
      · rename_i i j h1 h2
        cases hm
        refine ⟨ρ, env, st, .bl i, er', R, ea, h1, fun ρ1 H1 x e1 R1 r1 => ⟨i, q_bl (X := X) r1, ?_⟩⟩
        cases i with
        | true => exact ite_tt (qq ρ1 H1 _ e1 R1 (.bl _))
        | false => exact ite_ff ⟨ρ1, env, st, .bl j, er'.ext e1, R1, ea, h2, fun ρ2 H2 y e2 R2 r2 => qq ρ2 H2 y (e1.trans e2) R2 r2⟩
      · cases hm
    · rename_i f p x pos
      split at h
      · rename_i hc
        simp only [Bool.and_eq_true, decide_eq_true_eq] at hc
        obtain ⟨⟨hg, rfl⟩, hp⟩ := hc
        obtain ⟨u, hu, rfl⟩ := Option.map_eq_some_iff.mp h
        obtain ⟨g1, g2⟩ := g.glob hg
        obtain ⟨d1, d2, d3⟩ := plain_parts g2
        refine (pe_callTy (X := X.suite a ((a, oe) :: pn)) call_int1 g1 (g.blt _ (by decide)) (by decide +kernel) (pa_cons (ih _ _ hu) pa_nil (star_cons hp)) d3 d1 (star_cons hp) rfl).mono fun σ H Q z => ?_
        obtain ⟨ρ, env, st, d, er', R, ea, hm, qq⟩ := z
        simp only [qE] at hm
        split at hm
        · rename_i b hb
          cases hm
          refine ⟨ρ, env, st, .bl b, er', R, ea, hb, fun ρ1 H1 x e1 R1 r1 => ?_⟩
          have ev := q_bl (X := X) r1
          subst ev
          exact .inr ⟨b, rfl, qq ρ1 H1 _ e1 R1 (.int _)⟩
        · cases hm
      · cases h
    · rename_i f p e' p1 t p2 pos
      split at h
      · rename_i hc
        simp only [Bool.and_eq_true, decide_eq_true_eq] at hc
        obtain ⟨⟨⟨hg, rfl⟩, he1⟩, he2⟩ := hc
        obtain ⟨x, hx, rfl⟩ := Option.map_eq_some_iff.mp h
        obtain ⟨g1, g2⟩ := g.glob hg
        obtain ⟨d1, d2, d3⟩ := plain_parts g2
        obtain ⟨i, rfl, hv⟩ := er_var (a := a) (oe := oe) (pn := pn) (p := p1) g he1 he2
        obtain ⟨q1, q2⟩ := xc_name (pn := pn) (p := p2) g S hx
        refine (pe_callB (X := X.suite a ((a, oe) :: pn)) (call_isE (S.exc g) S.z S.f) g1 (g.blt _ (by decide)) (by decide +kernel) (pa_cons hv (pa_cons q1 pa_nil)) d3 d1 rfl rfl).mono fun σ H Q z => ?_
        obtain ⟨ρ, env, st, d, er', R, ea, hm, qq⟩ := z
        simp only [qE, Option.some.injEq, List.any_cons, List.any_nil, Bool.or_false] at hm
        subst hm
        have hw : ∃ w : Value, (∀ u, RelV (xcV cv x) u → u = w) ∧ PySem.W.kitOne X.K (.ref C) w = some (xis cn x) := by
          cases ev : xcV cv x with
          | ref D => exact ⟨.ref D, fun u hu => hu, q2 _ (by rw [ev]; rfl)⟩
          | ty D => exact ⟨.type D, fun u hu => hu, q2 _ (by rw [ev]; rfl)⟩
          | non => exact ⟨.none, fun u hu => hu, q2 _ (by rw [ev]; rfl)⟩
          | _ => cases x <;> simp [xcV] at ev <;> split at ev <;> cases ev
        obtain ⟨w, w1, w2⟩ := hw
        exact ⟨ea, _, w, _, rfl, w1, w2, qq ρ H _ .refl R (.bl _)⟩
      · cases h
    · rename_i f p e' p1 ts kk p2 pos
      split at h
      · rename_i hc
        simp only [Bool.and_eq_true, decide_eq_true_eq] at hc
        obtain ⟨⟨⟨hg, rfl⟩, he1⟩, he2⟩ := hc
        obtain ⟨xs, hx, h⟩ := Option.bind_eq_some_iff.mp h
        split at h
        · rename_i hlen
          cases h
          obtain ⟨g1, g2⟩ := g.glob hg
          obtain ⟨d1, d2, d3⟩ := plain_parts g2
          obtain ⟨i, rfl, hv⟩ := er_var (a := a) (oe := oe) (pn := pn) (p := p1) g he1 he2
          obtain ⟨⟨ta, q1, q2⟩, q3, q4⟩ := xcs_names (pn := pn) g S hx
          refine (pe_callB (X := X.suite a ((a, oe) :: pn)) (call_isT (S.exc g) S.z S.f) g1 (g.blt _ (by decide)) (by decide +kernel) (pa_cons hv (pa_cons (pe_tup q1) pa_nil)) d3 d1 rfl rfl).mono fun σ H Q z => ?_
          obtain ⟨ρ, env, st, d, er', R, ea, hm, qq⟩ := z
          simp only [qE, Option.some.injEq] at hm
          subst hm
          refine ⟨ea, q2 _ _ _ ⟨by rw [List.length_map, sizeLine_eq]; omega, fun t ht => ?_⟩⟩
          exact ⟨t, _, _, rfl, upd_same, q4, qq ρ _ _ (Ext.grow ht _) (R.grow ht _) (.bl _)⟩
        · cases h
      · cases h
    · cases h

/-! ### suites: statements -/
def qF (p : Pm) (es : Option Nat) (a : Addr) (ρ : List Addr) (H : Hp) (r : Fl) (D : Ends) : Prop := match r with
  | .nx env st => ∀ ρ' H' σ', Ext ρ H ρ' H' → Rel p ρ' H' st → EnvR p.K ρ' H' σ' env → ErAt σ' es a → D.nx σ' H'
  | .rt d st => ∀ ρ' H' v, Ext ρ H ρ' H' → Rel p ρ' H' st → Rep p.K ρ' H' v d → D.rt v H'
  | _ => False
def lQS (p : Pm) (es : Option Nat) (a : Addr) (m : En → Sto → Fl) : TS := fun D σ H => ∃ ρ env st, EnvR p.K ρ H σ env ∧ Rel p ρ H st ∧ ErAt σ es a ∧ qF p es a ρ H (m env st) D
theorem qF.step {p : Pm} {es : Option Nat} {ρ ρ1 : List Addr} {H H1 : Hp} {r : Fl} {D : Ends} (e : Ext ρ H ρ1 H1) (h : qF p es a ρ H r D) : qF p es a ρ1 H1 r D := by
  cases r with
  | nx env st => exact fun ρ' H' σ' e' => h ρ' H' σ' (e.trans e')
  | rt d st => exact fun ρ' H' v e' => h ρ' H' v (e.trans e')
  | _ => exact h
theorem qs_nil {p : Pm} {es : Option Nat} {Y : Cx} : PSs Y [] (lQS p es a (qSs cn [])) := pss_nil.mono fun D σ H q => by
  obtain ⟨ρ, env, st, er, R, ea, g⟩ := q
  rw [qSs] at g
  exact g ρ H σ .refl R er ea
theorem qs_cons {p : Pm} {es : Option Nat} {Y : Cx} {s : Stmt} {ss : List Stmt} {q : QS} {qs : List QS} (h1 : PS Y s (lQS p es a (qS cn q))) (h2 : PSs Y ss (lQS p es a (qSs cn qs))) : PSs Y (s :: ss) (lQS p es a (qSs cn (q :: qs))) := (pss_cons h1 h2).mono fun D σ H z => by
  obtain ⟨ρ, env, st, er, R, ea, g⟩ := z
  rw [qSs] at g
  refine ⟨ρ, env, st, er, R, ea, ?_⟩
  cases hr : qS cn q env st with
  | nx env1 st1 =>
    rw [hr] at g
    exact fun ρ' H' σ' e' R' er' ea' => ⟨ρ', env1, st1, er', R', ea', qF.step e' g⟩
  | rt d st1 =>
    rw [hr] at g
    exact g
  | ct => rw [hr] at g; exact g
  | exc => rw [hr] at g; exact g
  | bad => rw [hr] at g; exact g
theorem er_set {σ : L2.St} {es : Option Nat} {i : Nat} {v : Option V} (h : ErAt σ es a) (hi : es ≠ some i) : ErAt (σ.set i v) es a := fun j hj => by
  have hij : i ≠ j := fun z => hi (z ▸ hj)
  rw [List.getElem?_set_ne hij]
  exact h j hj
theorem qs_ok (g : Gd cl cv k X c) (S : Sx cv X c a oe cn C) : ∀ (n : Nat), (∀ s q, cQS n c er s = some q → PS (X.suite a ((a, oe) :: pn)) s (lQS (pm X cv) (er.map (·.2)) a (qS cn q))) ∧ (∀ ss qs, cQSs n c er ss = some qs → PSs (X.suite a ((a, oe) :: pn)) ss (lQS (pm X cv) (er.map (·.2)) a (qSs cn qs))) := by
  intro n
  induction n with
  | zero =>
    refine ⟨fun s q h => by simp [cQS] at h, fun ss qs h => ?_⟩
    cases ss with
    | nil =>
      simp only [cQSs, Option.some.injEq] at h
      subst h
      exact qs_nil
    | cons s ss => simp [cQSs] at h
  | succ n ih =>
    refine ⟨fun s q h => ?_, fun ss qs h => ?_⟩
    · unfold cQS at h
      split at h
      · rename_i x p e pos
        split at h
        · cases h
        · rename_i hl
          obtain ⟨i, hi, h⟩ := Option.bind_eq_some_iff.mp h
          split at h
          · cases h
          · rename_i hne
            obtain ⟨u, hu, rfl⟩ := Option.map_eq_some_iff.mp h
            obtain ⟨h1, h2, h3⟩ := g.store hi
            refine (ps_set (X := X.suite a ((a, oe) :: pn)) g.nd h1 h2 (qe_ok g S n _ _ hu) (by cases e <;> first | rfl | (simp [isLc] at hl)) h3).mono fun D σ H z => ?_
            obtain ⟨ρ, env, st, er', R, ea, gg⟩ := z
            rw [qS] at gg
            split at gg
            · rename_i d hd
              refine ⟨ρ, env, st, d, er', R, ea, hd, fun ρ1 H1 v e1 R1 r1 => ?_⟩
              exact gg ρ1 H1 _ e1 R1 ((er'.ext e1).set r1 i) (er_set ea hne)
            · exact gg.elim
      · rename_i t b pos
        split at h
        · rename_i hl
          obtain ⟨u, hu, h⟩ := Option.bind_eq_some_iff.mp h
          obtain ⟨x, hx, rfl⟩ := Option.map_eq_some_iff.mp h
          refine (ps_if (pt_val (qe_ok g S n _ _ hu) (leaf_true hl)) (ih.2 _ _ hx) pss_nil).mono fun D σ H z => ?_
          obtain ⟨ρ, env, st, er', R, ea, gg⟩ := z
          rw [qS] at gg
          split at gg
          · rename_i b' hb
            refine ⟨ρ, env, st, .bl b', er', R, ea, hb, fun ρ1 H1 v e1 R1 r1 => ⟨b', q_bl (X := X) r1, ?_⟩⟩
            cases b' with
            | true => exact ite_tt ⟨ρ1, env, st, er'.ext e1, R1, ea, qF.step e1 gg⟩
            | false => exact ite_ff (gg ρ1 H1 σ e1 R1 (er'.ext e1) ea)
          · exact gg.elim
        · cases h
      · obtain ⟨u, hu, rfl⟩ := Option.map_eq_some_iff.mp h
        refine (ps_ret (qe_ok g S n _ _ hu)).mono fun D σ H z => ?_
        obtain ⟨ρ, env, st, er', R, ea, gg⟩ := z
        rw [qS] at gg
        split at gg
        · rename_i d hd
          exact ⟨ρ, env, st, d, er', R, ea, hd, fun ρ1 H1 v e1 R1 r1 => gg ρ1 H1 v e1 R1 r1⟩
        · exact gg.elim
      · cases h
        refine ps_retN.mono fun D σ H z => ?_
        obtain ⟨ρ, env, st, er', R, ea, gg⟩ := z
        rw [qS] at gg
        exact gg ρ H .non .refl R .non
      · cases h
    · cases ss with
      | nil =>
        simp only [cQSs, Option.some.injEq] at h
        subst h
        exact qs_nil
      | cons s ss =>
        rw [cQSs] at h
        split at h
        · rename_i x xs h1 h2
          cases h
          exact qs_cons (ih.1 _ _ h1) (ih.2 _ _ h2)
        · cases h
end
end Ev

/-! Statements. -/
namespace Ev
open PySem PySem.Spec PyProof.Rows L2

/-! ### from the text -/
def plainV : Expr → Bool
  | .Starred .. => false
  | _ => true
/-- a comprehension that is stored as it is let go -/
def CC.swaps (c : CC) (x : Str) (l : Nat) (e : Expr) : Bool := match e with
  | .ListComp _ _ scope pos => decide (c.sc.kind = .function) && decide (c.sc.names.lookup x = some .local) && (l == pos.line) && !(scope.names.any fun (n, k) => n == x && (k == .local || k == .cell))
  | _ => false
mutual
def cS : Nat → CC → Stmt → Option S
  | 0, _, _ => none
  | n + 1, c, s => match s with
    | .Assign ts e pos => match ts with
      | [.Name x p] => if isLc e then (if c.swaps x p.line e then (c.store x).bind fun i => (cE n c e).map fun a => .asg (.nm i) a else none)
          else (c.store x).bind fun i => (cE n c e).map fun a => .asg (.nm i) a
      | [.Tuple us k tp] => match e with
        | .Tuple vs k2 tp2 => match us, vs with
          | [.Name x px, .Name y py], [a, b] => if decide (c.sc.kind = .function) && decide (c.sc.names.lookup x = some .local) && decide (c.sc.names.lookup y = some .local) && decide (py.line = px.line) && decide (x ≠ y) && plainE a && plainE b
                && !([a, b].all (foldedForSure 8)) && !([a, b].all (constantsAlone 8)) then
              (ixOf c.N x).bind fun i => (ixOf c.N y).bind fun j => (cE n c a).bind fun u => (cE n c b).map fun v => .par i j u v
              else none
          | _, _ => none
        | e => (cT c n (.Tuple us k tp)).bind fun t => (cE n c e).map fun a => .asg t a
      | [.Subscript o i p] => if plainE i then (cE n c o).bind fun a => (cE n c i).bind fun b => (cE n c e).map fun v => .put a b v else none
      | _ => none
    | .AugAssign t op e pos => match t, op with
      | .Name x p, .Add => (c.store x).bind fun i => (cE n c e).map fun a => .aug i .Add a
      | _, _ => none
    | .Expr e pos => if isLc e then none else (cE n c e).map .exp
    | .If t a b pos => (cE n c t).bind fun u => (cSs n c a).bind fun x => (cSs n c b).map fun y => .ite u x y
    | .For tg it b e pos => if e.isEmpty && plainE it then (cT c n tg).bind fun t => (cI n c tg it).bind fun i => (cSs n c b).map fun x => .fo t i x else none
    | .While t b e pos => if e.isEmpty then (cE n c t).bind fun u => (cSs n c b).map fun x => .wh u x else none
    | .Return e pos => match e with
      | none => some .retN
      | some e => (cE n c e).map .ret
    | .Continue _ => some .con
    | .Pass _ => some .pas
    | .Raise e f _ => match e, f with
      | some (.Call (.Name x _) [.Constant (.str _) _ _] [] _), none => if c.glob x then (c.xn x).bind fun i => if c.rz.contains i then some (.rai i []) else none else none
      | _, _ => none
    | .Try b hs e f _ => if e.isEmpty && f.isEmpty && !hs.isEmpty then (cSs n c b).bind fun x => (cHds n c hs).map fun h => .tri c.rz x h else none
    | _ => none
def cSs : Nat → CC → List Stmt → Option (List S)
  | _, _, [] => some []
  | 0, _, _ => none
  | n + 1, c, s :: ss => match cS n c s, cSs n c ss with
    | some x, some xs => some (x :: xs)
    | _, _ => none
end

/-! ### readings -/
def GotF (p : Pm) (ρ : List Addr) (H : Hp) (r : Fl) (D : Ends) (W : WX) : Prop := match r with
  | .nx env st => ∀ ρ' H' σ', Ext ρ H ρ' H' → Rel p ρ' H' st → EnvR p.K ρ' H' σ' env → D.nx σ' H'
  | .ct env st => ∀ ρ' H' σ', Ext ρ H ρ' H' → Rel p ρ' H' st → EnvR p.K ρ' H' σ' env → D.ct σ' H'
  | .rt d st => ∀ ρ' H' v, Ext ρ H ρ' H' → Rel p ρ' H' st → Rep p.K ρ' H' v d → D.rt v H'
  | .exc c fs env st => ∀ ρ' H' σ' dd, Ext ρ H ρ' H' → Rel p ρ' H' st → EnvR p.K ρ' H' σ' env → ExcD p ρ' H' fs dd → W (p.cv c) dd σ' H'
  | .bad => False
def lS (p : Pm) (W : WX) (m : En → Sto → Fl) : TS := fun D σ H => ∃ ρ env st, EnvR p.K ρ H σ env ∧ Rel p ρ H st ∧ GotF p ρ H (m env st) D W
section
variable {p : Pm} {W : WX} {ρ ρ1 : List Addr} {H H1 : Hp} {σ : L2.St} {env : En} {st : Sto} {D : Ends}
theorem GotF.step {r : Fl} (e : Ext ρ H ρ1 H1) (g : GotF p ρ H r D W) : GotF p ρ1 H1 r D W := by
  cases r with
  | nx env st => exact fun ρ' H' σ' e' => g ρ' H' σ' (e.trans e')
  | ct env st => exact fun ρ' H' σ' e' => g ρ' H' σ' (e.trans e')
  | rt d st => exact fun ρ' H' v e' => g ρ' H' v (e.trans e')
  | exc c fs env st => exact fun ρ' H' σ' dd e' => g ρ' H' σ' dd (e.trans e')
  | bad => exact g
theorem GotF.fl {α : Type} {r : Res α} {f : α → Sto → Fl} (er : EnvR p.K ρ H σ env) (g : GotF p ρ H (r.fl env f) D W) :
    Got p ρ H r (fun a st1 ρ1 H1 => Ext ρ H ρ1 H1 ∧ Rel p ρ1 H1 st1 ∧ EnvR p.K ρ1 H1 σ env ∧ GotF p ρ1 H1 (f a st1) D W) (fun c dd H' => W c dd σ H') := by
  cases r with
  | ok a st1 => exact fun ρ' H' e' R => ⟨e', R, er.ext e', g.step e'⟩
  | exc c fs st1 => exact fun ρ' H' dd e' R x => g ρ' H' σ dd e' R (er.ext e') x
  | bad => exact g
theorem lE_fl {m : En → Sto → Res Ev.D} {f : Ev.D → Sto → Fl} {K : VK} (er : EnvR p.K ρ H σ env) (R : Rel p ρ H st) (g : GotF p ρ H ((m env st).fl env f) D W)
    (nx : ∀ x st1 ρ1 H1 v, Ext ρ H ρ1 H1 → Rel p ρ1 H1 st1 → EnvR p.K ρ1 H1 σ env → Rep p.K ρ1 H1 v x → GotF p ρ1 H1 (f x st1) D W → K v H1) : lE p W m σ H K :=
  ⟨ρ, env, st, er, R, (GotF.fl er g).mono fun x st1 ρ1 H1 _ _ ⟨e1, R1, er1, g1⟩ v rv => nx x st1 ρ1 H1 v e1 R1 er1 rv g1⟩
theorem lA_fl {m : En → Sto → Res (List Ev.D)} {f : List Ev.D → Sto → Fl} {K : List V → Hp → Prop} (er : EnvR p.K ρ H σ env) (R : Rel p ρ H st) (g : GotF p ρ H ((m env st).fl env f) D W)
    (nx : ∀ x st1 ρ1 H1 v, Ext ρ H ρ1 H1 → Rel p ρ1 H1 st1 → EnvR p.K ρ1 H1 σ env → Reps p.K ρ1 H1 v x → GotF p ρ1 H1 (f x st1) D W → K v H1) : lA p W m σ H K :=
  ⟨ρ, env, st, er, R, (GotF.fl er g).mono fun x st1 ρ1 H1 _ _ ⟨e1, R1, er1, g1⟩ v rv => nx x st1 ρ1 H1 v e1 R1 er1 rv g1⟩
theorem lT_fl {m : En → Sto → Res Bool} {f : Bool → Sto → Fl} {K : Bool → Hp → Prop} (er : EnvR p.K ρ H σ env) (R : Rel p ρ H st) (g : GotF p ρ H ((m env st).fl env f) D W)
    (nx : ∀ x st1 ρ1 H1, Ext ρ H ρ1 H1 → Rel p ρ1 H1 st1 → EnvR p.K ρ1 H1 σ env → GotF p ρ1 H1 (f x st1) D W → K x H1) : lT p W m σ H K :=
  ⟨ρ, env, st, er, R, (GotF.fl er g).mono fun x st1 ρ1 H1 _ _ ⟨e1, R1, er1, g1⟩ => nx x st1 ρ1 H1 e1 R1 er1 g1⟩
/-- one after another -/
def Fl.andThen (r : Fl) (k : En → Sto → Fl) : Fl := match r with
  | .nx env st => k env st
  | r => r
/-- a turn's end: on to the next -/
def Fl.turn (r : Fl) (k : En → Sto → Fl) : Fl := match r with
  | .nx env st => k env st
  | .ct env st => k env st
  | r => r
def Nx (p : Pm) (W : WX) (D : Ends) (ρ : List Addr) (H : Hp) (k : En → Sto → Fl) : L2.St → Hp → Prop := fun σ' H' => ∃ ρ' env' st', Ext ρ H ρ' H' ∧ EnvR p.K ρ' H' σ' env' ∧ Rel p ρ' H' st' ∧ GotF p ρ' H' (k env' st') D W
theorem GotF.andThen {r : Fl} {k : En → Sto → Fl} (g : GotF p ρ H (r.andThen k) D W) : GotF p ρ H r { D with nx := Nx p W D ρ H k } W := by
  cases r with
  | nx env st => exact fun ρ' H' σ' e' R' er' => ⟨ρ', env, st, e', er', R', GotF.step e' g⟩
  | _ => exact g
theorem GotF.turn {r : Fl} {k : En → Sto → Fl} {B : L2.St → Hp → Prop} (g : GotF p ρ H (r.turn k) D W) : GotF p ρ H r { D with nx := Nx p W D ρ H k, ct := Nx p W D ρ H k, bk := B } W := by
  cases r with
  | nx env st => exact fun ρ' H' σ' e' R' er' => ⟨ρ', env, st, e', er', R', GotF.step e' g⟩
  | ct env st => exact fun ρ' H' σ' e' R' er' => ⟨ρ', env, st, e', er', R', GotF.step e' g⟩
  | _ => exact g
end

/-! ### each statement -/
section
variable {cl : Calls} {cv : Nat → Value} {k w : Nat} {X : Cx} {c : CC} {W : WX}
theorem pss_nilD : PSs X [] (lS (pm X cv) W (execSs cl w [])) := pss_nil.mono fun D σ H q => by
  obtain ⟨ρ, env, st, er, R, g⟩ := q
  rw [execSs] at g
  exact g ρ H σ .refl R er
theorem pss_consD {a : Stmt} {as : List Stmt} {s : S} {ss : List S} (h1 : PS X a (lS (pm X cv) W (execS cl w s))) (h2 : PSs X as (lS (pm X cv) W (execSs cl w ss))) : PSs X (a :: as) (lS (pm X cv) W (execSs cl w (s :: ss))) := (pss_cons h1 h2).mono fun D σ H q => by
  obtain ⟨ρ, env, st, er, R, g⟩ := q
  have e : execSs cl w (s :: ss) env st = (execS cl w s env st).andThen (execSs cl w ss) := by rw [execSs]; rfl
  rw [e] at g
  refine ⟨ρ, env, st, er, R, ?_⟩
  have g2 := GotF.andThen g
  revert g2
  generalize execS cl w s env st = r
  intro g2
  cases r with
  | nx env st =>
    intro ρ' H' σ' e' R' er'
    obtain ⟨ρ2, env2, st2, _, h2, h3, h4⟩ := g2 ρ' H' σ' e' R' er'
    exact ⟨ρ2, env2, st2, h2, h3, h4⟩
  | _ => exact g2
theorem ps_asgD (g : Gd cl cv k X c) {tg e : Expr} {t : Tg} {a : E} {pos : Pos} (he : PE X e (lE (pm X cv) W (evalE cl a))) (hg : PG X tg (lG (pm X cv) t)) (hs : swapsWithSole [tg] e pos.line X.env = pure false) (hw : swappedStores [tg] e X.env = pure none)
    (h1 : (assignEach [tg] X.env).map (·.2) = [assign tg X.env]) : PS X (.Assign [tg] e pos) (lS (pm X cv) W (execS cl w (.asg t a))) := (ps_asg he hg hs hw h1).mono fun D σ H q => by
  obtain ⟨ρ, env, st, er, R, gg⟩ := q
  rw [execS] at gg
  refine lE_fl er R gg fun x st1 ρ1 H1 v e1 R1 er1 rv g1 => ?_
  split at g1
  · rename_i env' hb
    exact ⟨ρ1, env, st1, x, env', er1, R1, rv, hb, fun σ' er' _ => g1 ρ1 H1 σ' .refl R1 er'⟩
  · exact g1.elim
theorem rd_set {p : Pm} {D : Ends} {σ : L2.St} {H : Hp} {i : Nat} {a : E} {te : TE} (h : ∀ Q, lE p W (evalE cl a) σ H Q → te σ H Q) (q : lS p W (execS cl w (.asg (.nm i) a)) D σ H) : tAsg te (gName i) D σ H := by
  obtain ⟨ρ, env, st, er, R, gg⟩ := q
  rw [execS] at gg
  refine h _ (lE_fl er R gg fun x st1 ρ1 H1 v e1 R1 er1 rv g1 => ?_)
  simp only [bindT] at g1
  exact g1 ρ1 H1 _ .refl R1 (er1.set rv i)
theorem swaps_plain {e : Expr} {t : Option Expr} {l : Nat} {env : Env} (h : isLc e = false) : swapsWith e t l env = pure false := by
  cases e <;> first | rfl | (simp [isLc] at h)
theorem ps_setD (g : Gd cl cv k X c) {x : Str} {e : Expr} {a : E} {i : Nat} {p' pos : Pos} (hi : c.store x = some i) (hl : isLc e = false) (he : PE X e (lE (pm X cv) W (evalE cl a))) : PS X (.Assign [.Name x p'] e pos) (lS (pm X cv) W (execS cl w (.asg (.nm i) a))) := by
  obtain ⟨h1, h2, h3⟩ := g.store hi
  exact (ps_set g.nd h1 h2 he (swaps_plain hl) h3).mono fun D σ H q => rd_set (fun _ q => q) q
/-- the parts of a comprehension -/
theorem lc_parts {n : Nat} {elt : Expr} {gs : List Comprehension} {scope : Scope} {pos : Pos} {e : E} (h : cE (n + 1) c (.ListComp elt gs scope pos) = some e) : ∃ tg iter ifs t it ts el, gs = [⟨tg, iter, ifs, 0⟩] ∧ e = .lc ((ownOf c.N scope.names).map (·.2)) t it ts el ∧
    blkC c.N c.sc scope (ownOf c.N scope.names) = true ∧ plainE iter = true ∧ ifs.length ≤ 1 ∧ cT (c.blk scope) n tg = some t ∧ (∀ i ∈ tgSlots t, i ∈ (ownOf c.N scope.names).map (·.2)) ∧ cI n c tg iter = some it ∧ cEs n (c.blk scope) ifs = some ts ∧ cE n (c.blk scope) elt = some el := by
  simp only [cE] at h
  split at h
  · rename_i tg iter ifs
    split at h
    · rename_i hc
      rw [Bool.and_eq_true, Bool.and_eq_true, decide_eq_true_eq] at hc
      obtain ⟨t, ht, h⟩ := Option.bind_eq_some_iff.mp h
      split at h
      · rename_i hs
        obtain ⟨it, hit, h⟩ := Option.bind_eq_some_iff.mp h
        obtain ⟨ts, hts, h⟩ := Option.bind_eq_some_iff.mp h
        obtain ⟨e, he, rfl⟩ := Option.map_eq_some_iff.mp h
        refine ⟨tg, iter, ifs, t, it, ts, e, rfl, rfl, hc.1.1, hc.1.2, hc.2, ht, fun i hi => ?_, hit, hts, he⟩
        have q := List.all_eq_true.mp hs i hi
        simpa using q
      · cases h
    · cases h
  · cases h
theorem ps_setLcD (g : Gd cl cv k X c) (tk : Takes X W) {n : Nat} {x : Str} {e : Expr} {a : E} {i : Nat} {p' pos : Pos} (hi : c.store x = some i) (hl : c.swaps x p'.line e = true) (he : cE n c e = some a) : PS X (.Assign [.Name x p'] e pos) (lS (pm X cv) W (execS cl w (.asg (.nm i) a))) := by
  obtain ⟨h1, h2, h3⟩ := g.store hi
  cases e with
  | ListComp elt gs scope lpos =>
    simp only [CC.swaps, Bool.and_eq_true, decide_eq_true_eq, Bool.not_eq_true'] at hl
    obtain ⟨⟨⟨l1, l2⟩, l3⟩, l4⟩ := hl
    cases n with
    | zero => simp [cE] at he
    | succ n =>
      obtain ⟨tg, iter, ifs, t, it, ts, el, rfl, rfl, q1, q2, q3, q4, q5, q6, q7, q8⟩ := lc_parts he
      obtain ⟨oE, oEs, oO, oI⟩ := ok_all (cl := cl) (cv := cv) (k := k) n
      refine (ps_setLc (wi := lI (pm X cv) W (evalI cl it)) (g := lG (pm X cv) t) (tt := lT (pm X cv) (fun _ _ _ _ => False) (evalTs cl ts)) (te := lE (pm X cv) (fun _ _ _ _ => False) (evalE cl el)) g.calm g.nd h1 (by rw [g.sc]; exact l2) (sw_true (by rw [g.sc]; exact l1) (by rw [g.sc]; exact l2) l3 l4) (oI c tg iter it q6 X W g tk) (by rw [g.N, g.sc]; exact blkOk_by q1)
        (fun s H C cl' fp => cT_ok (g.blk s H C cl' fp) n tg t q4) (fun s H C cl' fp => ((oEs (c.blk scope) ifs ts q7).2.2 _ _ (g.blk s H C cl' fp) takes_none).2.2 q3) (fun s H C cl' fp => (oE (c.blk scope) elt el q8 _ _ (g.blk s H C cl' fp) takes_none).1) (plain_folded q2)).mono fun D σ H q => rd_set (fun Q q => ?_) q
      exact rd_lc q5 q
  | _ => simp [CC.swaps] at hl
theorem star_no {a : Expr} (h : plainE a = true) : (match a with | .Starred .. => true | _ => false) = false := by
  cases a <;> first | rfl | (simp [plainE] at h)
theorem ps_parD (g : Gd cl cv k X c) {x y : Str} {a b : Expr} {u v : E} {i j : Nat} {px py pt pt2 pos : Pos} {kt k2 : Nat} (hi : ixOf c.N x = some i) (hj : ixOf c.N y = some j) (hk : c.sc.kind = .function) (hx : c.sc.names.lookup x = some .local) (hy : c.sc.names.lookup y = some .local) (hl : py.line = px.line) (hxy : x ≠ y)
    (pa : plainE a = true) (pb : plainE b = true) (hf : [a, b].all (foldedForSure 8) = false) (hcs : [a, b].all (constantsAlone 8) = false) (ha : PE X a (lE (pm X cv) W (evalE cl u))) (hb : PE X b (lE (pm X cv) W (evalE cl v))) :
    PS X (.Assign [.Tuple [.Name x px, .Name y py] kt pt] (.Tuple [a, b] k2 pt2) pos) (lS (pm X cv) W (execS cl w (.par i j u v))) := by
  have hN1 : X.N[i]? = some x := by rw [g.N]; exact ixOf_at hi
  have hN2 : X.N[j]? = some y := by rw [g.N]; exact ixOf_at hj
  have hij : i ≠ j := fun z => by
    subst z
    rw [hN1] at hN2
    exact hxy (Option.some.inj hN2)
  have hw : swappedStores [.Tuple [.Name x px, .Name y py] kt pt] (.Tuple [a, b] k2 pt2) X.env = pure (some [x, y]) := by
    have ky : X.env.kindOf y = some .local := by show X.env.scope.names.lookup y = _; rw [g.sc]; exact hy
    have kx : X.env.kindOf x = some .local := by show X.env.scope.names.lookup x = _; rw [g.sc]; exact hx
    have kb : X.env.blockKind = .function := by unfold Env.blockKind; rw [g.sc, hk]; rfl
    have hne : y ≠ x := fun z => hxy z.symm
    unfold swappedStores
    simp only [List.length_cons, List.length_nil, kb, star_no pa, star_no pb, List.any_cons, List.any_nil, List.filterMap_cons, List.filterMap_nil, kx, ky, Expr.pos, hl, hf, hcs, List.eraseDups_cons, List.filter_cons, List.head?_cons, Option.map_some, Option.getD_some]
    simp [hne, hxy]
    have e2 : [x, y].eraseDups.length = 2 := by
      rw [List.eraseDups_cons]
      simp [hne, List.eraseDups_cons]
    rw [if_neg, if_pos e2]
    intro z
    rcases z with z | z
    · cases a <;> first | (exact absurd z Bool.false_ne_true) | (simp [plainE] at pa)
    · cases b <;> first | (exact absurd z Bool.false_ne_true) | (simp [plainE] at pb)
  refine (ps_par g.calm g.nd hN1 hN2 hij (by rw [g.sc]; exact hx) (by rw [g.sc]; exact hy) (pa_cons ha (pa_cons hb pa_nil (star_cons pb)) (star_cons pa)) hw rfl).mono fun D σ H q => ?_
  obtain ⟨ρ, env, st, er, R, gg⟩ := q
  rw [execS] at gg
  refine lE_fl er R gg fun x st1 ρ1 H1 v e1 R1 er1 rv g1 => ?_
  refine lE_fl er1 R1 g1 fun y st2 ρ2 H2 u e2 R2 er2 ru g2 => ?_
  exact ⟨v, u, rfl, g2 ρ2 H2 _ .refl R2 ((er2.set (rv.ext e2) i).set ru j)⟩
theorem ps_putD (g : Gd cl cv k X c) {o i e : Expr} {a b v : E} {p' pos : Pos} (hp : plainE i = true) (ho : PE X o (lE (pm X cv) W (evalE cl a))) (hi : PE X i (lE (pm X cv) W (evalE cl b))) (he : PE X e (lE (pm X cv) W (evalE cl v))) :
    PS X (.Assign [.Subscript o i p'] e pos) (lS (pm X cv) W (execS cl w (.put a b v))) := by
  have hs : swapsWithSole [.Subscript o i p'] e pos.line X.env = pure false := by
    show swapsWith e (some (.Subscript o i p')) pos.line X.env = pure false
    cases e <;> rfl
  have hw : swappedStores [.Subscript o i p'] e X.env = pure none := by cases e <;> rfl
  have hst : PG X (.Subscript o i p') (gSub (lE (pm X cv) W (evalE cl a)) (lE (pm X cv) W (evalE cl b)) (PutD (pm X cv))) := pg_sub ho hi (put_ok g.units) (by
    intro v
    cases i <;> first | rfl | (simp [plainE] at hp))
  refine (ps_asg he hst hs hw rfl).mono fun D σ H q => ?_
  obtain ⟨ρ, env, st, er, R, gg⟩ := q
  rw [execS] at gg
  refine lE_fl er R gg fun z st1 ρ1 H1 vz e1 R1 er1 rz g1 => ?_
  refine lE_fl er1 R1 g1 fun x st2 ρ2 H2 vx e2 R2 er2 rx g2 => ?_
  refine lE_fl er2 R2 g2 fun y st3 ρ3 H3 vy e3 R3 er3 ry g3 => ?_
  split at g3
  · rename_i st' hput
    exact ⟨ρ3, st3, x, y, z, st', R3, rx.ext e3, ry, (rz.ext e2).ext e3, hput, fun H' e' R' => g3 ρ3 H' σ e' R' (er3.ext e')⟩
  · exact g3.elim
theorem ps_augD (g : Gd cl cv k X c) {x : Str} {e : Expr} {a : E} {i : Nat} {p' pos : Pos} (hi : c.store x = some i) (he : PE X e (lE (pm X cv) W (evalE cl a))) : PS X (.AugAssign (.Name x p') .Add e pos) (lS (pm X cv) W (execS cl w (.aug i .Add a))) := by
  obtain ⟨h1, h2, h3⟩ := g.store hi
  refine (ps_aug g.nd h1 h2 he ip_add h3).mono fun D σ H q => ?_
  obtain ⟨ρ, env, st, er, R, gg⟩ := q
  rw [execS] at gg
  cases hv : env.val i with
  | none => rw [hv] at gg; exact gg.elim
  | some d =>
    rw [hv, Res.of_some, Res.fl_ok] at gg
    obtain ⟨v, hv', rv⟩ := er.val i d (En.val_some hv)
    refine ⟨v, hv', lE_fl er R gg fun y st1 ρ1 H1 u e1 R1 er1 ru g1 => ?_⟩
    split at g1
    · rename_i z1 z2 z3
      cases rv
      cases ru
      exact ⟨_, _, rfl, rfl, g1 ρ1 H1 _ .refl R1 (er1.set (.int _) i)⟩
    · exact g1.elim
theorem ps_expD {e : Expr} {a : E} {pos : Pos} (hl : isLc e = false) (he : PE X e (lE (pm X cv) W (evalE cl a))) : PS X (.Expr e pos) (lS (pm X cv) W (execS cl w (.exp a))) := (ps_expr he (swaps_plain hl)).mono fun D σ H q => by
  obtain ⟨ρ, env, st, er, R, gg⟩ := q
  rw [execS] at gg
  exact lE_fl er R gg fun y st1 ρ1 H1 u e1 R1 er1 ru g1 => g1 ρ1 H1 σ .refl R1 er1
theorem ps_iteD {t : Expr} {a b : List Stmt} {u : E} {x y : List S} {pos : Pos} (ht : PT X t (lT (pm X cv) W (test cl u))) (ha : PSs X a (lS (pm X cv) W (execSs cl w x))) (hb : PSs X b (lS (pm X cv) W (execSs cl w y))) : PS X (.If t a b pos) (lS (pm X cv) W (execS cl w (.ite u x y))) := (ps_if ht ha hb).mono fun D σ H q => by
  obtain ⟨ρ, env, st, er, R, gg⟩ := q
  rw [execS] at gg
  refine lT_fl (m := test cl u) er R gg fun b st1 ρ1 H1 e1 R1 er1 g1 => ?_
  cases b with
  | true => exact ite_tt ⟨ρ1, env, st1, er1, R1, g1⟩
  | false => exact ite_ff ⟨ρ1, env, st1, er1, R1, g1⟩
theorem ps_retD {e : Expr} {a : E} {pos : Pos} (he : PE X e (lE (pm X cv) W (evalE cl a))) : PS X (.Return (some e) pos) (lS (pm X cv) W (execS cl w (.ret a))) := (ps_ret he).mono fun D σ H q => by
  obtain ⟨ρ, env, st, er, R, gg⟩ := q
  rw [execS] at gg
  exact lE_fl er R gg fun y st1 ρ1 H1 u e1 R1 er1 ru g1 => g1 ρ1 H1 u .refl R1 ru
theorem ps_retND {pos : Pos} : PS X (.Return none pos) (lS (pm X cv) W (execS cl w .retN)) := ps_retN.mono fun D σ H q => by
  obtain ⟨ρ, env, st, er, R, gg⟩ := q
  rw [execS] at gg
  exact gg ρ H .non .refl R .non
theorem ps_conD {pos : Pos} : PS X (.Continue pos) (lS (pm X cv) W (execS cl w .con)) := ps_continue.mono fun D σ H q => by
  obtain ⟨ρ, env, st, er, R, gg⟩ := q
  rw [execS] at gg
  exact gg ρ H σ .refl R er
theorem ps_pasD {pos : Pos} : PS X (.Pass pos) (lS (pm X cv) W (execS cl w .pas)) := ps_pass.mono fun D σ H q => by
  obtain ⟨ρ, env, st, er, R, gg⟩ := q
  rw [execS] at gg
  exact gg ρ H σ .refl R er
theorem loopW_succ (test : En → Sto → Res Bool) (body : En → Sto → Fl) (n : Nat) (env : En) (st : Sto) : loopW test body (n + 1) env st = (test env st).fl env fun b st1 => if b = true then (body env st1).turn (loopW test body n) else .nx env st1 := by
  rw [loopW]
  have e : (fun b st1 => if b = true then match body env st1 with
      | .nx env2 st2 => loopW test body n env2 st2
      | .ct env2 st2 => loopW test body n env2 st2
      | r => r
    else .nx env st1) = (fun b st1 => if b = true then (body env st1).turn (loopW test body n) else .nx env st1 : Bool → Sto → Fl) := by
    funext b st1
    cases b with
    | true =>
      simp only [if_true]
      cases body env st1 <;> rfl
    | false => rfl
  exact congrArg _ e
theorem ps_whD {t : Expr} {b : List Stmt} {u : E} {x : List S} {pos : Pos} (hp : PassesOwn (model X.prog X.w) X.A X.env X.xe) (ht : PT X t (lT (pm X cv) W (test cl u))) (hb : PSs X b (lS (pm X cv) W (execSs cl w x))) : PS X (.While t b [] pos) (lS (pm X cv) W (execS cl w (.wh u x))) := (ps_while hp ht hb).mono fun D σ H q => by
  obtain ⟨ρ, env, st, er, R, gg⟩ := q
  rw [execS] at gg
  refine ⟨fun m σ H => ∃ ρ env st, EnvR X.K ρ H σ env ∧ Rel (pm X cv) ρ H st ∧ GotF (pm X cv) ρ H (loopW (test cl u) (execSs cl w x) m env st) D W, ⟨w, ρ, env, st, er, R, gg⟩, ?_⟩
  rintro m σ H ⟨ρ, env, st, er, R, gg⟩
  cases m with
  | zero => exact gg.elim
  | succ m =>
    rw [loopW_succ] at gg
    refine lT_fl er R gg fun b st1 ρ1 H1 e1 R1 er1 g1 => ?_
    cases b with
    | true =>
      refine ite_tt ⟨Nx (pm X cv) W D ρ1 H1 (loopW (test cl u) (execSs cl w x) m), ?_, ρ1, env, st1, er1, R1, GotF.turn g1⟩
      rintro σ' H' ⟨ρ', env', st', _, h2, h3, h4⟩
      exact ⟨m, Nat.lt_succ_self m, ρ', env', st', h2, h3, h4⟩
    | false => exact ite_ff (g1 ρ1 H1 σ .refl R1 er1)
theorem loopF_cons (bd : Sto → Ev.D → En → Option En) (body : En → Sto → Fl) (gd : List (Nat × O)) (d : Ev.D) (ds : List Ev.D) (env : En) (st : Sto) : loopF bd body gd (d :: ds) env st = if still gd st then match bd st d env with
    | some env1 => (body env1 st).turn (loopF bd body gd ds)
    | none => .bad
    else .bad := by
  rw [loopF]
  cases still gd st with
  | false => rfl
  | true =>
    simp only [if_true]
    cases bd st d env with
    | none => rfl
    | some env1 =>
      simp only
      cases body env1 st <;> rfl
theorem ps_foD (g : Gd cl cv k X c) {tg it : Expr} {b : List Stmt} {t : Tg} {i : I} {x : List S} {pos : Pos} (hp : PassesOwn (model X.prog X.w) X.A X.env X.xe) (hpl : plainE it = true) (hg : PG X tg (lG (pm X cv) t)) (hi : PI X tg it (lI (pm X cv) W (evalI cl i))) (hb : PSs X b (lS (pm X cv) W (execSs cl w x))) :
    PS X (.For tg it b [] pos) (lS (pm X cv) W (execS cl w (.fo t i x))) := (ps_for hp g.calm hi hg hb (plain_folded hpl)).mono fun D σ H q => by
  obtain ⟨ρ, env, st, er, R, gg⟩ := q
  rw [execS] at gg
  refine ⟨ρ, env, st, er, R, (GotF.fl er gg).mono fun w0 st1 ρ1 H1 _ _ ⟨e1, R1, er1, g1⟩ J hJ => ?_⟩
  let lp := loopF (fun st => bindT st t) (fun env st => execSs cl w x env st) w0.gd
  refine ⟨fun i m σ H => m = w0.xs.length - i ∧ i ≤ w0.xs.length ∧ ∃ ρi envi sti, Ext ρ1 H1 ρi H ∧ EnvR X.K ρi H σ envi ∧ Rel (pm X cv) ρi H sti ∧ GotF (pm X cv) ρi H (lp (w0.xs.drop i) envi sti) D W,
    ⟨w0.xs.length, by simp, Nat.zero_le _, ρ1, env, st1, .refl, er1, R1, g1⟩, ?_⟩
  rintro i m σ H ⟨rfl, hi, ρi, envi, sti, ei, eri, Ri, gi⟩
  by_cases hlt : i < w0.xs.length
  · have hd : w0.xs.drop i = w0.xs[i] :: w0.xs.drop (i + 1) := List.drop_eq_getElem_cons hlt
    rw [hd] at gi
    have gi' : GotF (pm X cv) ρi H (loopF (fun st => bindT st t) (fun env st => execSs cl w x env st) w0.gd (w0.xs[i] :: w0.xs.drop (i + 1)) envi sti) D W := gi
    rw [loopF_cons] at gi'
    split at gi'
    · rename_i hst
      split at gi'
      · rename_i env1 hbd
        refine .inr ⟨hJ.goes i ρi H sti ei Ri hst hlt, Nx (pm X cv) W D ρi H (lp (w0.xs.drop (i + 1))), ?_, fun y H' hy => ?_⟩
        · rintro σ' H' ⟨ρ', env', st', h1, h2, h3, h4⟩
          exact ⟨w0.xs.length - (i + 1), by omega, rfl, hlt, ρ', env', st', ei.trans h1, h2, h3, h4⟩
        · obtain ⟨ey, Ry, d, hdx, rx⟩ := hJ.yields i ρi H sti y H' ei Ri hst hlt hy
          have ed : d = w0.xs[i] := by
            rw [List.getElem?_eq_getElem hlt] at hdx
            exact (Option.some.inj hdx).symm
          subst ed
          refine ⟨ρi, envi, sti, _, env1, eri.ext ey, Ry, rx, hbd, fun σ2 er2 _ => ⟨ρi, env1, sti, er2, Ry, ?_⟩⟩
          have g2 := (GotF.turn (B := D.nx) gi').step ey
          exact g2
      · exact gi'.elim
    · exact gi'.elim
  · have en : i = w0.xs.length := by omega
    subst en
    rw [List.drop_length] at gi
    have gi' : GotF (pm X cv) ρi H (loopF (fun st => bindT st t) (fun env st => execSs cl w x env st) w0.gd [] envi sti) D W := gi
    rw [loopF] at gi'
    split at gi'
    · rename_i hst
      exact .inl ⟨hJ.stops ρi H sti ei Ri hst, gi' ρi H σ .refl Ri eri⟩
    · exact gi'.elim
/-! ### errors -/
theorem ps_raiD (g : Gd cl cv k X c) (tk : Takes X W) {x m : Str} {i j : Nat} {p p2 pc pos : Pos} (hg : c.glob x = true) (hi : c.xn x = some i) (hr : i ∈ c.rz) :
    PS X (.Raise (some (.Call (.Name x p) [.Constant (.str m) j p2] [] pc)) none pos) (lS (pm X cv) W (execS cl w (.rai i []))) := by
  obtain ⟨g1, g2⟩ := g.glob hg
  obtain ⟨d1, d2, d3⟩ := plain_parts g2
  obtain ⟨C, e1, e2⟩ := g.exs i x hi
  obtain ⟨C', f1, f2⟩ := g.exr i hr
  rw [e1] at f1
  cases f1
  refine (ps_raise g.calm tk (pmk_own PySem.F.excBase_ValueError f2.make e2 f2.kp (raises_own f2.sb f2.ty) g1 d1)).mono fun D σ H q => ?_
  obtain ⟨ρ, env, st, er, R, gg⟩ := q
  rw [execS, evalEs] at gg
  have q := gg ρ H σ none .refl R er rfl
  rw [show (pm X cv).cv i = .ref C from e1] at q
  exact q
def hdI (p : Pm) (rz : List Nat) (h : Hd) : HdI := ⟨p.cv h.c, h.n, fun a cls d D σ H => ∃ cn C, cls = p.cv cn ∧ cn ∈ rz ∧ p.cv cn = .ref C ∧ d = none ∧ lQS p h.n a (qSs cn h.b) D σ H⟩
theorem cErr_ok (g : Gd cl cv k X c) {nm : Option Str} {er : Option (Str × Nat)} (h : cErr c nm = some er) : NmOk X nm (er.map (·.2)) := by
  cases nm with
  | none =>
    simp only [cErr, Option.some.injEq] at h
    subst h
    exact .none
  | some n =>
    rw [cErr] at h
    split at h
    · rename_i hc
      rw [Bool.and_eq_true, decide_eq_true_eq] at hc
      obtain ⟨i, hi, rfl⟩ := Option.map_eq_some_iff.mp h
      refine .some (by rw [g.N]; exact ixOf_at hi) ?_
      show X.env.scope.names.lookup n = _
      rw [g.sc]
      exact hc.1
    · cases h
theorem cHds_ok (g : Gd cl cv k X c) {n : Nat} : ∀ {hs : List ExceptHandler} {xs : List Hd}, cHds n c hs = some xs → HdsIs X hs (xs.map (hdI (pm X cv) c.rz)) ∧ ∀ h ∈ xs, ∃ x, c.xn x = some h.c := by
  intro hs
  induction hs with
  | nil =>
    intro xs h
    simp only [cHds, Option.some.injEq] at h
    subst h
    exact ⟨.nil, by simp⟩
  | cons e hs ih =>
    intro xs h
    rw [cHds] at h
    split at h
    · rename_i x ys h1 h2
      cases h
      obtain ⟨q1, q2⟩ := ih h2
      unfold cHd at h1
      split at h1
      · rename_i y p nm b₀ su pe
        split at h1
        · rename_i hg
          obtain ⟨j, hj, h1⟩ := Option.bind_eq_some_iff.mp h1
          obtain ⟨er, her, h1⟩ := Option.bind_eq_some_iff.mp h1
          obtain ⟨b, hb, rfl⟩ := Option.map_eq_some_iff.mp h1
          obtain ⟨g1, g2⟩ := g.glob hg
          obtain ⟨d1, d2, d3⟩ := plain_parts g2
          obtain ⟨C, e1, e2⟩ := g.exs j y hj
          refine ⟨.cons (q := hdI (pm X cv) c.rz ⟨j, er.map (·.2), b⟩) ⟨g1, d1, .inl (by rw [e2]; exact congrArg some e1.symm)⟩ (cErr_ok g her) (fun a oe cls d pn hz hf => ⟨fun pins s σ H D I q => ?_⟩) q1, fun h hh => ?_⟩
          · obtain ⟨cn, C', rfl, c1, c2, rfl, q⟩ := q
            have hz' : Zc (.ref C') none oe := by
              have e3 : cv cn = .ref C' := c2
              rw [← e3]; exact hz
            exact ((qs_ok (er := er) (pn := pn) g ⟨c2, c1, hz', hf⟩ n).2 _ _ hb).run pins s σ H D I q
          · rcases List.mem_cons.mp hh with rfl | hh
            · exact ⟨y, hj⟩
            · exact q2 h hh
        · cases h1
      · cases h1
    · cases h
theorem EnvR.hide {K : PySem.W.Frag} {ρ : List Addr} {H : Hp} {σ : L2.St} {env : En} (h : EnvR K ρ H σ env) (i : Nat) (v : V) : EnvR K ρ H (σ.set i (some v)) (env.set i none) := by
  refine ⟨by simp [h.len], fun j e he => ?_⟩
  by_cases hj : i = j
  · subst hj
    by_cases hi : i < env.length
    · rw [List.getElem?_set_self hi] at he
      cases he
    · rw [List.getElem?_eq_none (by simpa using hi)] at he; cases he
  · rw [List.getElem?_set_ne hj] at he
    obtain ⟨u, a, b⟩ := h.val j e he
    exact ⟨u, by rw [List.getElem?_set_ne hj]; exact a, b⟩
theorem handle_ok (g : Gd cl cv k X c) {cn : Nat} (hc : cn ∈ c.rz) {D : Ends} {ρ : List Addr} {H : Hp} {σ : L2.St} {env : En} {st : Sto} (er : EnvR X.K ρ H σ env) (R : Rel (pm X cv) ρ H st) : ∀ {xs : List Hd}, (∀ h ∈ xs, ∃ x, c.xn x = some h.c) →
    GotF (pm X cv) ρ H (handle cn [] env st xs) D W → wAll X.K W D (xs.map (hdI (pm X cv) c.rz)) (cv cn) none σ H := by
  intro xs
  induction xs with
  | nil =>
    intro _ gg
    exact gg ρ H σ none .refl R er rfl
  | cons h xs ih =>
    intro hx gg
    obtain ⟨x, hxn⟩ := hx h List.mem_cons_self
    obtain ⟨C, e1, _⟩ := g.exr cn hc
    rw [handle] at gg
    refine ⟨xsub cn h.c, (g.exm cn hc x h.c hxn).1, fun hb a ha => ?_, fun hb => ?_⟩
    · rw [if_pos hb] at gg
      have hl : ∀ i, h.n = some i → i < σ.length := fun i hi => by
        rw [hi] at gg
        simp only [inR, decide_eq_true_eq] at gg
        split at gg
        · rw [er.len]; assumption
        · exact gg.elim
      have gg : GotF (pm X cv) ρ H ((qSs cn h.b (wipeO env h.n) st).gone h.n) D W := by
        split at gg
        · exact gg
        · exact gg.elim
      refine ⟨cn, C, rfl, hc, e1, rfl, ρ, wipeO env h.n, st, ?_, R, ?_, ?_⟩
      · show EnvR X.K ρ H (intoS σ a h.n) (wipeO env h.n)
        cases h.n with
        | none => exact er
        | some i => exact er.hide i _
      · intro i hi
        have hi' : h.n = some i := hi
        show (intoS σ a h.n)[i]? = _
        rw [hi']
        exact List.getElem?_set_self (hl i hi')
      · show qF (pm X cv) h.n a ρ H (qSs cn h.b (wipeO env h.n) st) (goneD D h.n)
        revert gg
        cases qSs cn h.b (wipeO env h.n) st with
        | nx env2 st2 =>
          intro gg ρ' H' σ' e' R' er' ea'
          have q : ∀ σ'', EnvR X.K ρ' H' σ'' (wipeO env2 h.n) → D.nx σ'' H' := fun σ'' er'' => gg ρ' H' σ'' e' R' er''
          cases hn : h.n with
          | none => rw [hn] at q; exact q σ' er'
          | some i => rw [hn] at q; exact q _ (er'.clr i)
        | rt d st2 =>
          intro gg ρ' H' v e' R' rv
          have q : D.rt v H' := gg ρ' H' v e' R' rv
          cases h.n <;> exact q
        | _ => intro gg; exact gg
    · rw [if_neg (by rw [hb]; exact Bool.false_ne_true)] at gg
      exact ih (fun h hh => hx h (List.mem_cons_of_mem _ hh)) gg
theorem Gd.tr (g : Gd cl cv k X c) (pn : List (Addr × Obj)) (xe : Value → Shared → Prop) : Gd cl cv k (X.tr pn xe) c := ⟨g.N, g.nd, g.sc, g.own, g.calm, g.room, g.fns, g.gs, g.blt, g.exs, g.exr, g.exm⟩
structure Stk (X : Cx) : Prop where
  st : X.stack = X.env :: X.outer
  fr : X.env.frame = some X.env.locals
theorem ps_tryD (g : Gd cl cv k X c) (tk : Takes X W) (sk : Stk X) {b : List Stmt} {h₀ : ExceptHandler} {hs : List ExceptHandler} {x : List S} {xs : List Hd} {n : Nat} {pos : Pos} (hh : cHds n c (h₀ :: hs) = some xs)
    (hb : ∀ (W' : WX) (pn : List (Addr × Obj)) (xe : Value → Shared → Prop), Takes (X.tr pn xe) W' → PassesOwn (model X.prog X.w) X.A X.env xe → PSs (X.tr pn xe) b (lS (pm X cv) W' (execSs cl w x))) :
    PS X (.Try b (h₀ :: hs) [] [] pos) (lS (pm X cv) W (execS cl w (.tri c.rz x xs))) := by
  obtain ⟨h1, h2⟩ := cHds_ok g hh
  refine (ps_tryA sk.st sk.fr g.nd tk hb h1).mono fun D σ H q => ?_
  obtain ⟨ρ, env, st, er, R, gg⟩ := q
  rw [execS] at gg
  refine ⟨ρ, env, st, er, R, ?_⟩
  revert gg
  cases execSs cl w x env st with
  | exc cn fs env1 st1 =>
    intro gg ρ' H' σ' dd e' R' er' xd
    simp only [Fl.catch] at gg
    split at gg
    · rename_i hc
      rw [Bool.and_eq_true, List.isEmpty_iff] at hc
      obtain ⟨c1, rfl⟩ := hc
      have ed : dd = none := by
        cases dd with
        | none => rfl
        | some d =>
          obtain ⟨r, c', z, _⟩ := xd
          cases z
      subst ed
      exact handle_ok g (by simpa using c1) er' R' h2 (GotF.step e' gg)
    · exact gg.elim
  | nx => exact fun gg => gg
  | ct => exact fun gg => gg
  | rt => exact fun gg => gg
  | bad => exact fun gg => gg
end
end Ev

/-! All statements, the defs' table, the law's end. -/
namespace Ev
open PySem PySem.Spec PyProof.Rows L2

section
variable (cl : Calls) (cv : Nat → Value) (k w : Nat)
def OkS (n : Nat) : Prop := ∀ (c : CC) (a : Stmt) (s : S), cS n c a = some s → ∀ (X : Cx) (W : WX), Gd cl cv k X c → Takes X W → PassesOwn (model X.prog X.w) X.A X.env X.xe → Stk X → PS X a (lS (pm X cv) W (execS cl w s))
def OkSs (n : Nat) : Prop := ∀ (c : CC) (as : List Stmt) (ss : List S), cSs n c as = some ss → ∀ (X : Cx) (W : WX), Gd cl cv k X c → Takes X W → PassesOwn (model X.prog X.w) X.A X.env X.xe → Stk X → PSs X as (lS (pm X cv) W (execSs cl w ss))
variable {cl cv k w}
theorem okSs_succ {n : Nat} (hS : OkS cl cv k w n) (hSs : OkSs cl cv k w n) : OkSs cl cv k w (n + 1) := by
  intro c as ss h X W g tk po sk
  cases as with
  | nil =>
    simp only [cSs, Option.some.injEq] at h
    subst h
    exact pss_nilD
  | cons a as =>
    rw [cSs] at h
    split at h
    · rename_i x xs h1 h2
      cases h
      exact pss_consD (hS c a x h1 X W g tk po sk) (hSs c as xs h2 X W g tk po sk)
    · cases h
theorem swapped_not {us : List Expr} {kk : Nat} {tp : Pos} {e : Expr} {env : Env} (h : isTup e = false) : swappedStores [.Tuple us kk tp] e env = pure none := by
  cases e <;> first | rfl | (simp [isTup] at h)
theorem swaps_tup {us : List Expr} {kk l : Nat} {tp : Pos} {e : Expr} {env : Env} : swapsWithSole [.Tuple us kk tp] e l env = pure false := by
  show swapsWith e (some (.Tuple us kk tp)) l env = pure false
  cases e <;> rfl
theorem okS_succ {n : Nat} (hSs : OkSs cl cv k w n) : OkS cl cv k w (n + 1) := by
  intro c a s h X W g tk po sk
  obtain ⟨oE, oEs, oO, oI⟩ := ok_all (cl := cl) (cv := cv) (k := k) n
  cases a with
  | Assign ts e pos =>
    simp only [cS] at h
    split at h
    · rename_i x p
      split at h
      · split at h
        · rename_i hsw
          obtain ⟨i, hi, h⟩ := Option.bind_eq_some_iff.mp h
          obtain ⟨a, ha, rfl⟩ := Option.map_eq_some_iff.mp h
          exact ps_setLcD g tk hi hsw ha
        · cases h
      · rename_i hl
        obtain ⟨i, hi, h⟩ := Option.bind_eq_some_iff.mp h
        obtain ⟨a, ha, rfl⟩ := Option.map_eq_some_iff.mp h
        exact ps_setD g hi (by simpa using hl) (oE c e a ha X W g tk).1
    · rename_i us kk tp
      split at h
      · rename_i vs k2 tp2
        split at h
        · rename_i x px y py a b
          split at h
          · rename_i hc
            simp only [Bool.and_eq_true, decide_eq_true_eq, Bool.not_eq_true'] at hc
            obtain ⟨⟨⟨⟨⟨⟨⟨⟨h1, h2⟩, h3⟩, h4⟩, h5⟩, h6⟩, h7⟩, h8⟩, h9⟩ := hc
            obtain ⟨i, hi, h⟩ := Option.bind_eq_some_iff.mp h
            obtain ⟨j, hj, h⟩ := Option.bind_eq_some_iff.mp h
            obtain ⟨u, hu, h⟩ := Option.bind_eq_some_iff.mp h
            obtain ⟨v, hv, rfl⟩ := Option.map_eq_some_iff.mp h
            exact ps_parD g hi hj h1 h2 h3 h4 h5 h6 h7 h8 h9 (oE c a u hu X W g tk).1 (oE c b v hv X W g tk).1
          · cases h
        · cases h
      · rename_i hne
        obtain ⟨t, ht, h⟩ := Option.bind_eq_some_iff.mp h
        obtain ⟨a, ha, rfl⟩ := Option.map_eq_some_iff.mp h
        have hnt : isTup e = false := by
          cases e <;> first | rfl | exact absurd rfl (hne _ _ _)
        exact ps_asgD g (oE c e a ha X W g tk).1 (cT_ok g n _ t ht) swaps_tup (swapped_not hnt) rfl
    · rename_i o i p
      split at h
      · rename_i hp
        obtain ⟨a, ha, h⟩ := Option.bind_eq_some_iff.mp h
        obtain ⟨b, hb, h⟩ := Option.bind_eq_some_iff.mp h
        obtain ⟨v, hv, rfl⟩ := Option.map_eq_some_iff.mp h
        exact ps_putD g hp (oE c o a ha X W g tk).1 (oE c i b hb X W g tk).1 (oE c e v hv X W g tk).1
      · cases h
    · cases h
  | AugAssign t op e pos =>
    simp only [cS] at h
    split at h
    · obtain ⟨i, hi, h⟩ := Option.bind_eq_some_iff.mp h
      obtain ⟨a, ha, rfl⟩ := Option.map_eq_some_iff.mp h
      exact ps_augD g hi (oE c e a ha X W g tk).1
    · cases h
  | Expr e pos =>
    simp only [cS] at h
    split at h
    · cases h
    · rename_i hl
      obtain ⟨a, ha, rfl⟩ := Option.map_eq_some_iff.mp h
      exact ps_expD (by simpa using hl) (oE c e a ha X W g tk).1
  | If t a b pos =>
    simp only [cS] at h
    obtain ⟨u, hu, h⟩ := Option.bind_eq_some_iff.mp h
    obtain ⟨x, hx, h⟩ := Option.bind_eq_some_iff.mp h
    obtain ⟨y, hy, rfl⟩ := Option.map_eq_some_iff.mp h
    exact ps_iteD (oE c t u hu X W g tk).2 (hSs c a x hx X W g tk po sk) (hSs c b y hy X W g tk po sk)
  | For tg it b e pos =>
    simp only [cS] at h
    split at h
    · rename_i hc
      rw [Bool.and_eq_true, List.isEmpty_iff] at hc
      obtain ⟨t, ht, h⟩ := Option.bind_eq_some_iff.mp h
      obtain ⟨i, hi, h⟩ := Option.bind_eq_some_iff.mp h
      obtain ⟨x, hx, rfl⟩ := Option.map_eq_some_iff.mp h
      rw [hc.1]
      exact ps_foD g po hc.2 (cT_ok g n tg t ht) (oI c tg it i hi X W g tk) (hSs c b x hx X W g tk po sk)
    · cases h
  | While t b e pos =>
    simp only [cS] at h
    split at h
    · rename_i hc
      rw [List.isEmpty_iff] at hc
      obtain ⟨u, hu, h⟩ := Option.bind_eq_some_iff.mp h
      obtain ⟨x, hx, rfl⟩ := Option.map_eq_some_iff.mp h
      rw [hc]
      exact ps_whD po (oE c t u hu X W g tk).2 (hSs c b x hx X W g tk po sk)
    · cases h
  | Return e pos =>
    simp only [cS] at h
    split at h
    · cases h; exact ps_retND
    · obtain ⟨a, ha, rfl⟩ := Option.map_eq_some_iff.mp h
      exact ps_retD (oE c _ a ha X W g tk).1
  | Continue pos =>
    simp only [cS] at h
    cases h
    exact ps_conD
  | Pass pos =>
    simp only [cS] at h
    cases h
    exact ps_pasD
  | Raise e f pos =>
    simp only [cS] at h
    split at h
    · split at h
      · rename_i hg
        obtain ⟨i, hi, h⟩ := Option.bind_eq_some_iff.mp h
        split at h
        · rename_i hr
          cases h
          exact ps_raiD g tk hg hi (by simpa using hr)
        · cases h
      · cases h
    · cases h
  | Try b hs e f pos =>
    simp only [cS] at h
    split at h
    · rename_i hc
      rw [Bool.and_eq_true, Bool.and_eq_true, List.isEmpty_iff, List.isEmpty_iff] at hc
      obtain ⟨⟨rfl, rfl⟩, hn⟩ := hc
      obtain ⟨x, hx, h⟩ := Option.bind_eq_some_iff.mp h
      obtain ⟨ys, hy, rfl⟩ := Option.map_eq_some_iff.mp h
      cases hs with
      | nil => simp at hn
      | cons h₀ hs => exact ps_tryD g tk sk hy fun W' pn xe tk' po' => hSs c b x hx (X.tr pn xe) W' (g.tr pn xe) tk' po' ⟨sk.st, sk.fr⟩
    · cases h
  | _ => simp [cS] at h
theorem ok_stmts : ∀ n, OkS cl cv k w n ∧ OkSs cl cv k w n
  | 0 => by
    refine ⟨fun c a s h => by simp [cS] at h, fun c as ss h X W g tk po sk => ?_⟩
    cases as with
    | nil =>
      simp only [cSs, Option.some.injEq] at h
      subst h
      exact pss_nilD
    | cons a as => simp [cSs] at h
  | n + 1 => by
    obtain ⟨h1, h2⟩ := ok_stmts n
    exact ⟨okS_succ h2, okSs_succ h1 h2⟩
end

/-! ### the defs -/
structure Df where
  nm : Str
  st : Stmt
  N : List Str
  ps : List Str
  F : Fn
  nd : Nat := 0
/-- what the module has besides its defs: numbers, classes of errors (which may be raised) -/
structure Md where
  gs : List (Str × Int)
  xs : List (Str × Bool)
def dsOf (tab : List Df) : List (Str × Nat × Nat) := tab.filterMap fun d => if d.nd = 0 then none else some (d.nm, d.ps.length, d.nd)
def Df.cc (d : Df) (tab : List Df) (M : Md) : CC := ⟨d.N, defScope d.st, fun _ => true, tab.map Df.nm, M.gs, M.xs, dsOf tab⟩
/-- how arguments come to parameters: no default, or one that is None -/
def BdOk (d : Df) : Prop := (d.nd = 0 ∧ ∀ (kV doc pm : Value) (an : Option Addr) (cdv ct : Value) (us : List Value), us.length = d.ps.length → bindArgs (PySem.W.fnOf d.nm d.nm (defArgs d.st) (defBody d.st) (defScope d.st) .none kV doc pm an cdv ct) ⟨us, []⟩ = pure (d.ps.zip us)) ∨
  (d.nd = 1 ∧ 0 < d.ps.length ∧ ∀ (T : Addr) (kV doc pm : Value) (an : Option Addr) (cdv ct : Value) (us : List Value) (it : Value),
    (us.length = d.ps.length → ∃ k, bindArgs (PySem.W.fnOf d.nm d.nm (defArgs d.st) (defBody d.st) (defScope d.st) (.ref T) kV doc pm an cdv ct) ⟨us, []⟩ = seqItems? (.ref T) >>= k ∧ k (some #[it]) = pure (d.ps.zip us)) ∧
    (us.length + 1 = d.ps.length → ∃ k, bindArgs (PySem.W.fnOf d.nm d.nm (defArgs d.st) (defBody d.st) (defScope d.st) (.ref T) kV doc pm an cdv ct) ⟨us, []⟩ = seqItems? (.ref T) >>= k ∧ k (some #[it]) = pure (d.ps.zip (us ++ [it]))))
structure DfOk (tab : List Df) (M : Md) (d : Df) : Prop where
  sc : FnScope d.N d.ps (defScope d.st)
  cc : cSs 64 (d.cc tab M) (defBody d.st) = some d.F.body
  fps : d.F.ps = d.ps.length
  fns : d.F.ns = d.N.length
  bd : BdOk d
  tl : (dsOf tab).lookup d.nm = if d.nd = 0 then none else some (d.ps.length, d.nd)
def Df.dd (d : Df) : He.DefD := ⟨(d.nm, none), d.nm, d.nm, defArgs d.st, defBody d.st, defScope d.st, List.replicate d.nd .non, []⟩
def rzOf (xs : List (Str × Bool)) : List Nat := (List.range xs.length).filter fun i => (xs[i]?.map (·.2)) == some true
def nmOf (xs : List (Str × Bool)) (i : Nat) : Str := (xs[i]?.map (·.1)).getD ""
def faOf (tab : List Df) (M : Md) : List He.Fa := (tab.map fun d => .glo d.nm) ++ (bltNames.map fun x => .free x) ++ (M.gs.map fun q => .int q.1 q.2) ++ (M.xs.map fun q => .glo q.1) ++ ((rzOf M.xs).map fun i => .exc (nmOf M.xs i)) ++
  ((rzOf M.xs).flatMap fun i => (List.range M.xs.length).map fun j => .exm (nmOf M.xs i) (nmOf M.xs j) (xsub i j))
/-- what isinstance finds of an error's class -/
def xcB (K : PySem.W.Frag) (C : Addr) : Bool :=
  decide (PySem.W.findIn K (.ref C) "__getattribute__" = some (some (.builtin "BaseException.__getattribute__"))) && (decide (PySem.W.findIn K (.ref C) "__getattr__" = some none) && (decide (PySem.W.subIn K (.ref C) (.type "BaseException") = some true) &&
  (PySem.W.hasDictIn K C && (decide (PySem.W.findIn K (.ref C) "__class__" = some (some (.builtin "object.__class__"))) && (decide (PySem.W.specialIn K (.builtin "object.__class__") "__get__" = some (some (.builtin "getset_descriptor.__get__"))) &&
  (decide (PySem.W.takesIn K (.builtin "object.__class__") = some true) && (decide (PySem.W.mroIn K C (.type "object") = some true) && decide (PySem.W.kitOne K (.ref C) (.type "ValueError") = some true))))))))
def exB (M : Md) (K : PySem.W.Frag) : Bool := (rzOf M.xs).all fun i => xcB K (He.ga K (nmOf M.xs i)) && (List.range M.xs.length).all fun j => decide (PySem.W.kitOne K (.ref (He.ga K (nmOf M.xs i))) (.ref (He.ga K (nmOf M.xs j))) = some (xsub i j))
/-- the head's facts -/
structure SaysE (tab : List Df) (M : Md) (K : PySem.W.Frag) : Prop where
  d : He.SaysD (faOf tab M) (tab.map Df.dd) K
  e : exB M K = true
abbrev AlE : Type := He.AlD × Bool
def hookE (n : Nat) (tab : List Df) (M : Md) : PySem.W.Hook where
  α := AlE
  obs := fun s => (He.obsDG n (faOf tab M) (tab.map Df.dd) s.heap.get?, exB M (He.frG s.heap.get? (He.asD s.heap.get? n)))
  val := fun _ => (He.valD (tab.map Df.dd), true)
  says := fun _ h => ∃ K : PySem.W.Frag, K.In h ∧ SaysE tab M K
  of := fun _ _ e => ⟨_, He.frG_in, congrArg Prod.fst e, congrArg Prod.snd e⟩
  keeps := fun _ _ _ ⟨K, hK, c⟩ k => ⟨K, PySem.W.Frag.In.keeps hK k, c⟩
def obsE (n : Nat) (tab : List Df) (M : Md) (g : Addr → Option Obj) : AlE := (He.obsDG n (faOf tab M) (tab.map Df.dd) g, exB M (He.frG g (He.asD g n)))
theorem obsE_eq {n : Nat} {tab : List Df} {M : Md} {g : Addr → Option Obj} {s : Shared} (h : ∀ a, g a = s.heap.get? a) : obsE n tab M g = (hookE n tab M).obs s := by
  have e : g = s.heap.get? := funext h
  rw [e] <;> rfl
theorem xcB_ok {K : PySem.W.Frag} {C : Addr} (h : xcB K C = true) : ExcC K C ∧ PySem.W.kitOne K (.ref C) (.type "ValueError") = some true := by
  unfold xcB at h
  simp only [Bool.and_eq_true, decide_eq_true_eq] at h
  obtain ⟨h1, h2, h3, h4, h5, h6, h7, h8, h9⟩ := h
  exact ⟨⟨h1, h2, h3, h4, h5, h6, h7, h8⟩, h9⟩
theorem ixOf_lt : ∀ {N : List Str} {x : Str} {i : Nat}, ixOf N x = some i → i < N.length := fun h => (List.getElem?_eq_some_iff.mp (ixOf_at h)).1
theorem nm_of {xs : List (Str × Bool)} {x : Str} {i : Nat} (h : ixOf (xs.map (·.1)) x = some i) : nmOf xs i = x ∧ i < xs.length := by
  have h1 := ixOf_at h
  have h2 := ixOf_lt h
  rw [List.getElem?_map] at h1
  unfold nmOf
  rw [h1]
  exact ⟨rfl, by simpa using h2⟩
theorem Says.all {fa : List He.Fa} {fn : List He.DefD} {K : PySem.W.Frag} (c : He.SaysD fa fn K) : (∀ f ∈ fa, f.ok K = true) ∧ ∀ d ∈ fn, ∃ fd, FunD K d.name d.qual d.params d.body d.scope (d.dvs K) (d.kws K) (He.fAd K d.at_) fd := by
  refine ⟨fun f hf => ?_, fun d hd => ?_⟩
  · obtain ⟨i, hi, e⟩ := List.mem_iff_getElem.mp hf
    exact c.fact i (by rw [List.getElem?_eq_getElem hi, e])
  · obtain ⟨i, hi, e⟩ := List.mem_iff_getElem.mp hd
    exact c.def_ i (by rw [List.getElem?_eq_getElem hi, e])
theorem enter_ok {K : PySem.W.Frag} {ρ : List Addr} {H : Hp} {N : List Str} {vs : List V} {ds : List D} {F : Fn} (hn : F.ns = N.length) (r : Reps K ρ H vs ds) : EnvR K ρ H (L2.start N vs) (enter F ds) := by
  have hl := r.length
  unfold L2.start enter
  refine ⟨by simp [hl, hn], fun i d hd => ?_⟩
  by_cases hi : i < ds.length
  · rw [List.getElem?_append_left (by simpa using hi), List.getElem?_map] at hd
    cases e : ds[i]? with
    | none => rw [e] at hd; cases hd
    | some d' =>
      rw [e] at hd
      cases hd
      obtain ⟨v, hv, rv⟩ := r.get e
      refine ⟨v, ?_, rv⟩
      rw [List.getElem?_append_left (by simpa [hl] using hi), List.getElem?_map, hv]
      rfl
  · rw [List.getElem?_append_right (by simpa using hi), List.getElem?_replicate] at hd
    split at hd <;> cases hd
theorem GotF.out {p : Pm} {ρ : List Addr} {H : Hp} {r : Fl} {Q : VK} {E : XK} (g : Got p ρ H r.out (fun d _ ρ' H' => ∀ v, Rep p.K ρ' H' v d → Q v H') E) : GotF p ρ H r { nx := fun _ H' => Q .non H', rt := Q } (fun cls d _ H => E cls d H) := by
  cases r with
  | nx env st => exact fun ρ' H' σ' e R _ => g ρ' H' e R .non .non
  | ct env st => exact g.elim
  | rt d st => exact fun ρ' H' v e R r => g ρ' H' e R v r
  | exc c fs env st => exact fun ρ' H' σ' dd e R _ x => g ρ' H' dd e R x
  | bad => exact g.elim
theorem run_at {T : List Fn} {w k i : Nat} {F : Fn} {ds : List D} {st : Sto} (h : T[i]? = some F) : run T w (k + 1) i ds st = if ds.length = F.ps then (execSs (run T w k) w F.body (enter F ds) st).out else .bad := by
  show (match T[i]? with
    | some F => if ds.length = F.ps then (execSs (run T w k) w F.body (enter F ds) st).out else .bad
    | none => .bad) = _
  rw [h]
section
variable {P : Program} {wd : World} {K : PySem.W.Frag} {mg : Str → Option Value} {h : Heap} {tab : List Df} {M : Md} {w : Nat}
/-- the classes by their numbers -/
def cvOf (K : PySem.W.Frag) (M : Md) (i : Nat) : Value := .ref (He.ga K (nmOf M.xs i))
theorem fn_binds {d : Df} {fd : FuncData} (F : FunD K d.nm d.nm (defArgs d.st) (defBody d.st) (defScope d.st) (List.replicate d.nd V.non) [] (He.ga K d.nm) fd) (bd : BdOk d) : ∀ m, m ≤ d.nd → ∃ dv, Vals (List.replicate m V.non) dv ∧ Binds K fd d.ps dv := by
  intro m hm
  rcases bd with ⟨h0, bd⟩ | ⟨h1, hne, bd⟩
  · have e0 : m = 0 := by omega
    subst e0
    rw [h0] at F
    exact ⟨[], .nil, F.bindsN bd⟩
  · rw [h1] at F hm
    have hm2 : m = 0 ∨ m = 1 := by omega
    have hl : (List.replicate 1 V.non).length = 1 := rfl
    rcases hm2 with rfl | rfl
    · obtain ⟨dv, v1, v2⟩ := F.binds1 (ps := d.ps) d.ps.length 1 (by simp) (by simp) (fun T kV doc pm an cdv ct us its hu hi => by
        cases its with
        | nil => cases hi
        | cons it r =>
          cases r with
          | cons => cases hi
          | nil =>
            obtain ⟨k, e1, e2⟩ := (bd T kV doc pm an cdv ct us it).1 hu
            exact ⟨k, e1, by simpa using e2⟩)
      exact ⟨dv, by simpa using v1, v2⟩
    · obtain ⟨dv, v1, v2⟩ := F.binds1 (ps := d.ps) (d.ps.length - 1) 0 (by simp) (by simp; omega) (fun T kV doc pm an cdv ct us its hu hi => by
        cases its with
        | nil => cases hi
        | cons it r =>
          cases r with
          | cons => cases hi
          | nil =>
            obtain ⟨k, e1, e2⟩ := (bd T kV doc pm an cdv ct us it).2 (by omega)
            exact ⟨k, e1, by simpa using e2⟩)
      exact ⟨dv, by simpa using v1, v2⟩
theorem tab_ok (X : K.In h) (G : h.Ns mainGlobals mg) (hok : ∀ d ∈ tab, DfOk tab M d) (c : SaysE tab M K) : ∀ (k i : Nat) (d : Df), tab[i]? = some d → d.nd = 0 →
    ∃ fa fd, mg d.nm = some (.ref fa) ∧ PySem.W.keepIn K (.ref fa) = true ∧ (∀ (s : Shared) (us : List Value), us.length = d.ps.length → BindsTo s fd ⟨us, []⟩ (d.ps.zip us)) ∧ ∀ base : Heap, FnOk P wd K mg base (CX P wd) k fa fd d.ps (spOf ⟨P, wd, K, cvOf K M⟩ (run (tab.map Df.F) w k i)) := by
  obtain ⟨cf, cd⟩ := Says.all c.d
  have hglo : ∀ d ∈ tab, mg d.nm = some (.ref (He.ga K d.nm)) := fun d hd => He.glo_ok X G (cf _ (by unfold faOf; simp only [List.mem_append, List.mem_map]; exact .inl (.inl (.inl (.inl (.inl ⟨d, hd, rfl⟩))))))
  have hfree : ∀ x ∈ bltNames, mg x = none := fun x hx => He.free_ok X G (cf _ (by unfold faOf; simp only [List.mem_append, List.mem_map]; exact .inl (.inl (.inl (.inl (.inr ⟨x, hx, rfl⟩))))))
  have hint : ∀ x i, M.gs.lookup x = some i → ∃ t, mg x = some (.int i t) := fun x i hx => He.int_ok X G (cf _ (by unfold faOf; simp only [List.mem_append, List.mem_map]; exact .inl (.inl (.inl (.inr ⟨(x, i), PySem.mem_of_lookup hx, rfl⟩)))))
  have hxs : ∀ q ∈ M.xs, mg q.1 = some (.ref (He.ga K q.1)) := fun q hq => He.glo_ok X G (cf _ (by unfold faOf; simp only [List.mem_append, List.mem_map]; exact .inl (.inl (.inr ⟨q, hq, rfl⟩))))
  have hexc : ∀ i ∈ rzOf M.xs, (He.Fa.exc (nmOf M.xs i)).ok K = true := fun i hi => cf _ (by unfold faOf; simp only [List.mem_append, List.mem_map]; exact .inl (.inr ⟨i, hi, rfl⟩))
  have hexm : ∀ i ∈ rzOf M.xs, ∀ j, j < M.xs.length → (He.Fa.exm (nmOf M.xs i) (nmOf M.xs j) (xsub i j)).ok K = true := fun i hi j hj => cf _ (by unfold faOf; simp only [List.mem_append, List.mem_map, List.mem_flatMap, List.mem_range]; exact .inr ⟨i, hi, j, hj, rfl⟩)
  have hkit : ∀ i ∈ rzOf M.xs, xcB K (He.ga K (nmOf M.xs i)) = true ∧ ∀ j, j < M.xs.length → PySem.W.kitOne K (.ref (He.ga K (nmOf M.xs i))) (.ref (He.ga K (nmOf M.xs j))) = some (xsub i j) := fun i hi => by
    have q := List.all_eq_true.mp c.e i hi
    rw [Bool.and_eq_true] at q
    exact ⟨q.1, fun j hj => of_decide_eq_true (List.all_eq_true.mp q.2 j (List.mem_range.mpr hj))⟩
  have hfun : ∀ d ∈ tab, ∃ fd, FunD K d.nm d.nm (defArgs d.st) (defBody d.st) (defScope d.st) (List.replicate d.nd V.non) [] (He.ga K d.nm) fd := fun d hd => by
    obtain ⟨fd, F⟩ := cd d.dd (List.mem_map.mpr ⟨d, hd, rfl⟩)
    have e : d.dd.dvs K = List.replicate d.nd V.non := by simp [He.DefD.dvs, Df.dd, He.Dv.v]
    rw [e] at F
    exact ⟨fd, F⟩
  have main : ∀ (base : Heap) (k i : Nat) (d : Df), tab[i]? = some d → ∀ fd, FunD K d.nm d.nm (defArgs d.st) (defBody d.st) (defScope d.st) (List.replicate d.nd V.non) [] (He.ga K d.nm) fd → FnOk P wd K mg base (CX P wd) k (He.ga K d.nm) fd d.ps (spOf ⟨P, wd, K, cvOf K M⟩ (run (tab.map Df.F) w k i)) := by
    intro base k
    induction k with
    | zero =>
      intro i d hd fd F
      exact ⟨fun vs H Q E ⟨_, _, _, _, _, g⟩ => g.elim, fun A outer s H args us vs Q E _ _ _ _ ⟨_, _, _, _, _, g⟩ => g.elim⟩
    | succ k ih =>
      intro i d hd fd F
      have hm := List.mem_of_getElem? hd
      have ho := hok d hm
      have hT : (tab.map Df.F)[i]? = some d.F := by rw [List.getElem?_map, hd]; rfl
      refine F.ok ho.sc (fun vs H Q E q => ?_) (fun cdv A outer s H vs Q E hr q => ?_)
      · obtain ⟨ρ, st, ds, R, r, g⟩ := q
        rw [r.length]
        rw [run_at hT] at g
        split at g
        · rename_i hl
          rw [hl, ho.fps]
        · exact g.elim
      · obtain ⟨ρ, st, ds, R, r, g⟩ := q
        rw [run_at hT] at g
        split at g
        · rename_i hl
          let X : Cx := cxOf (CX P wd) P wd K mg base d.N d.nm (defScope d.st) (He.ga K d.nm) cdv A outer s H E
          have gd : Gd (run (tab.map Df.F) w k) (cvOf K M) k X (d.cc tab M) := {
            N := rfl
            nd := ho.sc.nd
            sc := rfl
            own := fun _ _ => rfl
            calm := rfl
            room := hr
            fns := fun j x hx => by
              have hx' : (tab.map Df.nm)[j]? = some x := hx
              rw [List.getElem?_map] at hx'
              cases e : tab[j]? with
              | none => rw [e] at hx'; cases hx'
              | some d' =>
                rw [e] at hx'
                cases hx'
                have hm' := List.mem_of_getElem? e
                obtain ⟨fd', F'⟩ := hfun d' hm'
                refine ⟨_, fd', d'.ps, hglo d' hm', F'.kp, fun n m hnm => fn_binds F' (hok d' hm').bd m ?_, ih j d' e fd' F'⟩
                have tl := (hok d' hm').tl
                unfold CC.tail at hnm
                have e0 : (d.cc tab M).ds = dsOf tab := rfl
                rw [e0, tl] at hnm
                by_cases z : d'.nd = 0
                · rw [if_pos z] at hnm
                  cases hnm
                  exact Nat.zero_le _
                · rw [if_neg z] at hnm
                  simp only at hnm
                  split at hnm
                  · rename_i hh
                    cases hnm
                    exact hh.2
                  · cases hnm
            gs := hint
            blt := hfree
            exs := fun j x hx => by
              obtain ⟨e1, e2⟩ := nm_of (xs := M.xs) hx
              refine ⟨He.ga K x, by unfold cvOf; rw [e1], ?_⟩
              have q := hxs M.xs[j] (List.getElem_mem e2)
              have e3 : M.xs[j].1 = x := by
                have e4 := e1
                unfold nmOf at e4
                rw [List.getElem?_eq_getElem e2] at e4
                exact e4
              rw [e3] at q
              exact q
            exr := fun j hj => by
              obtain ⟨k1, k2⟩ := xcB_ok (hkit j hj).1
              have q := hexc j hj
              simp only [He.Fa.ok, Bool.and_eq_true, decide_eq_true_eq] at q
              exact ⟨_, rfl, ⟨q.1, q.2.1, q.2.2.1, q.2.2.2, k1, k2⟩⟩
            exm := fun j hj x y hy => by
              obtain ⟨e1, e2⟩ := nm_of (xs := M.xs) hy
              exact ⟨of_decide_eq_true (hexm j hj y e2), (hkit j hj).2 y e2⟩ }
          have tk : Takes X (fun cls d _ H => E cls d H) := takes_of rfl rfl rfl rfl
          have po : PassesOwn (model X.prog X.w) X.A X.env X.xe := passes_of rfl
          refine ⟨_, (ok_stmts (cl := run (tab.map Df.F) w k) (cv := cvOf K M) (k := k) (w := w) 64).2 _ _ _ ho.cc X _ gd tk po ⟨rfl, rfl⟩, ρ, enter d.F ds, st, enter_ok ho.fns r, R, GotF.out g⟩
        · exact g.elim
  intro k i d hd hnd
  have hm := List.mem_of_getElem? hd
  obtain ⟨fd, F⟩ := hfun d hm
  have F0 := F
  rw [hnd] at F0
  refine ⟨_, fd, hglo d hm, F.kp, fun s us hl => ?_, fun base => main base k i d hd fd F⟩
  rcases (hok d hm).bd with ⟨_, bd⟩ | ⟨h1, _⟩
  · exact F0.bindsA bd s us hl
  · rw [hnd] at h1; cases h1
end
/-- the law's promise: whatever the script, the evaluator answers true -/
theorem law_end {K : PySem.W.Frag} {P : Program} {wd : World} {cv : Nat → Value} {m : List D → Sto → Res D} {n : Nat} (hm : ∀ ns : List Int, ns.length ≤ n → ∃ st, m [.scr ns] [] = .ok (.bl true) st) (H : Hp) (a : Addr) (ns : List Int) (hl : ns.length ≤ n) (ho : Only H) (hS : SqL K H a (ns.map V.int)) :
    spOf ⟨P, wd, K, cv⟩ m [.ref a] H (fun v _ => v = .bl true) fun _ _ _ => False := by
  have hs : Scr K H a (ns.map V.int) := by
    rcases hS with (h | ⟨o, h⟩) | h
    · rcases ho a with z | ⟨o, xs, z⟩
      · rw [h] at z; cases z
      · rw [h] at z; cases z
    · exact .inl ⟨o, h⟩
    · exact .inr h
  obtain ⟨st, e⟩ := hm ns hl
  refine ⟨[], [], [.scr ns], ⟨rfl, List.nodup_nil, fun l a o h => by simp at h⟩, .cons (.scr hs) .nil, ?_⟩
  rw [e]
  intro ρ' H' _ _ v rv
  cases rv
  rfl
/-- from the table to the law -/
theorem law_walk {l : PySem.W.OpenLaw} {n k W i : Nat} {q : Program} {loose : List Str} {XP : (Str → Option Value) → Heap → Prop} {YP : World → Heap → Prop} {dr : DefRec} {tab : List Df} {M : Md} {d : Df} {x : Str}
    (hok : ∀ d ∈ tab, DfOk tab M d) (hi : tab[i]? = some d) (hnd : d.nd = 0) (hnm : dr.name = d.nm) (hps : d.ps = [x]) (hpure : ∀ ns : List Int, ns.length ≤ n → ∃ st, run (tab.map Df.F) W k i [.scr ns] [] = .ok (.bl true) st)
    (hY : ∀ w h, YP w h → ∃ K : PySem.W.Frag, K.In h ∧ SaysE tab M K) (hn : l.most = some n) (hn2 : n ≤ sizeLine) (hdf : dr.params.defaults = []) (hr : Room k callerA) :
    PySem.W.WalkO q loose XP YP l.row.toRowW dr [] (fun f vs => PySem.call f vs) := by
  refine Att.attach_call hn hdf fun w s₀ s₁ mg mb fa o pm cd doc a vs ns G Y ho hd hcd hmg hobj hints hlen hg => ?_
  obtain ⟨K, KX, c⟩ := hY w _ Y
  obtain ⟨fa', fd, hm, hk, hb, hF⟩ := tab_ok (P := l.prog) (wd := w) (w := W) KX G.T.g hok c k i d hi hnd
  rw [hnm, hm] at hmg
  cases hmg
  rw [hps] at hF hb
  refine law_call (CX := CX l.prog w) (x := x) KX G.T.g G.T.b G.T.builtins G.T.nolimit hg hobj hints (Nat.le_trans hlen hn2) hr (fun base _ _ => hF base) (fun s u => hb s [u] rfl) (fun H hO hS => law_end hpure H a ns hlen hO hS) fun H e s' z => ?_
  obtain ⟨a, B, H', cls, d, _, _, _, _, _, _, _, z⟩ := z
  exact z
end Ev

/-! Plain laws of the evaluator: loops, the store. -/
namespace Ev

/-! ### the store -/
section
variable {α : Type} (st l : List α) (x : α) (i : Nat)
@[simp] theorem at_end : (st ++ l)[st.length]? = l[0]? := by
  rw [List.getElem?_append_right (Nat.le_refl _), Nat.sub_self]
@[simp] theorem at_endN : (st ++ l)[st.length + i]? = l[i]? := by
  rw [List.getElem?_append_right (by omega)]
  congr 1
  omega
@[simp] theorem set_end : (st ++ l).set st.length x = st ++ l.set 0 x := by
  rw [List.set_append_right _ _ (Nat.le_refl _)]
  simp
@[simp] theorem set_endN : (st ++ l).set (st.length + i) x = st ++ l.set i x := by
  rw [List.set_append_right _ _ (by omega)]
  congr 2
  omega
end

/-! ### loops -/
theorem loopF_ind {bd : Sto → D → En → Option En} {body : En → Sto → Fl} {gd : List (Nat × O)} (Inv : Nat → En → Sto → Prop) {xs : List D}
    (hst : ∀ i env st, i ≤ xs.length → Inv i env st → still gd st = true)
    (hs : ∀ i env st (h : i < xs.length), Inv i env st → ∃ env1, bd st xs[i] env = some env1 ∧ ∃ env2 st2, (body env1 st = .nx env2 st2 ∨ body env1 st = .ct env2 st2) ∧ Inv (i + 1) env2 st2) {env : En} {st : Sto} (h0 : Inv 0 env st) :
    ∃ env' st', loopF bd body gd xs env st = .nx env' st' ∧ Inv xs.length env' st' := by
  have go : ∀ (m i : Nat), i + m = xs.length → ∀ env st, Inv i env st → ∃ env' st', loopF bd body gd (xs.drop i) env st = .nx env' st' ∧ Inv xs.length env' st' := by
    intro m
    induction m with
    | zero =>
      intro i hi env st h
      have e : i = xs.length := by omega
      subst e
      rw [List.drop_length, loopF, if_pos (hst _ env st (Nat.le_refl _) h)]
      exact ⟨env, st, rfl, h⟩
    | succ m ih =>
      intro i hi env st h
      have hlt : i < xs.length := by omega
      obtain ⟨env1, hb, env2, st2, hbody, h2⟩ := hs i env st hlt h
      obtain ⟨env', st', e, hI⟩ := ih (i + 1) (by omega) env2 st2 h2
      refine ⟨env', st', ?_, hI⟩
      rw [List.drop_eq_getElem_cons hlt, loopF, if_pos (hst i env st (Nat.le_of_lt hlt) h), hb]
      rcases hbody with hbody | hbody
      · simp only [hbody]
        exact e
      · simp only [hbody]
        exact e
  have := go xs.length 0 (by omega) env st h0
  simpa using this

/-! ### one step at a time -/
@[simp] theorem line_is : line = 16777216 := (rfl)
section
variable {cl : Calls} {w : Nat} {env : En} {st : Sto}
@[simp] theorem ev_var {i : Nat} : evalE cl (.var i) env st = Res.of (env.val i) st := by rw [evalE]
@[simp] theorem ev_cst {c : D} : evalE cl (.cst c) env st = .ok c st := by rw [evalE]
@[simp] theorem ev_tup {es : List E} : evalE cl (.tup es) env st = (evalEs cl es env st).bind fun ds st => if ds.length ≤ 16777216 then .ok (.tup ds) st else .bad := by rw [evalE]; rfl
@[simp] theorem ev_lst {es : List E} : evalE cl (.lst es) env st = (evalEs cl es env st).bind fun ds st => newL ds st := by rw [evalE]
@[simp] theorem ev_dct0 : evalE cl .dct0 env st = .ok (.ref st.length) (st ++ [.dct []]) := by rw [evalE]; rfl
@[simp] theorem ev_dct1 {k v : E} : evalE cl (.dct1 k v) env st = (evalE cl k env st).bind fun x st => (evalE cl v env st).bind fun y st => if isKey x then new (.dct [(x, y)]) st else .bad := by rw [evalE]
@[simp] theorem ev_bin {op : PySem.Operator} {a b : E} : evalE cl (.bin op a b) env st = (evalE cl a env st).bind fun x st => (evalE cl b env st).bind fun y st => bin op x y st := by rw [evalE]
@[simp] theorem ev_neg {a : E} : evalE cl (.neg a) env st = (evalE cl a env st).bind fun x st => (asI x st).bind fun i st => .ok (.int (-i)) st := by rw [evalE]
@[simp] theorem ev_not {a : E} : evalE cl (.not a) env st = (evalE cl a env st).bind fun x st => (asB x st).bind fun b st => .ok (.bl (!b)) st := by rw [evalE]
@[simp] theorem ev_cmp {op : PySem.CmpOp} {a b : E} : evalE cl (.cmp op a b) env st = (evalE cl a env st).bind fun x st => (evalE cl b env st).bind fun y st => (Res.of (cmp op x y st) st).bind fun b st => .ok (.bl b) st := by rw [evalE]
@[simp] theorem ev_chn {op op' : PySem.CmpOp} {a b c : E} : evalE cl (.chn op op' a b c) env st = (evalE cl a env st).bind fun x st => (evalE cl b env st).bind fun y st => (Res.of (cmp op x y st) st).bind fun k st =>
    if k = true then (evalE cl c env st).bind fun z st => (Res.of (cmp op' y z st) st).bind fun k st => .ok (.bl k) st else .ok (.bl false) st := by rw [evalE]
@[simp] theorem ev_bop {op : PySem.BoolOp} {es : List E} : evalE cl (.bop op es) env st = evalB cl op es env st := by rw [evalE]
@[simp] theorem ev_ite {c a b : E} : evalE cl (.ite c a b) env st = (evalE cl c env st).bind fun x st => (asB x st).bind fun k st => if k = true then evalE cl a env st else evalE cl b env st := by rw [evalE]
@[simp] theorem ev_fn {f : Nat} {es : List E} : evalE cl (.fn f es) env st = (evalEs cl es env st).bind fun ds st => cl f ds st := by rw [evalE]
@[simp] theorem ev_bi {f : Bi} {es : List E} : evalE cl (.bi f es) env st = (evalEs cl es env st).bind fun ds st => bi f ds st := by rw [evalE]
@[simp] theorem ev_mt {m : Mt} {o : E} {es : List E} : evalE cl (.mt m o es) env st = (evalE cl o env st).bind fun x st => (Res.of (kindM m st x) st).bind fun k st => (evalEs cl es env st).bind fun ds st => mt k m x ds st := by rw [evalE]
@[simp] theorem ev_ix {a b : E} : evalE cl (.ix a b) env st = (evalE cl a env st).bind fun x st => (evalE cl b env st).bind fun y st => Res.of (ixD x y st) st := by rw [evalE]
@[simp] theorem ev_sl {a : E} {lo hi : Option E} : evalE cl (.sl a lo hi) env st = (evalE cl a env st).bind fun x st => (evalO cl lo env st).bind fun l st => (evalO cl hi env st).bind fun h st => slD x l h st := by rw [evalE]
@[simp] theorem ev_isi {a : E} {t : Ty} : evalE cl (.isi a t) env st = (evalE cl a env st).bind fun x st => (Res.of (isi st x t) st).bind fun b st => .ok (.bl b) st := by rw [evalE]
@[simp] theorem evs_nil : evalEs cl [] env st = .ok [] st := by rw [evalEs]
@[simp] theorem evs_cons {e : E} {es : List E} : evalEs cl (e :: es) env st = (evalE cl e env st).bind fun x st => (evalEs cl es env st).bind fun xs st => .ok (x :: xs) st := by rw [evalEs]
@[simp] theorem evo_none : evalO cl none env st = .ok none st := by rw [evalO]
@[simp] theorem evo_some {e : E} : evalO cl (some e) env st = (evalE cl e env st).bind fun x st => (asI x st).bind fun i st => .ok (some i) st := by rw [evalO]
@[simp] theorem evb_one {op : PySem.BoolOp} {e : E} : evalB cl op [e] env st = (evalE cl e env st).bind fun x st => (asB x st).bind fun b st => .ok (.bl b) st := by rw [evalB]
@[simp] theorem evb_and {e f : E} {es : List E} : evalB cl .And (e :: f :: es) env st = (evalE cl e env st).bind fun x st => (asB x st).bind fun b st => if b = true then evalB cl .And (f :: es) env st else .ok (.bl false) st := by rw [evalB]
@[simp] theorem evb_or {e f : E} {es : List E} : evalB cl .Or (e :: f :: es) env st = (evalE cl e env st).bind fun x st => (asB x st).bind fun b st => if b = true then .ok (.bl true) st else evalB cl .Or (f :: es) env st := by rw [evalB]
@[simp] theorem evt_nil : evalTs cl [] env st = .ok true st := by rw [evalTs]
@[simp] theorem evt_one {e : E} : evalTs cl [e] env st = (evalE cl e env st).bind fun x st => asB x st := by rw [evalTs]
@[simp] theorem evi_seq {e : E} : evalI cl (.seq e) env st = (evalE cl e env st).bind fun x st => Res.of (walkD st x) st := by rw [evalI]
@[simp] theorem evi_rng1 {e : E} : evalI cl (.rng1 e) env st = (evalE cl e env st).bind fun x st => (asI x st).bind fun i st => Res.of (rangeD 0 i) st := by rw [evalI]
@[simp] theorem evi_rng2 {e f : E} : evalI cl (.rng2 e f) env st = (evalE cl e env st).bind fun x st => (evalE cl f env st).bind fun y st => (asI x st).bind fun i st => (asI y st).bind fun j st => Res.of (rangeD i j) st := by rw [evalI]
@[simp] theorem evi_enm {e : E} : evalI cl (.enm e) env st = (evalE cl e env st).bind fun x st => (Res.of (walkL st x) st).bind fun w st => .ok (enumD w) st := by rw [evalI]
@[simp] theorem evi_zip {e f : E} : evalI cl (.zip e f) env st = (evalE cl e env st).bind fun x st => (evalE cl f env st).bind fun y st => (Res.of (walkL st x) st).bind fun w st => (Res.of (walkL st y) st).bind fun w' st => .ok (zipD w w') st := by rw [evalI]
@[simp] theorem ex_asg {t : Tg} {e : E} : execS cl w (.asg t e) env st = (evalE cl e env st).fl env fun x st => match bindT st t x env with
    | some env' => .nx env' st
    | none => .bad := by rw [execS] <;> rfl
@[simp] theorem ex_par {i j : Nat} {a b : E} : execS cl w (.par i j a b) env st = (evalE cl a env st).fl env fun x st => (evalE cl b env st).fl env fun y st => .nx ((env.set i (some x)).set j (some y)) st := by rw [execS]
@[simp] theorem ex_put {o i e : E} : execS cl w (.put o i e) env st = (evalE cl e env st).fl env fun v st => (evalE cl o env st).fl env fun x st => (evalE cl i env st).fl env fun y st => match putD x y v st with
    | some st' => .nx env st'
    | none => .bad := by rw [execS] <;> rfl
@[simp] theorem ex_aug {i : Nat} {e : E} : execS cl w (.aug i .Add e) env st = (Res.of (env.val i) st).fl env fun x st => (evalE cl e env st).fl env fun y st => match ints2 x y with
    | some (a, b) => .nx (env.set i (some (.int (a + b)))) st
    | none => .bad := by
  rw [execS]
  congr 1
  funext x st
  congr 1
  funext y st
  cases x <;> cases y <;> rfl
@[simp] theorem ex_exp {e : E} : execS cl w (.exp e) env st = (evalE cl e env st).fl env fun _ st => .nx env st := by rw [execS]
@[simp] theorem ex_ite {c : E} {a b : List S} : execS cl w (.ite c a b) env st = ((evalE cl c env st).bind asB).fl env fun k st => if k = true then execSs cl w a env st else execSs cl w b env st := by rw [execS]
@[simp] theorem ex_fo {t : Tg} {it : I} {b : List S} : execS cl w (.fo t it b) env st = (evalI cl it env st).fl env fun its st => loopF (fun st => bindT st t) (fun env st => execSs cl w b env st) its.gd its.xs env st := by rw [execS]
@[simp] theorem ex_ret {e : E} : execS cl w (.ret e) env st = (evalE cl e env st).fl env fun x st => .rt x st := by rw [execS]
@[simp] theorem ex_retN : execS cl w .retN env st = .rt .non st := by rw [execS]
@[simp] theorem ex_con : execS cl w .con env st = .ct env st := by rw [execS]
@[simp] theorem ex_pas : execS cl w .pas env st = .nx env st := by rw [execS]
end
@[simp] theorem execSs_cons (cl : Calls) (w : Nat) (s : S) (ss : List S) (env : En) (st : Sto) : execSs cl w (s :: ss) env st = (execS cl w s env st).andThen (execSs cl w ss) := by
  rw [execSs]; rfl
@[simp] theorem execSs_nil (cl : Calls) (w : Nat) (env : En) (st : Sto) : execSs cl w [] env st = .nx env st := by rw [execSs]
section
variable {env : En} {st : Sto} {d : D} {ds : List D} {k : En → Sto → Fl}
@[simp] theorem then_nx : (Fl.nx env st).andThen k = k env st := (rfl)
@[simp] theorem then_ct : (Fl.ct env st).andThen k = .ct env st := (rfl)
@[simp] theorem then_rt : (Fl.rt d st).andThen k = .rt d st := (rfl)
@[simp] theorem then_exc {c : Nat} {fs : List D} : (Fl.exc c fs env st).andThen k = .exc c fs env st := (rfl)
@[simp] theorem then_bad : (Fl.bad).andThen k = .bad := (rfl)
@[simp] theorem turn_nx : (Fl.nx env st).turn k = k env st := (rfl)
@[simp] theorem turn_ct : (Fl.ct env st).turn k = k env st := (rfl)
@[simp] theorem turn_rt : (Fl.rt d st).turn k = .rt d st := (rfl)
@[simp] theorem turn_exc {c : Nat} {fs : List D} : (Fl.exc c fs env st).turn k = .exc c fs env st := (rfl)
@[simp] theorem turn_bad : (Fl.bad).turn k = .bad := (rfl)
theorem loopF_nil {bd : Sto → D → En → Option En} {body : En → Sto → Fl} {gd : List (Nat × O)} : loopF bd body gd [] env st = if still gd st then .nx env st else .bad := by rw [loopF]
@[simp] theorem out_nx : (Fl.nx env st).out = .ok .non st := (rfl)
@[simp] theorem out_rt : (Fl.rt d st).out = .ok d st := (rfl)
@[simp] theorem out_exc {c : Nat} {fs : List D} : (Fl.exc c fs env st).out = .exc c fs st := (rfl)
@[simp] theorem val_zero {x : Option D} : En.val (x :: env) 0 = x := by simp [En.val]
@[simp] theorem val_succ {x : Option D} {i : Nat} : En.val (x :: env) (i + 1) = En.val env i := by simp [En.val]
@[simp] theorem asB_bl {b : Bool} : asB (.bl b) st = .ok b st := (rfl)
@[simp] theorem asI_int {i : Int} : asI (.int i) st = .ok i st := (rfl)
@[simp] theorem seq_tup : seqOf st (.tup ds) = some ds := (rfl)
@[simp] theorem seq_scr {ns : List Int} : seqOf st (.scr ns) = some (ns.map .int) := (rfl)
@[simp] theorem lis_scr {ns : List Int} : lisOf st (.scr ns) = some (ns.map .int) := (rfl)
theorem seq_ref {l : Nat} (h : st[l]? = some (.lst ds)) : seqOf st (.ref l) = some ds := by simp [seqOf, h]
theorem lis_ref {l : Nat} (h : st[l]? = some (.lst ds)) : lisOf st (.ref l) = some ds := by simp [lisOf, seqOf, h]
@[simp] theorem dct_tup : dctOf st (.tup ds) = none := (rfl)
@[simp] theorem dct_scr {ns : List Int} : dctOf st (.scr ns) = none := (rfl)
@[simp] theorem dct_int {i : Int} : dctOf st (.int i) = none := (rfl)
@[simp] theorem dct_str {x : PySem.Str} : dctOf st (.str x) = none := (rfl)
theorem dct_lst {l : Nat} (h : st[l]? = some (.lst ds)) : dctOf st (.ref l) = none := by simp [dctOf, h]
theorem dct_ref {l : Nat} {kvs : List (D × D)} (h : st[l]? = some (.dct kvs)) : dctOf st (.ref l) = some kvs := by simp [dctOf, h]
@[simp] theorem bin_int {op : PySem.Operator} {i j : Int} : bin op (.int i) (.int j) st = binI op i j st := (rfl)
@[simp] theorem binI_add {i j : Int} : binI .Add i j st = .ok (.int (i + j)) st := (rfl)
@[simp] theorem binI_sub {i j : Int} : binI .Sub i j st = .ok (.int (i - j)) st := (rfl)
@[simp] theorem binI_and {i j : Int} : binI .BitAnd i j st = .ok (.int (PySem.Builtin.bitAnd i j)) st := (rfl)
@[simp] theorem binI_or {i j : Int} : binI .BitOr i j st = .ok (.int (PySem.Builtin.bitOr i j)) st := (rfl)
@[simp] theorem binI_xor {i j : Int} : binI .BitXor i j st = .ok (.int (PySem.Builtin.bitXor i j)) st := (rfl)
theorem binI_mod {i j : Int} (h : 0 < j) : binI .Mod i j st = .ok (.int (i % j)) st := by simp [binI, h]
theorem divOk_of {j : Int} (h : 0 < j) (h2 : j < 2 ^ 250) : divOk j = true := by
  unfold divOk
  rw [decide_eq_true_eq]
  refine ⟨h, ?_⟩
  have hp : j.natAbs < 2 ^ 250 := by omega
  exact Nat.lt_of_lt_of_le ((Nat.log2_lt (by omega)).mpr hp) (by decide)
theorem binI_div {i j : Int} (h : 0 < j) (h2 : j < 2 ^ 250) : binI .FloorDiv i j st = .ok (.int (i / j)) st := by simp [binI, divOk_of h h2]
theorem binI_mul {i j : Int} (h : mulOk i j = true) : binI .Mult i j st = .ok (.int (i * j)) st := by simp [binI, h]
theorem binI_pow {i j : Int} (h : powOk i j = true) : binI .Pow i j st = .ok (.int (i ^ j.toNat)) st := by simp [binI, h]
theorem binI_shl {i j : Int} (h : powOk i j = true) : binI .LShift i j st = .ok (.int (i * 2 ^ j.toNat)) st := by simp [binI, h]
theorem binI_shr {i j : Int} (h : 0 ≤ j) : binI .RShift i j st = .ok (.int (i / 2 ^ j.toNat)) st := by simp [binI, h]
theorem bin_lists {x y : D} {xs ys : List D} (h1 : lisOf st x = some xs) (h2 : lisOf st y = some ys) : bin .Add x y st = newL (xs ++ ys) st := by
  unfold bin
  have e : ints2 x y = none := by
    cases x <;> first | rfl | (simp [lisOf, seqOf] at h1)
  rw [e]
  simp only [h1, h2]
theorem newL_ok {xs : List D} (h : xs.length ≤ 16777216) : newL xs st = .ok (.ref st.length) (st ++ [.lst xs]) := by simp [newL, new, h]
@[simp] theorem new_ok {o : O} : new o st = .ok (.ref st.length) (st ++ [o]) := (rfl)
@[simp] theorem eq_int {i j : Int} : cmp .Eq (.int i) (.int j) st = some (decide (i = j)) := by
  simp [cmp, eqD, toP, deep, PySem.PyData.eqv]
  rfl
@[simp] theorem ne_int {i j : Int} : cmp .NotEq (.int i) (.int j) st = some (!decide (i = j)) := by
  simp [cmp, eqD, toP, deep, PySem.PyData.eqv]
  rfl
@[simp] theorem eq_bl {i j : Bool} : cmp .Eq (.bl i) (.bl j) st = some (decide (i = j)) := by cases i <;> cases j <;> simp [cmp, eqD, toP, deep, PySem.PyData.eqv]
@[simp] theorem ne_bl {i j : Bool} : cmp .NotEq (.bl i) (.bl j) st = some (!decide (i = j)) := by cases i <;> cases j <;> simp [cmp, eqD, toP, deep, PySem.PyData.eqv]
@[simp] theorem lt_int {i j : Int} : cmp .Lt (.int i) (.int j) st = some (decide (i < j)) := by
  simp [cmp, ltD, toP, PySem.W.alike, PySem.W.dataLt_int]
@[simp] theorem lt_pair {a b c e : Int} : cmp .Lt (.tup [.int a, .int b]) (.tup [.int c, .int e]) st = some (decide (a < c ∨ (a = c ∧ b < e))) := by
  simp [cmp, ltD, toP, toPs, deep, PySem.W.alike, PySem.W.alikeAll, PySem.W.dataLt_ii]
@[simp] theorem eq_pair {a b c e : Int} : cmp .Eq (.tup [.int a, .int b]) (.tup [.int c, .int e]) st = some (decide (a = c ∧ b = e)) := by
  simp [cmp, eqD, toP, toPs, deep, PySem.PyData.eqv, PySem.PyData.eqvAll]
  by_cases h : a = c <;> by_cases h' : b = e <;> simp [h, h']
@[simp] theorem ne_pair {a b c e : Int} : cmp .NotEq (.tup [.int a, .int b]) (.tup [.int c, .int e]) st = some (!decide (a = c ∧ b = e)) := by
  simp [cmp, eqD, toP, toPs, deep, PySem.PyData.eqv, PySem.PyData.eqvAll]
  by_cases h : a = c <;> by_cases h' : b = e <;> simp [h, h']
@[simp] theorem le_int {i j : Int} : cmp .LtE (.int i) (.int j) st = some (decide (i ≤ j)) := (rfl)
@[simp] theorem gt_int {i j : Int} : cmp .Gt (.int i) (.int j) st = some (decide (j < i)) := (rfl)
@[simp] theorem ge_int {i j : Int} : cmp .GtE (.int i) (.int j) st = some (decide (j ≤ i)) := (rfl)
@[simp] theorem is_non {x : D} : cmp .Is x .non st = some (decide (x = .non)) := (rfl)
@[simp] theorem isnot_non {x : D} : cmp .IsNot x .non st = some (!decide (x = .non)) := (rfl)
@[simp] theorem isi_non {t : Ty} : isi st .non t = some false := (rfl)
@[simp] theorem isi_bl {b : Bool} {t : Ty} : isi st (.bl b) t = some (decide (t = .bool) || decide (t = .int)) := by cases t <;> rfl
@[simp] theorem isi_int {i : Int} {t : Ty} : isi st (.int i) t = some (decide (t = .int)) := by cases t <;> rfl
@[simp] theorem isi_str {x : PySem.Str} {t : Ty} : isi st (.str x) t = some (decide (t = .str)) := by cases t <;> rfl
@[simp] theorem isi_tup {t : Ty} : isi st (.tup ds) t = some (decide (t = .tuple)) := by cases t <;> rfl
@[simp] theorem isi_scr {ns : List Int} {t : Ty} : isi st (.scr ns) t = some (decide (t = .list)) := by cases t <;> rfl
theorem isi_ref {l : Nat} {t : Ty} (h : st[l]? = some (.lst ds)) : isi st (.ref l) t = some (decide (t = .list)) := by cases t <;> simp [isi, tyOf, h]
@[simp] theorem len_tup : bi .len [.tup ds] st = .ok (.int ds.length) st := (rfl)
@[simp] theorem len_scr {ns : List Int} : bi .len [.scr ns] st = .ok (.int ns.length) st := by simp [bi]
theorem len_ref {l : Nat} (h : st[l]? = some (.lst ds)) : bi .len [.ref l] st = .ok (.int ds.length) st := by simp [bi, dct_lst h, seq_ref h]
theorem len_dct {l : Nat} {kvs : List (D × D)} (h : st[l]? = some (.dct kvs)) : bi .len [.ref l] st = .ok (.int kvs.length) st := by simp [bi, dct_ref h]
@[simp] theorem abs_int {i : Int} : bi .abs [.int i] st = .ok (.int (if i < 0 then -i else i)) st := (rfl)
@[simp] theorem int_int {i : Int} : bi .int [.int i] st = .ok (.int i) st := (rfl)
theorem list_seq {x : D} (h : seqOf st x = some ds) : bi .list [x] st = newL ds st := by simp [bi, h]
theorem tuple_seq {x : D} (h : seqOf st x = some ds) : bi .tuple [x] st = .ok (.tup ds) st := by simp [bi, h]
@[simp] theorem ix_tup {i : Int} : ixD (.tup ds) (.int i) st = item ds i := by simp [ixD]
@[simp] theorem ix_scr {ns : List Int} {i : Int} : ixD (.scr ns) (.int i) st = item (ns.map .int) i := by simp [ixD]
theorem ix_ref {l : Nat} {i : Int} (h : st[l]? = some (.lst ds)) : ixD (.ref l) (.int i) st = item ds i := by simp [ixD, dct_lst h, seq_ref h]
theorem ix_seq {x y : D} {i : Int} (h : seqOf st x = some ds) (hi : item ds i = some y) : ixD x (.int i) st = some y := by
  cases x with
  | tup es =>
    simp only [seqOf, Option.some.injEq] at h
    subst h
    rw [ix_tup]
    exact hi
  | scr ns =>
    simp only [seqOf, Option.some.injEq] at h
    subst h
    rw [ix_scr]
    exact hi
  | ref l =>
    cases q : st[l]? with
    | none => simp [seqOf, q] at h
    | some o =>
      cases o with
      | dct kvs => simp [seqOf, q] at h
      | lst es =>
        simp only [seqOf, q, Option.some.injEq] at h
        subst h
        rw [ix_ref q]
        exact hi
  | _ => simp [seqOf] at h
theorem item_nat {i : Nat} : item ds (i : Nat) = ds[i]? := by
  unfold item place
  by_cases h : i < ds.length
  · rw [if_pos (Int.natCast_nonneg i), if_pos (by exact_mod_cast h)]
    simp
  · rw [if_pos (Int.natCast_nonneg i), if_neg (by exact_mod_cast h)]
    rw [List.getElem?_eq_none (by omega)]
    rfl

@[simp] theorem item_zero : item ds 0 = ds[0]? := item_nat (i := 0)
@[simp] theorem item_one : item ds 1 = ds[1]? := item_nat (i := 1)
@[simp] theorem item_ge {i : Int} (h : 0 ≤ i) : item ds i = ds[i.toNat]? := by
  have e : i = ((i.toNat : Nat) : Int) := by omega
  rw [e, item_nat]
  rfl
@[simp] theorem bind_nm {i : Nat} : bindT st (.nm i) d env = some (env.set i (some d)) := by rw [bindT]
theorem bind_tp {ts : List Tg} (h : seqOf st d = some ds) (hl : ds.length = ts.length) : bindT st (.tp ts) d env = bindTs st ts ds env := by rw [bindT]; simp [h, hl]
@[simp] theorem bind_tup {ts : List Tg} (hl : ds.length = ts.length) : bindT st (.tp ts) (.tup ds) env = bindTs st ts ds env := bind_tp rfl hl
@[simp] theorem binds_nil : bindTs st [] ds env = some env := by rw [bindTs]
@[simp] theorem binds_cons {t : Tg} {ts : List Tg} : bindTs st (t :: ts) (d :: ds) env = (bindT st t d env).bind (bindTs st ts ds) := by rw [bindTs]
theorem rng_ok {lo hi : Int} : rangeD lo hi = if -lineR ≤ lo ∧ lo < lineR ∧ -lineR ≤ hi ∧ hi < lineR then some ⟨(List.range (hi - lo).toNat).map fun k => .int (lo + (k : Nat)), []⟩ else none := (rfl)
theorem rng_nat {n : Nat} (h : n ≤ 16777216) : rangeD 0 (n : Int) = some ⟨(List.range n).map fun k => .int (k : Nat), []⟩ := by
  rw [rng_ok, if_pos (by unfold lineR; omega)]
  simp
@[simp] theorem rng_lit {i : Int} (h : 0 ≤ i) (h2 : i ≤ 16777216) : rangeD 0 i = some ⟨(List.range i.toNat).map fun k => .int (k : Nat), []⟩ := by
  have e : i = ((i.toNat : Nat) : Int) := by omega
  rw [e, rng_nat (by omega)]
  rfl
@[simp] theorem eq_rf {l m : Nat} : cmp .Eq (.ref l) (.ref m) st = eqD st (.ref l) (.ref m) := (rfl)
@[simp] theorem ne_rf {l m : Nat} : cmp .NotEq (.ref l) (.ref m) st = (eqD st (.ref l) (.ref m)).map (!·) := (rfl)
@[simp] theorem enter_eq {F : Fn} : enter F ds = ds.map some ++ List.replicate (F.ns - ds.length) none := (rfl)
theorem mt_app {l : Nat} (h : st[l]? = some (.lst ds)) (hl : ds.length < 16777216) : mt .l .append (.ref l) [d] st = .ok .non (st.set l (.lst (ds ++ [d]))) := by simp [mt, h, mtL, hl]
theorem kind_l {m : Mt} {l : Nat} (h : st[l]? = some (.lst ds)) (hm : mtOk .l m = true) : kindM m st (.ref l) = some .l := by simp [kindM, kindD, h, hm]
theorem kind_d {m : Mt} {l : Nat} {kvs : List (D × D)} (h : st[l]? = some (.dct kvs)) (hm : mtOk .d m = true) : kindM m st (.ref l) = some .d := by simp [kindM, kindD, h, hm]
theorem mt_clear {l : Nat} (h : st[l]? = some (.lst ds)) : mt .l .clear (.ref l) [] st = .ok .non (st.set l (.lst [])) := by simp [mt, h, mtL]
@[simp] theorem still_nil : still [] st = true := (rfl)
@[simp] theorem walk_tup : walkD st (.tup ds) = some ⟨ds, []⟩ := (rfl)
@[simp] theorem walk_scr {ns : List Int} : walkD st (.scr ns) = some ⟨ns.map .int, []⟩ := (rfl)
theorem walk_ref {l : Nat} (h : st[l]? = some (.lst ds)) : walkD st (.ref l) = some ⟨ds, [(l, .lst ds)]⟩ := by simp [walkD, h]
theorem still_ref {l : Nat} {o : O} (h : st[l]? = some o) : still [(l, o)] st = true := by simp [still, h]
end
/-! ### statements that loop -/
section
variable {cl : Calls} {w : Nat}
theorem fo_ind {t : Tg} {it : I} {b : List S} {env : En} {st : Sto} {its : Its} {st1 : Sto} (hI : evalI cl it env st = .ok its st1) (Inv : Nat → En → Sto → Prop) (h0 : Inv 0 env st1) (hst : ∀ i env st, i ≤ its.xs.length → Inv i env st → still its.gd st = true)
    (hs : ∀ i env st (h : i < its.xs.length), Inv i env st → ∃ env1, bindT st t its.xs[i] env = some env1 ∧ ∃ env2 st2, (execSs cl w b env1 st = .nx env2 st2 ∨ execSs cl w b env1 st = .ct env2 st2) ∧ Inv (i + 1) env2 st2) :
    ∃ env' st', execS cl w (.fo t it b) env st = .nx env' st' ∧ Inv its.xs.length env' st' := by
  rw [execS, hI, Res.fl_ok]
  exact loopF_ind Inv hst hs h0
theorem fo_eq {t : Tg} {it : I} {b : List S} {env : En} {st : Sto} {r : Fl} (hr : execS cl w (.fo t it b) env st = r) {its : Its} {st1 : Sto} (Inv : Nat → En → Sto → Prop) (hI : evalI cl it env st = .ok its st1) (h0 : Inv 0 env st1) (hst : ∀ i env st, i ≤ its.xs.length → Inv i env st → still its.gd st = true)
    (hs : ∀ i env st (h : i < its.xs.length), Inv i env st → ∃ env1, bindT st t its.xs[i] env = some env1 ∧ ∃ env2 st2, (execSs cl w b env1 st = .nx env2 st2 ∨ execSs cl w b env1 st = .ct env2 st2) ∧ Inv (i + 1) env2 st2) :
    ∃ env' st', r = .nx env' st' ∧ Inv its.xs.length env' st' :=
  let ⟨env', st', e, h⟩ := fo_ind hI Inv h0 hst hs
  ⟨env', st', hr.symm.trans e, h⟩
/-- the same, where the body may return -/
theorem loopF_any {bd : Sto → D → En → Option En} {body : En → Sto → Fl} {gd : List (Nat × O)} (Inv : Nat → En → Sto → Prop) (Post : Fl → Prop) {xs : List D}
    (hst : ∀ i env st, i ≤ xs.length → Inv i env st → still gd st = true) (hend : ∀ env st, Inv xs.length env st → Post (.nx env st))
    (hs : ∀ i env st (h : i < xs.length), Inv i env st → ∃ env1, bd st xs[i] env = some env1 ∧ ((∃ env2 st2, (body env1 st = .nx env2 st2 ∨ body env1 st = .ct env2 st2) ∧ Inv (i + 1) env2 st2) ∨ (Post (body env1 st) ∧ ((∃ d st2, body env1 st = .rt d st2) ∨ ∃ c fs e st2, body env1 st = .exc c fs e st2)))) {env : En} {st : Sto} (h0 : Inv 0 env st) :
    Post (loopF bd body gd xs env st) := by
  have go : ∀ (m i : Nat), i + m = xs.length → ∀ env st, Inv i env st → Post (loopF bd body gd (xs.drop i) env st) := by
    intro m
    induction m with
    | zero =>
      intro i hi env st h
      have e : i = xs.length := by omega
      subst e
      rw [List.drop_length, loopF, if_pos (hst _ env st (Nat.le_refl _) h)]
      exact hend env st h
    | succ m ih =>
      intro i hi env st h
      have hlt : i < xs.length := by omega
      obtain ⟨env1, hb, hc⟩ := hs i env st hlt h
      rw [List.drop_eq_getElem_cons hlt, loopF_cons, if_pos (hst i env st (Nat.le_of_lt hlt) h), hb]
      simp only
      rcases hc with ⟨env2, st2, hbody, h2⟩ | ⟨hp, ⟨d, st2, hr⟩ | ⟨c, fs, e, st2, hr⟩⟩
      · rcases hbody with hbody | hbody
        · rw [hbody]
          exact ih (i + 1) (by omega) env2 st2 h2
        · rw [hbody]
          exact ih (i + 1) (by omega) env2 st2 h2
      · rw [hr] at hp ⊢
        exact hp
      · rw [hr] at hp ⊢
        exact hp
  have := go xs.length 0 (by omega) env st h0
  simpa using this
theorem fo_any {t : Tg} {it : I} {b : List S} {env : En} {st : Sto} {its : Its} {st1 : Sto} (hI : evalI cl it env st = .ok its st1) (Inv : Nat → En → Sto → Prop) (Post : Fl → Prop) (h0 : Inv 0 env st1) (hst : ∀ i env st, i ≤ its.xs.length → Inv i env st → still its.gd st = true) (hend : ∀ env st, Inv its.xs.length env st → Post (.nx env st))
    (hs : ∀ i env st (h : i < its.xs.length), Inv i env st → ∃ env1, bindT st t its.xs[i] env = some env1 ∧ ((∃ env2 st2, (execSs cl w b env1 st = .nx env2 st2 ∨ execSs cl w b env1 st = .ct env2 st2) ∧ Inv (i + 1) env2 st2) ∨ (Post (execSs cl w b env1 st) ∧ ((∃ d st2, execSs cl w b env1 st = .rt d st2) ∨ ∃ c fs e st2, execSs cl w b env1 st = .exc c fs e st2)))) :
    Post (execS cl w (.fo t it b) env st) := by
  rw [execS, hI, Res.fl_ok]
  exact loopF_any Inv Post hst hend hs h0
/-- a while: the measure is below the fuel -/
theorem loopW_ind {test : En → Sto → Res Bool} {body : En → Sto → Fl} (Inv : Nat → En → Sto → Prop) (Post : Fl → Prop)
    (hs : ∀ m env st, Inv m env st → (∃ st1, test env st = .ok false st1 ∧ Post (.nx env st1)) ∨ (∃ st1, test env st = .ok true st1 ∧ ((∃ env2 st2 m', (body env st1 = .nx env2 st2 ∨ body env st1 = .ct env2 st2) ∧ m' < m ∧ Inv m' env2 st2) ∨ (Post (body env st1) ∧ ((∃ d st2, body env st1 = .rt d st2) ∨ ∃ c fs e st2, body env st1 = .exc c fs e st2))))) :
    ∀ (n m : Nat) (env : En) (st : Sto), m < n → Inv m env st → Post (loopW test body n env st) := by
  intro n
  induction n with
  | zero => intro m env st h; omega
  | succ n ih =>
    intro m env st hm h
    rw [loopW_succ]
    rcases hs m env st h with ⟨st1, e, hp⟩ | ⟨st1, e, hc⟩
    · rw [e]
      exact hp
    · rw [e]
      simp only [Res.fl_ok, if_true]
      rcases hc with ⟨env2, st2, m', hbody, hlt, h2⟩ | ⟨hp, ⟨d, st2, hr⟩ | ⟨c, fs, ee, st2, hr⟩⟩
      · rcases hbody with hbody | hbody
        · rw [hbody]
          exact ih m' env2 st2 (by omega) h2
        · rw [hbody]
          exact ih m' env2 st2 (by omega) h2
      · rw [hr] at hp ⊢
        exact hp
      · rw [hr] at hp ⊢
        exact hp
theorem wh_ind {c : E} {b : List S} {env : En} {st : Sto} (Inv : Nat → En → Sto → Prop) (Post : Fl → Prop) (m : Nat) (hm : m < w) (h0 : Inv m env st)
    (hs : ∀ m env st, Inv m env st → (∃ st1, (evalE cl c env st).bind asB = .ok false st1 ∧ Post (.nx env st1)) ∨ (∃ st1, (evalE cl c env st).bind asB = .ok true st1 ∧ ((∃ env2 st2 m', (execSs cl w b env st1 = .nx env2 st2 ∨ execSs cl w b env st1 = .ct env2 st2) ∧ m' < m ∧ Inv m' env2 st2) ∨ (Post (execSs cl w b env st1) ∧ ((∃ d st2, execSs cl w b env st1 = .rt d st2) ∨ ∃ c fs e st2, execSs cl w b env st1 = .exc c fs e st2))))) :
    Post (execS cl w (.wh c b) env st) := by
  rw [execS]
  exact loopW_ind Inv Post hs w m env st hm h0
/-- a comprehension that leaves the store as it is -/
theorem loopC_pure {bd : Sto → D → En → Option En} {test : En → Sto → Res Bool} {elt : En → Sto → Res D} {gd : List (Nat × O)} {env : En} {st : Sto} (p : D → Bool) (f : D → D) (hg : still gd st = true) : ∀ (xs : List D), (∀ d ∈ xs, ∃ e, bd st d env = some e ∧ test e st = .ok (p d) st ∧ (p d = true → elt e st = .ok (f d) st)) →
    loopC bd test elt gd env xs st = .ok ((xs.filter p).map f) st
  | [], _ => by rw [loopC, if_pos hg]; rfl
  | d :: ds, h => by
    obtain ⟨e, h1, h2, h3⟩ := h d List.mem_cons_self
    have ih := loopC_pure p f hg ds fun x hx => h x (List.mem_cons_of_mem _ hx)
    rw [loopC, if_pos hg, h1]
    simp only [h2, Res.bind_ok]
    cases hp : p d with
    | true => simp [h3 hp, ih, hp]
    | false => simp [ih, hp]
theorem lc_pure {own : List Nat} {tg : Tg} {it : I} {ifs : List E} {e : E} {env : En} {st st1 : Sto} {its : Its} (hI : evalI cl it env st = .ok its st1) (p : D → Bool) (f : D → D) (hg : still its.gd st1 = true)
    (h : ∀ d ∈ its.xs, ∃ e1, bindT st1 tg d (wipe env own) = some e1 ∧ evalTs cl ifs e1 st1 = .ok (p d) st1 ∧ (p d = true → evalE cl e e1 st1 = .ok (f d) st1)) :
    evalE cl (.lc own tg it ifs e) env st = newL ((its.xs.filter p).map f) st1 := by
  rw [evalE, hI]
  simp only
  rw [loopC_pure p f hg its.xs h]
end
/-! ### by what stands at a place of the store -/
section
variable {st : Sto} {l m : Nat} {d : D}
@[simp] theorem seq_rf : seqOf st (.ref l) = lstAt st l := (rfl)
@[simp] theorem lis_rf : lisOf st (.ref l) = lstAt st l := (rfl)
@[simp] theorem dct_rf : dctOf st (.ref l) = match st[l]? with
    | some (.dct kvs) => some kvs
    | _ => none := (rfl)
@[simp] theorem lstAt_is : lstAt st l = match st[l]? with
    | some (.lst ds) => some ds
    | _ => none := (rfl)
@[simp] theorem ints2_is {i j : Int} : ints2 (.int i) (.int j) = some (i, j) := (rfl)
@[simp] theorem isi_rf {t : Ty} : isi st (.ref l) t = match st[l]? with
    | some (.lst _) => some (decide (t = .list))
    | _ => none := by
  cases h : st[l]? with
  | none => simp [isi, tyOf, h]
  | some o => cases o <;> cases t <;> simp [isi, tyOf, h]
@[simp] theorem len_rf : bi .len [.ref l] st = match st[l]? with
    | some (.lst ds) => .ok (.int ds.length) st
    | some (.dct kvs) => .ok (.int kvs.length) st
    | none => .bad := by
  cases h : st[l]? with
  | none => simp [bi, h]
  | some o => cases o <;> simp [bi, h]
@[simp] theorem list_rf : bi .list [.ref l] st = match st[l]? with
    | some (.lst ds) => newL ds st
    | _ => .bad := by
  cases h : st[l]? with
  | none => simp [bi, h]
  | some o => cases o <;> simp [bi, h]
@[simp] theorem tuple_rf : bi .tuple [.ref l] st = match st[l]? with
    | some (.lst ds) => .ok (.tup ds) st
    | _ => .bad := by
  cases h : st[l]? with
  | none => simp [bi, h]
  | some o => cases o <;> simp [bi, h]
@[simp] theorem list_tup {ds : List D} : bi .list [.tup ds] st = newL ds st := (rfl)
@[simp] theorem tuple_tup {ds : List D} : bi .tuple [.tup ds] st = .ok (.tup ds) st := (rfl)
@[simp] theorem ix_rf {i : Int} : ixD (.ref l) (.int i) st = match st[l]? with
    | some (.lst ds) => item ds i
    | _ => none := by
  cases h : st[l]? with
  | none => simp [ixD, h]
  | some o => cases o <;> simp [ixD, h, isKey]
@[simp] theorem ix_key {ks : List D} : ixD (.ref l) (.tup ks) st = match st[l]? with
    | some (.dct kvs) => if isKey (.tup ks) then dGet kvs (.tup ks) else none
    | _ => none := by
  cases h : st[l]? with
  | none => simp [ixD, h]
  | some o => cases o <;> simp [ixD, h]
@[simp] theorem add_rf : bin .Add (.ref l) (.ref m) st = match st[l]?, st[m]? with
    | some (.lst xs), some (.lst ys) => newL (xs ++ ys) st
    | _, _ => .bad := by
  cases h : st[l]? with
  | none => simp [bin, ints2, h]
  | some o =>
    cases h' : st[m]? with
    | none => cases o <;> simp [bin, ints2, h, h']
    | some o' => cases o <;> cases o' <;> simp [bin, ints2, h, h']
@[simp] theorem kind_rf {mm : Mt} : kindM mm st (.ref l) = match st[l]? with
    | some (.lst _) => if mtOk .l mm then some .l else none
    | some (.dct _) => if mtOk .d mm then some .d else none
    | none => none := by
  cases h : st[l]? with
  | none => simp [kindM, kindD, h]
  | some o => cases o <;> simp [kindM, kindD, h]
@[simp] theorem ok_l_append : mtOk .l .append = true := (rfl)
@[simp] theorem ok_l_clear : mtOk .l .clear = true := (rfl)
@[simp] theorem ok_l_pop0 : mtOk .l .pop0 = true := (rfl)
@[simp] theorem ok_l_pop1 : mtOk .l .pop1 = true := (rfl)
@[simp] theorem ok_d_pop1 : mtOk .d .pop1 = true := (rfl)
@[simp] theorem ok_d_get1 : mtOk .d .get1 = true := (rfl)
@[simp] theorem ok_d_get2 : mtOk .d .get2 = true := (rfl)
@[simp] theorem ok_d_setdef : mtOk .d .setdef = true := (rfl)
@[simp] theorem mt_rl {mm : Mt} {ds : List D} : mt .l mm (.ref l) ds st = match st[l]? with
    | some (.lst xs) => mtL mm l xs ds st
    | _ => .bad := by
  cases h : st[l]? with
  | none => simp [mt, h]
  | some o => cases o <;> simp [mt, h]
@[simp] theorem mt_rd {mm : Mt} {ds : List D} : mt .d mm (.ref l) ds st = match st[l]? with
    | some (.dct xs) => mtD mm l xs ds st
    | _ => .bad := by
  cases h : st[l]? with
  | none => simp [mt, h]
  | some o => cases o <;> simp [mt, h]
@[simp] theorem mtL_app {xs : List D} : mtL .append l xs [d] st = if xs.length < 16777216 then .ok .non (st.set l (.lst (xs ++ [d]))) else .bad := (rfl)
@[simp] theorem mtL_clear {xs : List D} : mtL .clear l xs [] st = .ok .non (st.set l (.lst [])) := (rfl)
@[simp] theorem mtL_pop0 {xs : List D} : mtL .pop0 l xs [] st = match xs[xs.length - 1]? with
    | some x => .ok x (st.set l (.lst xs.dropLast))
    | none => .bad := (rfl)
@[simp] theorem mtD_get1 {kvs : List (D × D)} : mtD .get1 l kvs [d] st = if isKey d then .ok ((dGet kvs d).getD .non) st else .bad := (rfl)
@[simp] theorem mtD_get2 {kvs : List (D × D)} {x : D} : mtD .get2 l kvs [d, x] st = if isKey d then .ok ((dGet kvs d).getD x) st else .bad := (rfl)
@[simp] theorem walk_rf : walkD st (.ref l) = match st[l]? with
    | some (.lst ds) => some ⟨ds, [(l, .lst ds)]⟩
    | _ => none := (rfl)
@[simp] theorem walkL_rf : walkL st (.ref l) = match st[l]? with
    | some (.lst ds) => some ⟨ds, [(l, .lst ds)]⟩
    | _ => none := (rfl)
@[simp] theorem bind_rf {ts : List Tg} {env : En} : bindT st (.tp ts) (.ref l) env = match st[l]? with
    | some (.lst ds) => if ds.length = ts.length then bindTs st ts ds env else none
    | _ => none := by
  cases h : st[l]? with
  | none => simp [bindT, h]
  | some o => cases o <;> simp [bindT, h]
@[simp] theorem put_key {ks : List D} {v : D} : putD (.ref l) (.tup ks) v st = match st[l]? with
    | some (.dct kvs) => if isKey (.tup ks) = true ∧ kvs.length < 16777216 then some (st.set l (.dct (dSet kvs (.tup ks) v))) else none
    | _ => none := by
  cases h : st[l]? with
  | none => simp [putD, h]
  | some o => cases o <;> simp [putD, h]
@[simp] theorem put_int {i : Int} {v : D} : putD (.ref l) (.int i) v st = match st[l]? with
    | some (.lst xs) => (place xs.length i).map fun j => st.set l (.lst (xs.set j v))
    | _ => none := by
  cases h : st[l]? with
  | none => simp [putD, h]
  | some o => cases o <;> simp [putD, h, isKey]
@[simp] theorem in_key {ks : List D} : cmp .In (.tup ks) (.ref l) st = inD st (.tup ks) (.ref l) := (rfl)
@[simp] theorem notin_key {ks : List D} : cmp .NotIn (.tup ks) (.ref l) st = (inD st (.tup ks) (.ref l)).map (!·) := (rfl)
theorem inD_dct {kvs : List (D × D)} {x : D} (h : st[l]? = some (.dct kvs)) (hk : isKey x = true) : inD st x (.ref l) = some (dGet kvs x).isSome := by simp [inD, h, hk]
@[simp] theorem sorted_rf : bi .sorted [.ref l] st = match st[l]? with
    | some (.dct kvs) => (match sortD st (kvs.map (·.1)) with
      | some ys => newL ys st
      | none => .bad)
    | some (.lst xs) => (match sortD st xs with
      | some ys => newL ys st
      | none => .bad)
    | none => .bad := by
  cases h : st[l]? with
  | none => simp [bi, h]
  | some o => cases o <;> simp [bi, h] <;> rfl
@[simp] theorem sl_rf {lo hi : Option Int} : slD (.ref l) lo hi st = match st[l]? with
    | some (.lst xs) => .ok (.ref st.length) (st ++ [.lst (cut xs lo hi)])
    | _ => .bad := by
  cases h : st[l]? with
  | none => simp [slD, h]
  | some o => cases o <;> simp [slD, h]
end
theorem run_fn {T : List Fn} {w k i : Nat} {F : Fn} {ds : List D} {st : Sto} (h : T[i]? = some F) (hl : ds.length = F.ps) : run T w (k + 1) i ds st = (execSs (run T w k) w F.body (enter F ds) st).out := by rw [run_at h, if_pos hl]
end Ev

/-! Plain facts: bits, dicts, points, sorting. -/
namespace Ev
open PySem

theorem execSs_app {cl : Calls} {w : Nat} : ∀ (a b : List S) (env : En) (st : Sto), execSs cl w (a ++ b) env st = (execSs cl w a env st).andThen (execSs cl w b)
  | [], b, env, st => by simp
  | s :: a, b, env, st => by
    rw [List.cons_append, execSs_cons, execSs_cons]
    cases execS cl w s env st with
    | nx env1 st1 => simp only [then_nx]; exact execSs_app a b env1 st1
    | _ => rfl
@[simp] theorem int_bl {b : Bool} {st : Sto} : bi .int [.bl b] st = .ok (.int (if b = true then 1 else 0)) st := (rfl)
/-! ### bits -/
theorem xor_range {x y : Int} (hx : 0 ≤ x) (hy : 0 ≤ y) : 0 ≤ Builtin.bitXor x y ∧ Builtin.bitXor x y ≤ x + y := by
  have h1 := PyProof.Rows.bitAnd_range x hy
  have h2 := PyProof.Rows.bitAnd_range y hx
  rw [PyProof.Rows.bitAnd_comm] at h2
  rw [PyProof.Rows.bitXor_and]
  omega
theorem or_range {x y : Int} (hx : 0 ≤ x) (hy : 0 ≤ y) : 0 ≤ Builtin.bitOr x y ∧ Builtin.bitOr x y ≤ x + y := by
  have h1 := PyProof.Rows.bitAnd_range x hy
  have h2 := xor_range hx hy
  have e : Builtin.bitXor x y = Builtin.bitOr x y - Builtin.bitAnd x y := rfl
  rw [PyProof.Rows.bitXor_and] at e
  have h3 := PyProof.Rows.bitAnd_range y hx
  rw [PyProof.Rows.bitAnd_comm] at h3
  omega
theorem mulOk_l {i j : Int} (h : -(2 ^ 64) < i) (h2 : i < 2 ^ 64) : mulOk i j = true := by
  unfold mulOk
  rw [decide_eq_true ⟨h, h2⟩]
  rfl
theorem mulOk_r {i j : Int} (h : -(2 ^ 64) < j) (h2 : j < 2 ^ 64) : mulOk i j = true := by
  unfold mulOk
  rw [decide_eq_true (p := -(2 ^ 64) < j ∧ j < 2 ^ 64) ⟨h, h2⟩, Bool.or_true]
  rfl

/-! ### dicts -/
section
variable {kvs : List (D × D)} {k k' v : D}
theorem dGet_cons {p : D × D} : dGet (p :: kvs) k = if p.1 = k then some p.2 else dGet kvs k := by
  unfold dGet
  by_cases h : p.1 = k <;> simp [List.find?_cons, h]
theorem dGet_nil : dGet [] k = none := rfl
theorem dGet_some : ∀ {kvs : List (D × D)}, (dGet kvs k).isSome = true ↔ k ∈ kvs.map (·.1)
  | [] => by simp [dGet]
  | p :: kvs => by
    rw [dGet_cons]
    by_cases h : p.1 = k
    · simp [h]
    · rw [if_neg h, dGet_some]
      simp [Ne.symm h]
theorem any_key : kvs.any (fun p => decide (p.1 = k)) = true ↔ k ∈ kvs.map (·.1) := by simp
theorem dSet_keys : (dSet kvs k v).map (·.1) = if k ∈ kvs.map (·.1) then kvs.map (·.1) else kvs.map (·.1) ++ [k] := by
  unfold dSet
  by_cases h : k ∈ kvs.map (·.1)
  · rw [if_pos (any_key.mpr h), if_pos h, List.map_map]
    apply List.map_congr_left
    intro p _
    by_cases hp : p.1 = k <;> simp [hp]
  · rw [if_neg (fun z => h (any_key.mp z)), if_neg h]
    simp
theorem dSet_mem {x : D} : x ∈ (dSet kvs k v).map (·.1) ↔ x ∈ kvs.map (·.1) ∨ x = k := by
  rw [dSet_keys]
  by_cases h : k ∈ kvs.map (·.1)
  · rw [if_pos h]
    exact ⟨.inl, fun z => z.elim id fun z => z ▸ h⟩
  · rw [if_neg h]
    simp
theorem dSet_nodup (h : (kvs.map (·.1)).Nodup) : ((dSet kvs k v).map (·.1)).Nodup := by
  rw [dSet_keys]
  by_cases hk : k ∈ kvs.map (·.1)
  · rw [if_pos hk]; exact h
  · rw [if_neg hk]
    exact List.nodup_append.mpr ⟨h, by simp, fun a ha b hb => by
      have : b = k := by simpa using hb
      subst this
      exact fun z => hk (z ▸ ha)⟩
theorem dSet_len : (dSet kvs k v).length ≤ kvs.length + 1 := by
  have h := congrArg List.length (dSet_keys (kvs := kvs) (k := k) (v := v))
  rw [List.length_map] at h
  split at h <;> simp at h <;> omega
theorem dGet_set : dGet (dSet kvs k v) k' = if k' = k then some v else dGet kvs k' := by
  unfold dSet
  by_cases h : k ∈ kvs.map (·.1)
  · rw [if_pos (any_key.mpr h)]
    induction kvs with
    | nil => simp at h
    | cons p r ih =>
      rw [List.map_cons, dGet_cons, dGet_cons]
      by_cases hp : p.1 = k
      · by_cases hk : k' = k
        · simp [hp, hk]
        · have : ¬ k = k' := fun z => hk z.symm
          simp only [hp, if_true, hk, if_false, this]
          by_cases hr : k ∈ r.map (·.1)
          · rw [ih hr, if_neg hk]
          · have e : r.map (fun p => if p.1 = k then (p.1, v) else p) = r := by
              conv => rhs; rw [← List.map_id r]
              apply List.map_congr_left
              intro q hq
              rw [if_neg (fun z => hr (List.mem_map.mpr ⟨q, hq, z⟩))]
              rfl
            rw [e]
      · have hr : k ∈ r.map (·.1) := by
          rcases List.mem_cons.mp h with z | z
          · exact absurd z.symm hp
          · exact z
        simp only [hp, if_false]
        rw [ih hr]
        by_cases hk : k' = k
        · have : ¬ p.1 = k' := fun z => hp (z.trans hk)
          simp [this, hk, hp]
        · simp [hk]
  · rw [if_neg (fun z => h (any_key.mp z))]
    induction kvs with
    | nil =>
      rw [List.nil_append, dGet_cons]
      by_cases hk : k' = k
      · simp [hk]
      · have : ¬ k = k' := fun z => hk z.symm
        simp [hk, this]
    | cons p r ih =>
      rw [List.cons_append, dGet_cons, dGet_cons, ih (fun z => h (List.mem_cons_of_mem _ z))]
      have hp : ¬ p.1 = k := fun z => h (by simp [z])
      by_cases hk : k' = k
      · have : ¬ p.1 = k' := fun z => hp (z.trans hk)
        simp [hk, hp]
      · simp [hk]
end

/-! ### points -/
abbrev Pt := Int × Int
def pt (p : Pt) : D := .tup [.int p.1, .int p.2]
theorem pt_inj {p q : Pt} (h : pt p = pt q) : p = q := by
  simp [pt] at h
  exact Prod.ext h.1 h.2
@[simp] theorem pt_key (p : Pt) : isKey (pt p) = true := (rfl)
def ltP (p q : Pt) : Prop := p.1 < q.1 ∨ (p.1 = q.1 ∧ p.2 < q.2)
instance (p q : Pt) : Decidable (ltP p q) := by unfold ltP; infer_instance
theorem ltP_trans {p q r : Pt} (a : ltP p q) (b : ltP q r) : ltP p r := by unfold ltP at *; omega
theorem ltP_irrefl {p : Pt} : ¬ ltP p p := by unfold ltP; omega
theorem ltP_total {p q : Pt} : ltP p q ∨ p = q ∨ ltP q p := by
  have h : p = q ↔ p.1 = q.1 ∧ p.2 = q.2 := ⟨fun z => by subst z; exact ⟨rfl, rfl⟩, fun z => Prod.ext z.1 z.2⟩
  rw [h]
  unfold ltP
  omega
def leP (p q : Pt) : Bool := !decide (ltP q p)
theorem toP_pt {st : Sto} {n : Nat} (p : Pt) : toP st (n + 1) (pt p) = some (.tuple [.int p.1, .int p.2]) := by simp [pt, toP, toPs]
theorem toPs_pts {st : Sto} {n : Nat} : ∀ ps : List Pt, toPs st (n + 1) (ps.map pt) = some (ps.map fun p => .tuple [.int p.1, .int p.2])
  | [] => by simp [toPs]
  | p :: ps => by simp [toPs, toP_pt, toPs_pts ps]
theorem sortD_pts {st : Sto} (ps : List Pt) : sortD st (ps.map pt) = some ((ps.mergeSort leP).map pt) := by
  unfold sortD
  have e : deep = 11 + 1 := rfl
  rw [e, toPs_pts]
  simp only
  rw [if_pos]
  · rw [List.map_mergeSort]
    intro a _ b _
    show leP a b = _
    rw [W.dataLe_eq]
    simp only [toP_pt, Option.getD_some, cond_false]
    rw [W.dataLt_ii]
    rfl
  · rw [Bool.and_eq_true]
    refine ⟨?_, ?_⟩
    · unfold allAlike
      simp [W.alike, W.alikeAll]
    · unfold sortable
      simp
theorem sorted_pts (ps : List Pt) (h : ps.Nodup) : ((ps.mergeSort leP).Pairwise ltP) ∧ ∀ p, p ∈ ps.mergeSort leP ↔ p ∈ ps := by
  refine ⟨?_, fun p => List.mem_mergeSort⟩
  have h1 : (ps.mergeSort leP).Pairwise fun a b => leP a b = true := List.pairwise_mergeSort (fun a b c h1 h2 => by
      simp only [leP, Bool.not_eq_true', decide_eq_false_iff_not] at h1 h2 ⊢
      unfold ltP at *
      omega) (fun a b => by
      simp only [leP, Bool.or_eq_true, Bool.not_eq_true', decide_eq_false_iff_not]
      unfold ltP
      omega) ps
  have h2 : (ps.mergeSort leP).Nodup := (List.mergeSort_perm ps leP).nodup_iff.mpr h
  have h3 := List.Pairwise.and h1 h2
  refine h3.imp fun {a b} ⟨x, y⟩ => ?_
  simp only [leP, Bool.not_eq_true', decide_eq_false_iff_not] at x
  rcases ltP_total (p := a) (q := b) with z | z | z
  · exact z
  · exact absurd z y
  · exact absurd z x
/-! ### points in the evaluator -/
section
variable {st : Sto} {p q : Pt} {l : Nat} {env : En}
theorem fold_pt {a b : Int} : D.tup [.int a, .int b] = pt (a, b) := (rfl)
@[simp] theorem pt_eta : pt (p.1, p.2) = pt p := (rfl)
@[simp] theorem bind_pt {t1 t2 : Tg} : bindT st (.tp [t1, t2]) (pt p) env = bindTs st [t1, t2] [.int p.1, .int p.2] env := bind_tup rfl
@[simp] theorem isi_pt {t : Ty} : isi st (pt p) t = some (decide (t = .tuple)) := isi_tup
@[simp] theorem len_pt : bi .len [pt p] st = .ok (.int 2) st := (rfl)
@[simp] theorem ix_pt0 : ixD (pt p) (.int 0) st = some (.int p.1) := by simp [pt]
@[simp] theorem ix_pt1 : ixD (pt p) (.int 1) st = some (.int p.2) := by simp [pt]
@[simp] theorem lt_pt : cmp .Lt (pt p) (pt q) st = some (decide (ltP p q)) := lt_pair
@[simp] theorem eq_pt : cmp .Eq (pt p) (pt q) st = some (decide (p = q)) := by
  unfold pt
  rw [eq_pair]
  congr 1
  rw [decide_eq_decide]
  exact ⟨fun h => Prod.ext h.1 h.2, fun h => by subst h; exact ⟨rfl, rfl⟩⟩
@[simp] theorem ne_pt : cmp .NotEq (pt p) (pt q) st = some (!decide (p = q)) := by
  have h : cmp .NotEq (pt p) (pt q) st = (cmp .Eq (pt p) (pt q) st).map (!·) := rfl
  rw [h, eq_pt]
  rfl
@[simp] theorem put_pt {v : D} : putD (.ref l) (pt p) v st = match st[l]? with
    | some (.dct kvs) => if kvs.length < 16777216 then some (st.set l (.dct (dSet kvs (pt p) v))) else none
    | _ => none := by
  unfold pt
  rw [put_key]
  have : isKey (.tup [.int p.1, .int p.2]) = true := rfl
  simp [this] <;> rfl
@[simp] theorem in_pt : cmp .In (pt p) (.ref l) st = inD st (pt p) (.ref l) := (rfl)
@[simp] theorem notin_pt : cmp .NotIn (pt p) (.ref l) st = (inD st (pt p) (.ref l)).map (!·) := (rfl)
theorem inD_pt : inD st (pt p) (.ref l) = match st[l]? with
    | some (.dct kvs) => some (dGet kvs (pt p)).isSome
    | some (.lst ds) => (toPs st deep ds).map fun bs => bs.any fun z => PyData.eqv z (.tuple [.int p.1, .int p.2])
    | none => none := by
  cases h : st[l]? with
  | none => simp [inD, h]
  | some o =>
    cases o with
    | dct kvs => simp [inD, h]
    | lst ds =>
      have e : toP st deep (pt p) = some (.tuple [.int p.1, .int p.2]) := toP_pt (n := 11) p
      simp [inD, h, e]
      cases toPs st deep ds <;> rfl
@[simp] theorem ixD_pt : ixD (.ref l) (pt p) st = match st[l]? with
    | some (.dct kvs) => dGet kvs (pt p)
    | _ => none := by
  unfold pt
  rw [ix_key]
  have : isKey (.tup [.int p.1, .int p.2]) = true := rfl
  simp [this] <;> rfl
end
theorem eqvAll_pts : ∀ ps : List Pt, PyData.eqvAll (ps.map fun p => .tuple [.int p.1, .int p.2]) (ps.map fun p => .tuple [.int p.1, .int p.2]) = true
  | [] => by simp [PyData.eqvAll]
  | p :: ps => by simp [PyData.eqvAll, PyData.eqv, eqvAll_pts ps]
theorem eqD_pts {st : Sto} {a b : Nat} {ps : List Pt} (h : st[a]? = some (.lst (ps.map pt))) (h' : st[b]? = some (.lst (ps.map pt))) : eqD st (.ref a) (.ref b) = some true := by
  have e : deep = 11 + 1 := rfl
  have e' : ∀ n, toPs st (n + 1) (ps.map pt) = some (ps.map fun p => .tuple [.int p.1, .int p.2]) := fun n => toPs_pts ps
  simp [eqD, e, toP, h, h', e' 10, PyData.eqv, eqvAll_pts]
theorem cut_one {xs : List D} : cut xs (some 1) none = xs.drop 1 := by
  unfold cut sIx
  cases xs with
  | nil => simp
  | cons x r =>
    have h : min (1 : Int) ((x :: r).length : Int) = 1 := by simp; omega
    simp only [h]
    simp
theorem cut_last {xs : List D} : cut xs none (some (-1)) = xs.dropLast := by
  unfold cut sIx
  simp only [List.drop_zero, Nat.sub_zero]
  rw [List.dropLast_eq_take]
  congr 1
  rw [if_pos (by decide)]
  omega
theorem get_app {st l : Sto} {i : Nat} {o : O} (h : st[i]? = some o) : (st ++ l)[i]? = some o := by
  rw [List.getElem?_append_left (List.getElem?_eq_some_iff.mp h).1]; exact h
/-! ### dicts whose keys are points -/
def addP (qs : List Pt) (p : Pt) : List Pt := if p ∈ qs then qs else qs ++ [p]
theorem mem_pts {qs : List Pt} {p : Pt} : pt p ∈ qs.map pt ↔ p ∈ qs := by
  rw [List.mem_map]
  exact ⟨fun ⟨q, h, e⟩ => pt_inj e ▸ h, fun h => ⟨p, h, rfl⟩⟩
theorem keys_set {kvs : List (D × D)} {qs : List Pt} {p : Pt} {v : D} (h : kvs.map (·.1) = qs.map pt) : (dSet kvs (pt p) v).map (·.1) = (addP qs p).map pt := by
  rw [dSet_keys, h]
  unfold addP
  by_cases hp : p ∈ qs
  · rw [if_pos (mem_pts.mpr hp), if_pos hp]
  · rw [if_neg (fun z => hp (mem_pts.mp z)), if_neg hp]
    simp
theorem addP_mem {qs : List Pt} {p x : Pt} : x ∈ addP qs p ↔ x ∈ qs ∨ x = p := by
  unfold addP
  by_cases h : p ∈ qs
  · rw [if_pos h]
    exact ⟨.inl, fun z => z.elim id fun z => z ▸ h⟩
  · rw [if_neg h]
    simp
theorem addP_nodup {qs : List Pt} {p : Pt} (h : qs.Nodup) : (addP qs p).Nodup := by
  unfold addP
  by_cases hp : p ∈ qs
  · rw [if_pos hp]; exact h
  · rw [if_neg hp]
    exact List.nodup_append.mpr ⟨h, by simp, fun a ha b hb => by
      have : b = p := by simpa using hb
      subst this
      exact fun z => hp (z ▸ ha)⟩
theorem addP_len {qs : List Pt} {p : Pt} : (addP qs p).length ≤ qs.length + 1 := by
  unfold addP
  split <;> simp
theorem keys_has {kvs : List (D × D)} {qs : List Pt} {p : Pt} (h : kvs.map (·.1) = qs.map pt) : (dGet kvs (pt p)).isSome = decide (p ∈ qs) := by
  have e : (dGet kvs (pt p)).isSome = true ↔ p ∈ qs := by rw [dGet_some, h, mem_pts]
  by_cases hp : p ∈ qs
  · rw [decide_eq_true hp]; exact e.mpr hp
  · rw [decide_eq_false hp]
    cases hx : (dGet kvs (pt p)).isSome with
    | false => rfl
    | true => exact absurd (e.mp hx) hp
theorem keys_len {kvs : List (D × D)} {qs : List Pt} (h : kvs.map (·.1) = qs.map pt) : kvs.length = qs.length := by
  have := congrArg List.length h
  simpa using this
theorem addP_le {qs : List Pt} {n : Nat} (p : Pt) (h : qs.length ≤ n) : (addP qs p).length ≤ n + 1 := Nat.le_trans addP_len (Nat.add_le_add_right h 1)
theorem keys_lt {kvs : List (D × D)} {qs : List Pt} {n : Nat} (h : kvs.map (·.1) = qs.map pt) (hq : qs.length ≤ n) (hn : n < 16777216) : kvs.length < 16777216 := by
  rw [keys_len h]
  exact Nat.lt_of_le_of_lt hq hn
theorem mem_take {α : Type} {l : List α} {i : Nat} (h : i < l.length) {x : α} : x ∈ l.take (i + 1) ↔ x ∈ l.take i ∨ x = l[i] := by
  rw [List.take_add_one, List.getElem?_eq_getElem h]
  simp only [Option.toList_some, List.mem_append, List.mem_singleton]
/-! ### the same of any things told as keys -/
section
variable {α : Type} [DecidableEq α] {f : α → D}
def addE (qs : List α) (p : α) : List α := if p ∈ qs then qs else qs ++ [p]
theorem mem_emb (inj : ∀ a b, f a = f b → a = b) {qs : List α} {p : α} : f p ∈ qs.map f ↔ p ∈ qs := by
  rw [List.mem_map]
  exact ⟨fun ⟨q, h, e⟩ => inj _ _ e ▸ h, fun h => ⟨p, h, rfl⟩⟩
theorem keysE_set (inj : ∀ a b, f a = f b → a = b) {kvs : List (D × D)} {qs : List α} {p : α} {v : D} (h : kvs.map (·.1) = qs.map f) : (dSet kvs (f p) v).map (·.1) = (addE qs p).map f := by
  rw [dSet_keys, h]
  unfold addE
  by_cases hp : p ∈ qs
  · rw [if_pos ((mem_emb inj).mpr hp), if_pos hp]
  · rw [if_neg (fun z => hp ((mem_emb inj).mp z)), if_neg hp]
    simp
theorem addE_mem {qs : List α} {p x : α} : x ∈ addE qs p ↔ x ∈ qs ∨ x = p := by
  unfold addE
  by_cases h : p ∈ qs
  · rw [if_pos h]
    exact ⟨.inl, fun z => z.elim id fun z => z ▸ h⟩
  · rw [if_neg h]
    simp
theorem addE_nodup {qs : List α} {p : α} (h : qs.Nodup) : (addE qs p).Nodup := by
  unfold addE
  by_cases hp : p ∈ qs
  · rw [if_pos hp]; exact h
  · rw [if_neg hp]
    exact List.nodup_append.mpr ⟨h, by simp, fun a ha b hb => by
      have : b = p := by simpa using hb
      subst this
      exact fun z => hp (z ▸ ha)⟩
theorem addE_le {qs : List α} {n : Nat} (p : α) (h : qs.length ≤ n) : (addE qs p).length ≤ n + 1 := by
  unfold addE
  split
  · omega
  · rw [List.length_append, List.length_singleton]
    omega
theorem keysE_has (inj : ∀ a b, f a = f b → a = b) {kvs : List (D × D)} {qs : List α} {p : α} (h : kvs.map (·.1) = qs.map f) : (dGet kvs (f p)).isSome = decide (p ∈ qs) := by
  have e : (dGet kvs (f p)).isSome = true ↔ p ∈ qs := by rw [dGet_some, h, mem_emb inj]
  by_cases hp : p ∈ qs
  · rw [decide_eq_true hp]; exact e.mpr hp
  · rw [decide_eq_false hp]
    cases hx : (dGet kvs (f p)).isSome with
    | false => rfl
    | true => exact absurd (e.mp hx) hp
theorem keysE_lt {kvs : List (D × D)} {qs : List α} {n : Nat} (h : kvs.map (·.1) = qs.map f) (hq : qs.length ≤ n) (hn : n < 16777216) : kvs.length < 16777216 := by
  have : kvs.length = qs.length := by
    have := congrArg List.length h
    simpa using this
  rw [this]
  exact Nat.lt_of_le_of_lt hq hn
theorem foldE_mem {qs : List α} : ∀ (ps : List α) (x : α), x ∈ ps.foldl addE qs ↔ x ∈ qs ∨ x ∈ ps := by
  intro ps
  induction ps generalizing qs with
  | nil => simp
  | cons p ps ih =>
    intro x
    rw [List.foldl_cons, ih, addE_mem, List.mem_cons, or_assoc]
theorem foldE_nodup {qs : List α} (h : qs.Nodup) : ∀ ps : List α, (ps.foldl addE qs).Nodup := by
  intro ps
  induction ps generalizing qs with
  | nil => exact h
  | cons p ps ih => exact ih (addE_nodup h)
theorem foldE_len {qs : List α} : ∀ ps : List α, (ps.foldl addE qs).length ≤ qs.length + ps.length := by
  intro ps
  induction ps generalizing qs with
  | nil => simp
  | cons p ps ih =>
    have h1 := ih (qs := addE qs p)
    have h2 := addE_le (qs := qs) p (Nat.le_refl _)
    simp only [List.foldl_cons, List.length_cons]
    omega
end
/-! ### pairs of points: sides, tiles -/
abbrev Sd := Pt × Pt
def sd (s : Sd) : D := .tup [pt s.1, pt s.2]
theorem sd_inj {s t : Sd} (h : sd s = sd t) : s = t := by
  simp only [sd, D.tup.injEq, List.cons.injEq, and_true] at h
  exact Prod.ext (pt_inj h.1) (pt_inj h.2)
@[simp] theorem sd_key (s : Sd) : isKey (sd s) = true := (rfl)
def ltS (s t : Sd) : Prop := ltP s.1 t.1 ∨ (s.1 = t.1 ∧ ltP s.2 t.2)
instance (s t : Sd) : Decidable (ltS s t) := by unfold ltS; infer_instance
theorem ltS_total {s t : Sd} : ltS s t ∨ s = t ∨ ltS t s := by
  unfold ltS
  rcases ltP_total (p := s.1) (q := t.1) with h | h | h
  · exact .inl (.inl h)
  · rcases ltP_total (p := s.2) (q := t.2) with h' | h' | h'
    · exact .inl (.inr ⟨h, h'⟩)
    · exact .inr (.inl (Prod.ext h h'))
    · exact .inr (.inr (.inr ⟨h.symm, h'⟩))
  · exact .inr (.inr (.inl h))
theorem ltS_trans {s t u : Sd} (a : ltS s t) (b : ltS t u) : ltS s u := by
  unfold ltS at *
  rcases a with a | ⟨a, a'⟩ <;> rcases b with b | ⟨b, b'⟩
  · exact .inl (ltP_trans a b)
  · exact .inl (b ▸ a)
  · exact .inl (a ▸ b)
  · exact .inr ⟨a.trans b, ltP_trans a' b'⟩
theorem ltS_irrefl {s : Sd} : ¬ ltS s s := by
  unfold ltS
  rintro (h | ⟨_, h⟩)
  · exact ltP_irrefl h
  · exact ltP_irrefl h
def leS (s t : Sd) : Bool := !decide (ltS t s)
def dP (p : Pt) : PyData := .tuple [.int p.1, .int p.2]
def dS (s : Sd) : PyData := .tuple [dP s.1, dP s.2]
theorem toP_sd {st : Sto} {n : Nat} (s : Sd) : toP st (n + 2) (sd s) = some (dS s) := by simp [sd, toP, toPs, toP_pt, dS, dP]
theorem toPs_sds {st : Sto} {n : Nat} : ∀ ss : List Sd, toPs st (n + 2) (ss.map sd) = some (ss.map dS)
  | [] => by simp [toPs]
  | p :: ps => by simp [toPs, toP_sd, toPs_sds ps]
theorem eqv_dP {p q : Pt} : PyData.eqv (dP p) (dP q) = decide (p = q) := by
  simp [dP, PyData.eqv, PyData.eqvAll]
  by_cases h : p = q
  · subst h; simp
  · have h' : ¬ (p.1 = q.1 ∧ p.2 = q.2) := fun z => h (Prod.ext z.1 z.2)
    simp only [h, decide_false]
    by_cases h1 : p.1 = q.1
    · have h2 : ¬ p.2 = q.2 := fun z => h' ⟨h1, z⟩
      simp [h2]
    · simp [h1]
theorem eqv_dS {s t : Sd} : PyData.eqv (dS s) (dS t) = decide (s = t) := by
  simp [dS, PyData.eqv, PyData.eqvAll, eqv_dP]
  by_cases h : s = t
  · subst h; simp
  · have h' : ¬ (s.1 = t.1 ∧ s.2 = t.2) := fun z => h (Prod.ext z.1 z.2)
    simp only [h, decide_false]
    by_cases h1 : s.1 = t.1
    · have h2 : ¬ s.2 = t.2 := fun z => h' ⟨h1, z⟩
      simp [h2]
    · simp [h1]
theorem alike_dP {p q : Pt} : W.alike (dP p) (dP q) = true := by simp [dP, W.alike, W.alikeAll]
theorem alike_dS {s t : Sd} : W.alike (dS s) (dS t) = true := by simp [dS, W.alike, W.alikeAll, alike_dP]
theorem lt_dP {p q : Pt} : W.dataLt (dP p) (dP q) = decide (ltP p q) := W.dataLt_ii _ _ _ _
theorem lt_dS {s t : Sd} : W.dataLt (dS s) (dS t) = decide (ltS s t) := by
  unfold dS
  rw [W.dataLt_pair alike_dP alike_dP, eqv_dP, eqv_dP, lt_dP, lt_dP]
  unfold ltS
  by_cases h : s.1 = t.1
  · have hn : ¬ ltP s.1 t.1 := by rw [h]; exact ltP_irrefl
    by_cases h' : s.2 = t.2
    · have hn' : ¬ ltP s.2 t.2 := by rw [h']; exact ltP_irrefl
      simp [h, h', ltP_irrefl]
    · simp [h, h', ltP_irrefl]
  · simp [h]
section
variable {st : Sto} {s t : Sd} {l : Nat} {env : En}
theorem fold_sd {p q : Pt} : D.tup [pt p, pt q] = sd (p, q) := (rfl)
@[simp] theorem sd_eta : sd (s.1, s.2) = sd s := (rfl)
@[simp] theorem bind_sd {t1 t2 : Tg} : bindT st (.tp [t1, t2]) (sd s) env = bindTs st [t1, t2] [pt s.1, pt s.2] env := bind_tup rfl
@[simp] theorem isi_sd {ty : Ty} : isi st (sd s) ty = some (decide (ty = .tuple)) := isi_tup
@[simp] theorem len_sd : bi .len [sd s] st = .ok (.int 2) st := (rfl)
@[simp] theorem ix_sd0 : ixD (sd s) (.int 0) st = some (pt s.1) := by simp [sd]
@[simp] theorem ix_sd1 : ixD (sd s) (.int 1) st = some (pt s.2) := by simp [sd]
@[simp] theorem lt_sd : cmp .Lt (sd s) (sd t) st = some (decide (ltS s t)) := by
  have e : deep = 10 + 2 := rfl
  simp only [cmp, ltD, e, toP_sd]
  rw [if_pos ⟨alike_dS, by simp [sd]⟩, lt_dS]
@[simp] theorem eq_sd : cmp .Eq (sd s) (sd t) st = some (decide (s = t)) := by
  have e : deep = 10 + 2 := rfl
  simp only [cmp, eqD, e, toP_sd]
  rw [eqv_dS]
@[simp] theorem ne_sd : cmp .NotEq (sd s) (sd t) st = some (!decide (s = t)) := by
  have h : cmp .NotEq (sd s) (sd t) st = (cmp .Eq (sd s) (sd t) st).map (!·) := rfl
  rw [h, eq_sd]
  rfl
@[simp] theorem put_sd {v : D} : putD (.ref l) (sd s) v st = match st[l]? with
    | some (.dct kvs) => if kvs.length < 16777216 then some (st.set l (.dct (dSet kvs (sd s) v))) else none
    | _ => none := by
  have hk : isKey (.tup [pt s.1, pt s.2]) = true := rfl
  unfold sd
  rw [put_key]
  simp [hk] <;> rfl
@[simp] theorem in_sd : cmp .In (sd s) (.ref l) st = inD st (sd s) (.ref l) := (rfl)
@[simp] theorem notin_sd : cmp .NotIn (sd s) (.ref l) st = (inD st (sd s) (.ref l)).map (!·) := (rfl)
theorem inD_sd : inD st (sd s) (.ref l) = match st[l]? with
    | some (.dct kvs) => some (dGet kvs (sd s)).isSome
    | some (.lst ds) => (toPs st deep ds).map fun bs => bs.any fun z => PyData.eqv z (dS s)
    | none => none := by
  cases h : st[l]? with
  | none => simp [inD, h]
  | some o =>
    cases o with
    | dct kvs => simp [inD, h]
    | lst ds =>
      have e : toP st deep (sd s) = some (dS s) := toP_sd (n := 10) s
      simp [inD, h, e]
      cases toPs st deep ds <;> rfl
@[simp] theorem ixD_sd : ixD (.ref l) (sd s) st = match st[l]? with
    | some (.dct kvs) => dGet kvs (sd s)
    | _ => none := by
  have hk : isKey (.tup [pt s.1, pt s.2]) = true := rfl
  unfold sd
  rw [ix_key]
  simp [hk] <;> rfl
end
theorem sortD_sds {st : Sto} (ps : List Sd) : sortD st (ps.map sd) = some ((ps.mergeSort leS).map sd) := by
  unfold sortD
  have e : deep = 10 + 2 := rfl
  rw [e, toPs_sds]
  simp only
  rw [if_pos]
  · rw [List.map_mergeSort]
    intro a _ b _
    show leS a b = _
    rw [W.dataLe_eq]
    simp only [toP_sd, Option.getD_some, cond_false]
    rw [lt_dS]
    rfl
  · rw [Bool.and_eq_true]
    refine ⟨?_, ?_⟩
    · unfold allAlike
      simp [alike_dS]
    · unfold sortable
      simp [dS]
theorem sorted_sds (ps : List Sd) (h : ps.Nodup) : ((ps.mergeSort leS).Pairwise ltS) ∧ ∀ p, p ∈ ps.mergeSort leS ↔ p ∈ ps := by
  refine ⟨?_, fun p => List.mem_mergeSort⟩
  have h1 : (ps.mergeSort leS).Pairwise fun a b => leS a b = true := List.pairwise_mergeSort (fun a b c h1 h2 => by
      simp only [leS, Bool.not_eq_true', decide_eq_false_iff_not] at h1 h2 ⊢
      intro h3
      rcases ltS_total (s := a) (t := b) with z | z | z
      · exact h2 (ltS_trans h3 z)
      · subst z; exact h2 h3
      · exact h1 z) (fun a b => by
      simp only [leS, Bool.or_eq_true, Bool.not_eq_true', decide_eq_false_iff_not]
      by_cases h : ltS b a
      · exact .inr fun z => ltS_irrefl (ltS_trans h z)
      · exact .inl h) ps
  have h2 : (ps.mergeSort leS).Nodup := (List.mergeSort_perm ps leS).nodup_iff.mpr h
  have h3 := List.Pairwise.and h1 h2
  refine h3.imp fun {a b} ⟨x, y⟩ => ?_
  simp only [leS, Bool.not_eq_true', decide_eq_false_iff_not] at x
  rcases ltS_total (s := a) (t := b) with z | z | z
  · exact z
  · exact absurd z y
  · exact absurd z x
theorem eqvAll_sds : ∀ ps : List Sd, PyData.eqvAll (ps.map dS) (ps.map dS) = true
  | [] => by simp [PyData.eqvAll]
  | p :: ps => by simp [PyData.eqvAll, eqv_dS, eqvAll_sds ps]
theorem eqD_sds {st : Sto} {a b : Nat} {ps : List Sd} (h : st[a]? = some (.lst (ps.map sd))) (h' : st[b]? = some (.lst (ps.map sd))) : eqD st (.ref a) (.ref b) = some true := by
  have e : deep = 11 + 1 := rfl
  have e' : ∀ n, toPs st (n + 2) (ps.map sd) = some (ps.map dS) := fun n => toPs_sds ps
  simp [eqD, e, toP, h, h', e' 9, PyData.eqv, eqvAll_sds]
theorem any_pts {p : Pt} : ∀ ps : List Pt, (ps.map fun p => PyData.tuple [.int p.1, .int p.2]).any (fun z => PyData.eqv z (.tuple [.int p.1, .int p.2])) = decide (p ∈ ps)
  | [] => by simp
  | q :: ps => by
    rw [List.map_cons, List.any_cons, any_pts ps]
    have e : PyData.eqv (.tuple [.int q.1, .int q.2]) (.tuple [.int p.1, .int p.2]) = decide (q = p) := eqv_dP
    rw [e]
    by_cases h : q = p
    · simp [h]
    · have h' : ¬ p = q := fun z => h z.symm
      simp [h, h']
theorem inD_list {st : Sto} {l : Nat} {cs : List Pt} {p : Pt} (h : st[l]? = some (.lst (cs.map pt))) : inD st (pt p) (.ref l) = some (decide (p ∈ cs)) := by
  have e : toPs st deep (cs.map pt) = some (cs.map fun p => .tuple [.int p.1, .int p.2]) := toPs_pts (n := 11) cs
  rw [inD_pt]
  simp only [h, e, Option.map_some, any_pts]
/-! ### for c in cells: there[c] = True -/
theorem fill {cl : Calls} {w a b c ld lf : Nat} {env : En} {st : Sto} {cs : List Pt} (ha : env.val a = some (.ref lf)) (hb : env.val b = some (.ref ld)) (hca : c ≠ a) (hcb : c ≠ b) (hc : c < env.length) (hf : st[lf]? = some (.lst (cs.map pt))) (hd : st[ld]? = some (.dct [])) (hl : cs.length ≤ 1000000) :
    ∃ kvs y, ∃ qs : List Pt, kvs.map (·.1) = qs.map pt ∧ qs.Nodup ∧ (∀ p, p ∈ qs ↔ p ∈ cs) ∧ execS cl w (.fo (.nm c) (.seq (.var a)) [.put (.var b) (.var c) (.cst (.bl true))]) env st = .nx (env.set c y) (st.set ld (.dct kvs)) := by
  have hne : ld ≠ lf := fun z => by subst z; rw [hf] at hd; cases hd
  have hld : ld < st.length := (List.getElem?_eq_some_iff.mp hd).1
  have val_ne : ∀ (y : Option D) (i : Nat), c ≠ i → En.val (env.set c y) i = En.val env i := fun y i h => by
    unfold En.val
    rw [List.getElem?_set_ne h]
  have val_eq : ∀ (y : Option D), En.val (env.set c y) c = y := fun y => by
    unfold En.val
    rw [List.getElem?_set_self hc]
    rfl
  obtain ⟨env', st', e, y, kvs, qs, rfl, rfl, hk, hn, hq, hm⟩ := fo_ind (cl := cl) (w := w) (t := .nm c) (it := .seq (.var a)) (b := [.put (.var b) (.var c) (.cst (.bl true))]) (env := env) (st := st) (its := ⟨cs.map pt, [(lf, .lst (cs.map pt))]⟩) (st1 := st) (by simp [ha, hf])
    (fun i e s => ∃ y kvs, ∃ qs : List Pt, e = env.set c y ∧ s = st.set ld (.dct kvs) ∧ kvs.map (·.1) = qs.map pt ∧ qs.Nodup ∧ qs.length ≤ i ∧ ∀ p, p ∈ qs ↔ p ∈ cs.take i)
    ⟨env[c], [], [], (List.set_getElem_self hc).symm, by
      have : st[ld] = .dct [] := (List.getElem?_eq_some_iff.mp hd).2
      rw [← this]
      exact (List.set_getElem_self hld).symm, rfl, List.nodup_nil, Nat.le_refl _, by simp⟩
    (by
      rintro i e s hi ⟨y, kvs, qs, rfl, rfl, _⟩
      exact still_ref (by rw [List.getElem?_set_ne hne]; exact hf))
    (by
      rintro i e s hi ⟨y, kvs, qs, rfl, rfl, hk, hn, hq, hm⟩
      have hi' : i < cs.length := by simpa using hi
      have hb' := keys_lt hk (Nat.le_trans hq (Nat.le_trans (Nat.le_of_lt hi') hl)) (by decide)
      refine ⟨_, bind_nm, env.set c (some (pt cs[i])), st.set ld (.dct (dSet kvs (pt cs[i]) (.bl true))), .inl ?_, _, _, addP qs cs[i], rfl, rfl, keys_set hk, addP_nodup hn, addP_le _ hq, ?_⟩
      · simp [List.set_set, val_ne _ b hcb, val_eq, hb, List.getElem?_set_self hld, hb']
      · intro p
        rw [addP_mem, hm, mem_take hi'])
  simp only [List.length_map, List.take_length] at hm
  exact ⟨kvs, y, qs, hk, hn, hm, e⟩
/-! ### the corners of cells -/
def cor (c : Pt) : List Pt := [c, (c.1, c.2 + 1), (c.1 + 1, c.2), (c.1 + 1, c.2 + 1)]
end Ev

/-! The same language over plain trees: lists and dicts are values, an owner may change its own. -/
namespace Ev
open PySem

inductive T where
  | non | bl (b : Bool) | int (i : Int) | str (x : Str) | tup (ts : List T) | lst (ts : List T) | dct (kvs : List (T × T)) | scr (ns : List Int)
  deriving Inhabited
namespace T
mutual
def beq : T → T → Bool
  | .non, .non => true
  | .bl a, .bl b => a == b
  | .int a, .int b => decide (a = b)
  | .str a, .str b => decide (a = b)
  | .tup a, .tup b => beqs a b
  | .lst a, .lst b => beqs a b
  | .dct a, .dct b => beqk a b
  | .scr a, .scr b => decide (a = b)
  | _, _ => false
def beqs : List T → List T → Bool
  | [], [] => true
  | a :: as, b :: bs => beq a b && beqs as bs
  | _, _ => false
def beqk : List (T × T) → List (T × T) → Bool
  | [], [] => true
  | (a, x) :: as, (b, y) :: bs => beq a b && (beq x y && beqk as bs)
  | _, _ => false
end
mutual
theorem beq_self : ∀ a : T, beq a a = true
  | .non => rfl
  | .bl _ => by simp [beq]
  | .int _ => by simp [beq]
  | .str _ => by simp [beq]
  | .scr _ => by simp [beq]
  | .tup a => by rw [beq]; exact beqs_self a
  | .lst a => by rw [beq]; exact beqs_self a
  | .dct a => by rw [beq]; exact beqk_self a
theorem beqs_self : ∀ a : List T, beqs a a = true
  | [] => rfl
  | a :: as => by rw [beqs, beq_self a, beqs_self as]; rfl
theorem beqk_self : ∀ a : List (T × T), beqk a a = true
  | [] => rfl
  | (a, x) :: as => by rw [beqk, beq_self a, beq_self x, beqk_self as]; rfl
end
mutual
theorem eq_of : ∀ a b : T, beq a b = true → a = b
  | .non, b, h => by cases b <;> simp [beq] at h; rfl
  | .bl a, b, h => by cases b <;> simp [beq] at h; rw [h]
  | .int a, b, h => by cases b <;> simp [beq] at h; rw [h]
  | .str a, b, h => by cases b <;> simp [beq] at h; rw [h]
  | .scr a, b, h => by cases b <;> simp [beq] at h; rw [h]
  | .tup a, b, h => by
    cases b <;> simp [beq] at h
    rw [eqs_of a _ h]
  | .lst a, b, h => by
    cases b <;> simp [beq] at h
    rw [eqs_of a _ h]
  | .dct a, b, h => by
    cases b <;> simp [beq] at h
    rw [eqk_of a _ h]
theorem eqs_of : ∀ a b : List T, beqs a b = true → a = b
  | [], b, h => by cases b <;> simp [beqs] at h; rfl
  | a :: as, b, h => by
    cases b with
    | nil => simp [beqs] at h
    | cons b bs =>
      rw [beqs, Bool.and_eq_true] at h
      rw [eq_of a b h.1, eqs_of as bs h.2]
theorem eqk_of : ∀ a b : List (T × T), beqk a b = true → a = b
  | [], b, h => by cases b <;> simp [beqk] at h; rfl
  | (a, x) :: as, b, h => by
    cases b with
    | nil => simp [beqk] at h
    | cons b bs =>
      obtain ⟨b, y⟩ := b
      rw [beqk, Bool.and_eq_true, Bool.and_eq_true] at h
      rw [eq_of a b h.1, eq_of x y h.2.1, eqk_of as bs h.2.2]
end
instance : DecidableEq T := fun a b => if h : beq a b = true then .isTrue (eq_of a b h) else .isFalse fun e => h (e ▸ beq_self a)
end T
mutual
/-- no list, no dict in it -/
def flat : T → Bool
  | .tup ts => flats ts
  | .lst _ => false
  | .dct _ => false
  | .scr _ => false
  | _ => true
def flats : List T → Bool
  | [] => true
  | t :: ts => flat t && flats ts
end
/-- a slot: owned, owned and walked, lent to be changed, lent to be read, shared -/
inductive VS where
  | s (t : T) | l (t : T) | m (t : T) | r (t : T) | b (t : T)
  deriving Inhabited
def VS.t : VS → T
  | .s t => t | .l t => t | .m t => t | .r t => t | .b t => t
/-- changed -/
def VS.mut : VS → T → Option VS
  | .s _, t => some (.s t)
  | .m _, t => some (.m t)
  | _, _ => none
abbrev VEn := List (Option VS)
/-- a value (is it new?), or what a slot holds -/
inductive Opd where
  | v (t : T) (fr : Bool) | p (i : Nat)
inductive VR (α : Type) where
  | ok (a : α) (env : VEn)
  | exc (c : Nat) (fs : List T) (env : VEn)
  | bad
namespace VR
def bind {α β : Type} (r : VR α) (f : α → VEn → VR β) : VR β := match r with
  | .ok a env => f a env
  | .exc c fs env => .exc c fs env
  | .bad => .bad
def of {α : Type} (o : Option α) (env : VEn) : VR α := match o with
  | some a => .ok a env
  | none => .bad
end VR
inductive VFl where
  | nx (env : VEn)
  | ct (env : VEn)
  | rt (t : T) (fr : Bool) (env : VEn)
  | exc (c : Nat) (fs : List T) (env : VEn)
  | bad
def VR.fl {α : Type} (r : VR α) (f : α → VEn → VFl) : VFl := match r with
  | .ok a env => f a env
  | .exc c fs env => .exc c fs env
  | .bad => .bad
def VFl.andThen (r : VFl) (k : VEn → VFl) : VFl := match r with
  | .nx env => k env
  | r => r
def VFl.turn (r : VFl) (k : VEn → VFl) : VFl := match r with
  | .nx env => k env
  | .ct env => k env
  | r => r
/-- how an argument is handed over: shared, to be read, to be changed -/
inductive Mode where
  | sh | rd | io
  deriving DecidableEq
inductive VOut where
  | ok (t : T) (fr : Bool) (outs : List T)
  | exc (c : Nat) (fs : List T) (outs : List T)
  | bad

/-! ### data -/
def seqT : T → Option (List T)
  | .tup ts => some ts
  | .lst ts => some ts
  | .scr ns => some (ns.map .int)
  | _ => none
def lisT : T → Option (List T)
  | .lst ts => some ts
  | .scr ns => some (ns.map .int)
  | _ => none
def dctT : T → Option (List (T × T))
  | .dct kvs => some kvs
  | _ => none
mutual
def tP : Nat → T → Option PyData
  | _, .non => some .none
  | _, .bl b => some (.bool b)
  | _, .int i => some (.int i)
  | _, .str x => if PyData.strOk x then some (.str x) else none
  | n + 1, .tup ts => (tPs n ts).map .tuple
  | n + 1, .lst ts => (tPs n ts).map .list
  | n + 1, .scr ns => some (.list (ns.map .int))
  | _, .dct _ => none
  | 0, _ => none
def tPs : Nat → List T → Option (List PyData)
  | _, [] => some []
  | n, t :: ts => match tP n t, tPs n ts with
    | some x, some xs => some (x :: xs)
    | _, _ => none
end
def eqT (x y : T) : Option Bool := match tP deep x, tP deep y with
  | some a, some b => some (PyData.eqv a b)
  | _, _ => none
def ltT (x y : T) : Option Bool := match tP deep x, tP deep y with
  | some a, some b => if W.alike a b = true ∧ x ≠ .non then some (W.dataLt a b) else none
  | _, _ => none
mutual
def inKeyT : Nat → T → Bool
  | _, .int _ => true
  | _, .str _ => true
  | n + 1, .tup ts => inKeysT n ts
  | _, _ => false
def inKeysT : Nat → List T → Bool
  | _, [] => true
  | n, t :: ts => inKeyT n t && inKeysT n ts
end
def isKeyT : T → Bool
  | .tup ts => inKeysT 7 ts
  | _ => false
def tGet (kvs : List (T × T)) (k : T) : Option T := (kvs.find? fun p => decide (p.1 = k)).map (·.2)
def tSet (kvs : List (T × T)) (k v : T) : List (T × T) :=
  if kvs.any (fun p => decide (p.1 = k)) then kvs.map (fun p => if p.1 = k then (p.1, v) else p) else kvs ++ [(k, v)]
def tDel (kvs : List (T × T)) (k : T) : List (T × T) := kvs.filter fun p => decide (p.1 ≠ k)
def inT (x y : T) : Option Bool := match dctT y with
  | some kvs => if isKeyT x then some (tGet kvs x).isSome else none
  | none => match tP deep x, (seqT y).bind (tPs deep) with
    | some a, some bs => some (bs.any fun z => PyData.eqv z a)
    | _, _ => none
def sortT (xs : List T) : Option (List T) := match tPs deep xs with
  | some ps => if allAlike ps && sortable ps then some (xs.mergeSort (W.dataLe false fun d => (tP deep d).getD .none)) else none
  | none => none
def okL (xs : List T) : Option (T × Bool) := if xs.length ≤ line then some (.lst xs, true) else none
def binP (op : Operator) (i j : Int) : Option Int := match op with
  | .Add => some (i + j)
  | .Sub => some (i - j)
  | .Mult => if mulOk i j then some (i * j) else none
  | .FloorDiv => if divOk j then some (i / j) else none
  | .Mod => if 0 < j then some (i % j) else none
  | .Pow => if powOk i j then some (i ^ j.toNat) else none
  | .LShift => if powOk i j then some (i * 2 ^ j.toNat) else none
  | .RShift => if 0 ≤ j then some (i / 2 ^ j.toNat) else none
  | .BitAnd => some (Builtin.bitAnd i j)
  | .BitOr => some (Builtin.bitOr i j)
  | .BitXor => some (Builtin.bitXor i j)
  | _ => none
def binT (op : Operator) (x y : T) : Option (T × Bool) := match x, y with
  | .int i, .int j => (binP op i j).map fun k => (.int k, false)
  | .lst xs, .int n => match op with
    | .Mult => if xs.length * n.toNat ≤ line ∧ -(2 ^ 63) ≤ n ∧ n < 2 ^ 63 then okL (List.replicate n.toNat xs).flatten else none
    | _ => none
  | _, _ => match op, lisT x, lisT y with
    | .Add, some xs, some ys => okL (xs ++ ys)
    | _, _, _ => none
def int2 : T → T → Option (Int × Int)
  | .int i, .int j => some (i, j)
  | _, _ => none
def cmpT (op : CmpOp) (x y : T) : Option Bool := match op with
  | .Eq => eqT x y
  | .NotEq => (eqT x y).map (!·)
  | .Lt => ltT x y
  | .In => inT x y
  | .NotIn => (inT x y).map (!·)
  | .Is => if y = .non then some (decide (x = .non)) else none
  | .IsNot => if y = .non then some (!decide (x = .non)) else none
  | .LtE => (int2 x y).map fun q => decide (q.1 ≤ q.2)
  | .Gt => (int2 x y).map fun q => decide (q.2 < q.1)
  | .GtE => (int2 x y).map fun q => decide (q.2 ≤ q.1)
def tyT : T → Option Ty
  | .bl _ => some .bool
  | .int _ => some .int
  | .str _ => some .str
  | .tup _ => some .tuple
  | .lst _ => some .list
  | .scr _ => some .list
  | _ => none
def isiT (x : T) (t : Ty) : Option Bool := match x with
  | .non => some false
  | _ => (tyT x).map fun u => decide (u = t) || (decide (u = .bool) && decide (t = .int))
def itemT (xs : List T) (i : Int) : Option T := (place xs.length i).bind fun j => xs[j]?
def ixT (x y : T) : Option T := match dctT x with
  | some kvs => if isKeyT y then tGet kvs y else none
  | none => match y with
    | .int i => match x with
      | .str z => if z.length ≤ line then (place z.cps.toList.length i).bind fun j => (z.cps.toList[j]?).map fun c => .str ⟨#[c]⟩ else none
      | _ => (seqT x).bind fun xs => itemT xs i
    | _ => none
def cutL (xs : List T) (lo hi : Option Int) : List T := (xs.drop (sIx xs.length 0 lo)).take (sIx xs.length xs.length hi - sIx xs.length 0 lo)
def slT (x : T) (lo hi : Option Int) : Option T := (lisT x).map fun xs => .lst (cutL xs lo hi)
def intsT : List T → Option (List Int)
  | [] => some []
  | .int i :: r => (intsT r).map (i :: ·)
  | _ => none
def biT (f : Bi) (ts : List T) : Option (T × Bool) := match f, ts with
  | .len, [.str z] => if z.length ≤ line then some (.int z.length, false) else none
  | .len, [x] => match dctT x with
    | some kvs => some (.int kvs.length, false)
    | none => (seqT x).map fun xs => (.int xs.length, false)
  | .abs, [.int i] => some (.int (if i < 0 then -i else i), false)
  | .min1, [x] => (((lisT x).bind intsT).bind least).map fun m => (.int m, false)
  | .max1, [x] => (((lisT x).bind intsT).bind most).map fun m => (.int m, false)
  | .min2, [x, y] => (ltT y x).map fun b => (if b = true then y else x, false)
  | .max2, [x, y] => (ltT x y).map fun b => (if b = true then y else x, false)
  | .int, [.int i] => some (.int i, false)
  | .int, [.bl b] => some (.int (if b = true then 1 else 0), false)
  | .sorted, [x] => match dctT x with
    | some kvs => (sortT (kvs.map (·.1))).bind okL
    | none => ((lisT x).bind sortT).bind okL
  | .list, [x] => (seqT x).bind okL
  | .tuple, [x] => (seqT x).map fun xs => (.tup xs, false)
  | .sum, [x] => ((lisT x).bind intsT).map fun ns => (.int ns.sum, false)
  | .divmod, [.int i, .int j] => if divOk j then some (.tup [.int (i / j), .int (i % j)], false) else none
  | _, _ => none
/-- a method: its answer, what the object is behind it -/
def mtT (m : Mt) (x : T) (ts : List T) : Option (T × T) := match m, x, ts with
  | .append, .lst xs, [y] => if xs.length < line then some (.non, .lst (xs ++ [y])) else none
  | .clear, .lst _, [] => some (.non, .lst [])
  | .pop0, .lst xs, [] => (xs[xs.length - 1]?).map fun y => (y, .lst xs.dropLast)
  | .pop1, .lst xs, [.int i] => (place xs.length i).bind fun j => (xs[j]?).map fun y => (y, .lst (xs.eraseIdx j))
  | .pop1, .dct kvs, [k] => if isKeyT k then (tGet kvs k).map fun v => (v, .dct (tDel kvs k)) else none
  | .get1, .dct kvs, [k] => if isKeyT k then some ((tGet kvs k).getD .non, .dct kvs) else none
  | .get2, .dct kvs, [k, y] => if isKeyT k then some ((tGet kvs k).getD y, .dct kvs) else none
  | .setdef, .dct kvs, [k, y] => if isKeyT k && decide (kvs.length < line) then match tGet kvs k with
    | some v => some (v, .dct kvs)
    | none => some (y, .dct (tSet kvs k y))
    else none
  | _, _, _ => none
/-- list or dict -/
def kT : T → Option Kd
  | .lst _ => some .l
  | .dct _ => some .d
  | _ => none
/-- what it is, if it has the method -/
def kM (m : Mt) (t : T) : Option Kd := match kT t with
  | some k => if mtOk k m then some k else none
  | none => none
/-- does it change its object? -/
def mtMut : Mt → Bool
  | .get1 => false
  | .get2 => false
  | _ => true
def putT (x i v : T) : Option T := match x with
  | .lst xs => match i with
    | .int k => (place xs.length k).map fun j => .lst (xs.set j v)
    | _ => none
  | .dct kvs => if isKeyT i && decide (kvs.length < line) then some (.dct (tSet kvs i v)) else none
  | _ => none

/-! ### slots -/
def lk (env : VEn) (i : Nat) : Option VS := (env[i]?).join
def ldV (env : VEn) (i : Nat) : VR Opd := match lk env i with
  | some (.b t) => .ok (.v t false) env
  | some _ => .ok (.p i) env
  | none => .bad
def peek (env : VEn) : Opd → Option T
  | .v t _ => some t
  | .p i => (lk env i).map VS.t
/-- as a value that others may hold from now on -/
def take (env : VEn) : Opd → VR T
  | .v t _ => .ok t env
  | .p i => match lk env i with
    | some (.s t) => .ok t (env.set i (some (.b t)))
    | some (.r t) => if flat t then .ok t env else .bad
    | _ => .bad
/-- x = .. : what is lent to be changed keeps its name -/
def stV (env : VEn) (i : Nat) (x : VS) : Option VEn := match lk env i with
  | some (.m _) => none
  | _ => some (env.set i (some x))
mutual
def bindV : Tg → T → VEn → Option VEn
  | .nm i, t, env => stV env i (.b t)
  | .tp ts, t, env => match seqT t with
    | some xs => if xs.length = ts.length then bindVs ts xs env else none
    | none => none
def bindVs : List Tg → List T → VEn → Option VEn
  | [], _, env => some env
  | t :: ts, x :: xs, env => (bindV t x env).bind (bindVs ts xs)
  | _ :: _, [], _ => none
end
def wipeV (env : VEn) : List Nat → VEn
  | [] => env
  | v :: vs => (wipeV env vs).set v none
/-- the slots vs as they were in env -/
def backV (env : VEn) (env' : VEn) : List Nat → VEn
  | [] => env'
  | v :: vs => (backV env env' vs).set v (lk env v)
/-- what is walked: its items, the slots that stand still meanwhile -/
structure ItT where
  xs : List T
  lks : List Nat
def lockV (env : VEn) (o : Opd) (f : T → Option (List T)) : VR ItT := match o with
  | .v t _ => (VR.of (f t) env).bind fun xs env => .ok ⟨xs, []⟩ env
  | .p i => match lk env i with
    | some (.s t) => (VR.of (f t) env).bind fun xs env => .ok ⟨xs, [i]⟩ (env.set i (some (.l t)))
    | some (.r t) => (VR.of (f t) env).bind fun xs env => .ok ⟨xs, []⟩ env
    | some (.l t) => (VR.of (f t) env).bind fun xs env => .ok ⟨xs, []⟩ env
    | _ => .bad
def unlock (env : VEn) : List Nat → VEn
  | [] => env
  | i :: is => match lk (unlock env is) i with
    | some (.l t) => (unlock env is).set i (some (.s t))
    | _ => unlock env is
def rangeT (lo hi : Int) : Option (List T) :=
  if -lineR ≤ lo ∧ lo < lineR ∧ -lineR ≤ hi ∧ hi < lineR then some ((List.range (hi - lo).toNat).map fun k => .int (lo + (k : Nat))) else none
def enumT (xs : List T) : List T := (List.range xs.length).zipWith (fun k d => .tup [.int (k : Nat), d]) xs
def zipT (xs ys : List T) : List T := xs.zipWith (fun a b => .tup [a, b]) ys

/-! ### loops -/
def loopV (t : Tg) (body : VEn → VFl) : List T → VEn → VFl
  | [], env => .nx env
  | x :: xs, env => match bindV t x env with
    | some env1 => (body env1).turn (loopV t body xs)
    | none => .bad
def loopVC (own : List Nat) (t : Tg) (test : VEn → VR Bool) (elt : VEn → VR T) : List T → VEn → VR (List T)
  | [], env => .ok [] env
  | x :: xs, env => match bindV t x (wipeV env own) with
    | some env1 => (test env1).bind fun b env2 =>
        if b = true then (elt env2).bind fun y env3 => (loopVC own t test elt xs env3).bind fun ys env4 => .ok (y :: ys) env4
        else loopVC own t test elt xs env2
    | none => .bad
def loopVW (test : VEn → VR Bool) (body : VEn → VFl) : Nat → VEn → VFl
  | 0, _ => .bad
  | n + 1, env => (test env).fl fun b env1 => if b = true then (body env1).turn (loopVW test body n) else .nx env1
/-- a comprehension's own names hold nothing of one's own -/
def ownOk (env : VEn) : List Nat → Bool
  | [] => true
  | v :: vs => (match lk env v with
    | none => true
    | some (.b _) => true
    | _ => false) && ownOk env vs
/-- an exception does not leave a comprehension -/
def VR.calm {α : Type} (r : VR α) : VR α := match r with
  | .exc _ _ _ => .bad
  | r => r

/-! ### calls -/
abbrev VCalls := Nat → List T → VOut
structure VCl where
  ms : Nat → List Mode
  go : VCalls
inductive Arg where
  | v (t : T) | p (i : Nat) | n (t : T)
def argsT (env : VEn) : List Arg → Option (List T)
  | [] => some []
  | .v t :: as => (argsT env as).map (t :: ·)
  | .n t :: as => (argsT env as).map (t :: ·)
  | .p i :: as => match lk env i, argsT env as with
    | some x, some ts => some (x.t :: ts)
    | _, _ => none
def argSlots : List Arg → List Nat
  | [] => []
  | .p i :: as => i :: argSlots as
  | _ :: as => argSlots as
def ioSlots : List Mode → List Arg → List Nat
  | .io :: ms, .p i :: as => i :: ioSlots ms as
  | _ :: ms, _ :: as => ioSlots ms as
  | _, _ => []
def isMut : Option VS → Bool
  | some (.s _) => true
  | some (.m _) => true
  | _ => false
/-- what is lent to be changed is one's own, and lent once -/
def argsOk : List Mode → List Arg → VEn → Bool
  | .sh :: ms, .v _ :: as, env => argsOk ms as env
  | .rd :: ms, .v _ :: as, env => argsOk ms as env
  | .rd :: ms, .p i :: as, env => !(ioSlots ms as).contains i && argsOk ms as env
  | .io :: ms, .p i :: as, env => isMut (lk env i) && (!(argSlots as).contains i && argsOk ms as env)
  | .io :: ms, .n _ :: as, env => as.isEmpty && argsOk ms as env
  | [], [], _ => true
  | _, _, _ => false
/-- what came of the lent ones -/
def giveBack (ms : List Mode) (as : List Arg) (outs : List T) (env : VEn) : Option VEn := match ms, as, outs with
  | .io :: ms, .p i :: as, t :: outs => match lk env i with
    | some x => match x.mut t with
      | some y => giveBack ms as outs (env.set i (some y))
      | none => none
    | none => none
  | .io :: ms, .n _ :: as, _ :: outs => giveBack ms as outs env
  | .io :: _, _ :: _, _ => none
  | _ :: ms, _ :: as, outs => giveBack ms as outs env
  | [], [], [] => some env
  | _, _, _ => none
def callV (cl : VCl) (f : Nat) (ms : List Mode) (as : List Arg) (env : VEn) : VR Opd :=
  if argsOk ms as env then match argsT env as with
    | some ts => match cl.go f ts with
      | .ok t fr outs => match giveBack ms as outs env with
        | some env' => .ok (.v t fr) env'
        | none => .bad
      | .exc c fs outs => match giveBack ms as outs env with
        | some env' => .exc c fs env'
        | none => .bad
      | .bad => .bad
    | none => .bad
  else .bad

/-! ### the evaluator -/
def cstT : D → Option T
  | .non => some .non
  | .bl b => some (.bl b)
  | .int i => some (.int i)
  | .str x => some (.str x)
  | _ => none
def asBo (env : VEn) (o : Opd) : VR Bool := match peek env o with
  | some (.bl b) => .ok b env
  | _ => .bad
def asIn (env : VEn) (o : Opd) : VR Int := match peek env o with
  | some (.int i) => .ok i env
  | _ => .bad
def isVar : E → Option Nat
  | .var i => some i
  | _ => none
/-- one argument by its mode -/
def argV (md : Mode) (o : Opd) (env : VEn) : VR Arg := match md, o with
  | .sh, o => (take env o).bind fun t env => .ok (.v t) env
  | .rd, .v t _ => .ok (.v t) env
  | .rd, .p i => .ok (.p i) env
  | .io, .v t fr => if fr = true then .ok (.n t) env else .bad
  | .io, .p i => match lk env i with
    | some (.s _) => .ok (.p i) env
    | some (.m _) => .ok (.p i) env
    | _ => .bad
mutual
def vE (cl : VCl) : E → VEn → VR Opd
  | .var i, env => ldV env i
  | .cst c, env => (VR.of (cstT c) env).bind fun t env => .ok (.v t false) env
  | .tup es, env => (vTs cl es env).bind fun ts env => if ts.length ≤ line then .ok (.v (.tup ts) false) env else .bad
  | .lst es, env => (vTs cl es env).bind fun ts env => (VR.of (okL ts) env).bind fun q env => .ok (.v q.1 q.2) env
  | .dct0, env => .ok (.v (.dct []) true) env
  | .dct1 k v, env => (vE cl k env).bind fun o env => (take env o).bind fun x env => (vE cl v env).bind fun o env => (take env o).bind fun y env => if isKeyT x then .ok (.v (.dct [(x, y)]) true) env else .bad
  | .bin op a b, env => (vE cl a env).bind fun x env => (vE cl b env).bind fun y env => (VR.of (peek env x) env).bind fun x env => (VR.of (peek env y) env).bind fun y env => (VR.of (binT op x y) env).bind fun q env => .ok (.v q.1 q.2) env
  | .neg a, env => (vE cl a env).bind fun o env => (asIn env o).bind fun i env => .ok (.v (.int (-i)) false) env
  | .not a, env => (vE cl a env).bind fun o env => (asBo env o).bind fun b env => .ok (.v (.bl (!b)) false) env
  | .cmp op a b, env => (vE cl a env).bind fun x env => (vE cl b env).bind fun y env => (VR.of (peek env x) env).bind fun x env => (VR.of (peek env y) env).bind fun y env => (VR.of (cmpT op x y) env).bind fun b env => .ok (.v (.bl b) false) env
  | .chn op op' a b c, env => (vE cl a env).bind fun x env => (vE cl b env).bind fun y env => (VR.of (peek env x) env).bind fun tx env => (VR.of (peek env y) env).bind fun ty env => (VR.of (cmpT op tx ty) env).bind fun k env =>
      if k = true then (vE cl c env).bind fun z env => (VR.of (peek env y) env).bind fun ty env => (VR.of (peek env z) env).bind fun tz env => (VR.of (cmpT op' ty tz) env).bind fun k env => .ok (.v (.bl k) false) env else .ok (.v (.bl false) false) env
  | .bop op es, env => vB cl op es env
  | .ite c a b, env => (vE cl c env).bind fun o env => (asBo env o).bind fun k env => if k = true then vE cl a env else vE cl b env
  | .fn f es, env => (vA cl (cl.ms f) es env).bind fun as env => callV cl f (cl.ms f) as env
  | .bi f es, env => match f with
    | .min2 => (vTs cl es env).bind fun ts env => (VR.of (biT f ts) env).bind fun q env => .ok (.v q.1 q.2) env
    | .max2 => (vTs cl es env).bind fun ts env => (VR.of (biT f ts) env).bind fun q env => .ok (.v q.1 q.2) env
    | _ => (vPs cl es env).bind fun os env => (VR.of (os.mapM (peek env)) env).bind fun ts env => (VR.of (biT f ts) env).bind fun q env => .ok (.v q.1 q.2) env
  | .mt m o es, env => if mtMut m then match isVar o with
      | some i => (VR.of (lk env i) env).bind fun x0 env => (VR.of (x0.mut x0.t) env).bind fun _ env => (VR.of (kM m x0.t) env).bind fun kd env => (vTs cl es env).bind fun ts env => (VR.of (lk env i) env).bind fun x env => if kM m x.t = some kd then (VR.of (mtT m x.t ts) env).bind fun q env => (VR.of (x.mut q.2) env).bind fun y env => .ok (.v q.1 false) (env.set i (some y)) else .bad
      | none => .bad
    else (vE cl o env).bind fun x env => (VR.of (peek env x) env).bind fun t0 env => (VR.of (kM m t0) env).bind fun kd env => (vTs cl es env).bind fun ts env => (VR.of (peek env x) env).bind fun t env => if kM m t = some kd then (VR.of (mtT m t ts) env).bind fun q env => .ok (.v q.1 false) env else .bad
  | .ix a b, env => (vE cl a env).bind fun x env => (vE cl b env).bind fun y env => (VR.of (peek env x) env).bind fun x env => (VR.of (peek env y) env).bind fun y env => (VR.of (ixT x y) env).bind fun t env => .ok (.v t false) env
  | .sl a lo hi, env => (vE cl a env).bind fun x env => (vO cl lo env).bind fun l env => (vO cl hi env).bind fun h env => (VR.of (peek env x) env).bind fun x env => (VR.of (slT x l h) env).bind fun t env => .ok (.v t true) env
  | .isi a t, env => (vE cl a env).bind fun x env => (VR.of (peek env x) env).bind fun x env => (VR.of (isiT x t) env).bind fun b env => .ok (.v (.bl b) false) env
  | .lc own tg it ifs elt, env => (vI cl it env).bind fun w env1 => if !(ownOk env1 own && (tgSlots tg).all fun i => own.contains i) then .bad else ((loopVC own tg (fun env => vTest cl ifs env) (fun env => (vE cl elt env).bind fun o env => take env o) w.xs env1).calm).bind fun ys env2 => (VR.of (okL ys) (unlock (backV env1 env2 own) w.lks)).bind fun q env => .ok (.v q.1 q.2) env
/-- values -/
def vTs (cl : VCl) : List E → VEn → VR (List T)
  | [], env => .ok [] env
  | e :: es, env => (vE cl e env).bind fun o env => (take env o).bind fun t env => (vTs cl es env).bind fun ts env => .ok (t :: ts) env
/-- to be read -/
def vPs (cl : VCl) : List E → VEn → VR (List Opd)
  | [], env => .ok [] env
  | e :: es, env => (vE cl e env).bind fun o env => (vPs cl es env).bind fun os env => .ok (o :: os) env
def vA (cl : VCl) : List Mode → List E → VEn → VR (List Arg)
  | [], [], env => .ok [] env
  | md :: mds, e :: es, env => (vE cl e env).bind fun o env => (argV md o env).bind fun a env => (vA cl mds es env).bind fun as env => .ok (a :: as) env
  | _, _, _ => .bad
def vO (cl : VCl) : Option E → VEn → VR (Option Int)
  | none, env => .ok none env
  | some e, env => (vE cl e env).bind fun o env => (asIn env o).bind fun i env => .ok (some i) env
def vB (cl : VCl) : BoolOp → List E → VEn → VR Opd
  | _, [], _ => .bad
  | op, e :: es, env => (vE cl e env).bind fun o env => (asBo env o).bind fun b env => match es, op with
    | [], _ => .ok (.v (.bl b) false) env
    | _ :: _, .And => if b = true then vB cl op es env else .ok (.v (.bl false) false) env
    | _ :: _, .Or => if b = true then .ok (.v (.bl true) false) env else vB cl op es env
def vTest (cl : VCl) : List E → VEn → VR Bool
  | [], env => .ok true env
  | [e], env => (vE cl e env).bind fun o env => asBo env o
  | _, _ => .bad
def vI (cl : VCl) : I → VEn → VR ItT
  | .seq e, env => (vE cl e env).bind fun o env => lockV env o seqT
  | .rng1 a, env => (vE cl a env).bind fun o env => (asIn env o).bind fun i env => (VR.of (rangeT 0 i) env).bind fun xs env => .ok ⟨xs, []⟩ env
  | .rng2 a b, env => (vE cl a env).bind fun x env => (vE cl b env).bind fun y env => (asIn env x).bind fun i env => (asIn env y).bind fun j env => (VR.of (rangeT i j) env).bind fun xs env => .ok ⟨xs, []⟩ env
  | .enm a, env => (vE cl a env).bind fun o env => (lockV env o lisT).bind fun w env => .ok ⟨enumT w.xs, w.lks⟩ env
  | .zip a b, env => (vE cl a env).bind fun x env => (vE cl b env).bind fun y env => (lockV env x lisT).bind fun w env => (lockV env y lisT).bind fun w' env => .ok ⟨zipT w.xs w'.xs, w.lks ++ w'.lks⟩ env
  | .itm _, _ => .bad
end
/-! ### statements -/
def qV (c : Nat) (env : VEn) : QE → Option T
  | .int i => some (.int i)
  | .bl b => some (.bl b)
  | .var i => match lk env i with
    | some (.b t) => if flat t then some t else none
    | _ => none
  | .isx cs => some (.bl (cs.any (xis c)))
  | .toI a => match qV c env a with
    | some (.bl b) => some (.int (if b = true then 1 else 0))
    | _ => none
  | .add a b => match qV c env a, qV c env b with
    | some (.int i), some (.int j) => some (.int (i + j))
    | _, _ => none
  | .mul a b => match qV c env a, qV c env b with
    | some (.int i), some (.int j) => if mulOk i j then some (.int (i * j)) else none
    | _, _ => none
  | .or a b => match qV c env a, qV c env b with
    | some (.bl i), some (.bl j) => some (.bl (i || j))
    | _, _ => none
mutual
def qVS (c : Nat) : QS → VEn → VFl
  | .asg i e, env => match qV c env e with
    | some t => match stV env i (.b t) with
      | some env' => .nx env'
      | none => .bad
    | none => .bad
  | .ite t a, env => match qV c env t with
    | some (.bl b) => if b = true then qVSs c a env else .nx env
    | _ => .bad
  | .ret e, env => match qV c env e with
    | some t => .rt t false env
    | none => .bad
  | .retN, env => .rt .non false env
def qVSs (c : Nat) : List QS → VEn → VFl
  | [], env => .nx env
  | s :: ss, env => (qVS c s env).andThen (qVSs c ss)
end
def wipeOV (env : VEn) : Option Nat → Option VEn
  | some i => match lk env i with
    | some (.m _) => none
    | _ => if i < env.length then some (env.set i none) else none
  | none => some env
def VFl.gone (n : Option Nat) (r : VFl) : VFl := match r with
  | .nx env => match wipeOV env n with
    | some env => .nx env
    | none => .bad
  | .rt t fr env => .rt t fr env
  | _ => .bad
def handleV (c : Nat) (fs : List T) (env : VEn) : List Hd → VFl
  | [] => .exc c fs env
  | h :: hs => if xsub c h.c then match wipeOV env h.n with
      | some env => (qVSs c h.b env).gone h.n
      | none => .bad
    else handleV c fs env hs
def VFl.catch (rz : List Nat) (hs : List Hd) (r : VFl) : VFl := match r with
  | .exc c fs env => if rz.contains c && fs.isEmpty then handleV c fs env hs else .bad
  | r => r
/-- x = e -/
def asgV (i : Nat) (o : Opd) (env : VEn) : VFl := match o with
  | .v t fr => match stV env i (if fr = true then .s t else .b t) with
    | some env' => .nx env'
    | none => .bad
  | .p _ => (take env o).fl fun t env => match stV env i (.b t) with
    | some env' => .nx env'
    | none => .bad
def retV (o : Opd) (env : VEn) : VFl := match o with
  | .v t fr => .rt t fr env
  | .p i => match lk env i with
    | some (.s t) => .rt t true (env.set i none)
    | some (.r t) => if flat t then .rt t false env else .bad
    | _ => .bad
mutual
def vS (cl : VCl) (w : Nat) : S → VEn → VFl
  | .asg t e, env => (vE cl e env).fl fun o env => match t with
    | .nm i => asgV i o env
    | .tp ts => (VR.of (peek env o) env).fl fun x env => match bindV (.tp ts) x env with
      | some env' => .nx env'
      | none => .bad
  | .par i j a b, env => (vE cl a env).fl fun x env => (take env x).fl fun x env => (vE cl b env).fl fun y env => (take env y).fl fun y env => match (stV env i (.b x)).bind fun env => stV env j (.b y) with
    | some env' => .nx env'
    | none => .bad
  | .put o i e, env => (vE cl e env).fl fun v env => (take env v).fl fun v env => match isVar o with
    | some j => (VR.of (lk env j) env).fl fun _ env => (vE cl i env).fl fun k env => (take env k).fl fun k env => (VR.of (lk env j) env).fl fun x env => (VR.of (putT x.t k v) env).fl fun t env => (VR.of (x.mut t) env).fl fun y env => .nx (env.set j (some y))
    | none => .bad
  | .aug i op e, env => (ldV env i).fl fun x env => (vE cl e env).fl fun y env => (asIn env x).fl fun a env => (asIn env y).fl fun b env => match op, stV env i (.b (.int (a + b))) with
    | .Add, some env' => .nx env'
    | _, _ => .bad
  | .exp e, env => (vE cl e env).fl fun _ env => .nx env
  | .ite c a b, env => ((vE cl c env).bind fun o env => asBo env o).fl fun k env => if k = true then vSs cl w a env else vSs cl w b env
  | .fo t it b, env => (vI cl it env).fl fun its env => (loopV t (fun env => vSs cl w b env) its.xs env).andThen fun env => .nx (unlock env its.lks)
  | .wh c b, env => loopVW (fun env => (vE cl c env).bind fun o env => asBo env o) (fun env => vSs cl w b env) w env
  | .ret e, env => (vE cl e env).fl fun o env => retV o env
  | .retN, env => .rt .non false env
  | .con, env => .ct env
  | .pas, env => .nx env
  | .rai c es, env => match es with
    | [] => .exc c [] env
    | _ => .bad
  | .tri rz b hs, env => (vSs cl w b env).catch rz hs
def vSs (cl : VCl) (w : Nat) : List S → VEn → VFl
  | [], env => .nx env
  | s :: ss, env => (vS cl w s env).andThen (vSs cl w ss)
end
/-- parameters by their modes -/
def enterM : List Mode → List T → VEn
  | .sh :: ms, t :: ts => some (.b t) :: enterM ms ts
  | .rd :: ms, t :: ts => some (.r t) :: enterM ms ts
  | .io :: ms, t :: ts => some (.m t) :: enterM ms ts
  | _, _ => []
def outsM : List Mode → VEn → Option (List T)
  | [], _ => some []
  | .io :: ms, some (.m t) :: env => (outsM ms env).map (t :: ·)
  | .io :: _, _ => none
  | _ :: ms, _ :: env => outsM ms env
  | _ :: _, [] => none
def VFl.out (ms : List Mode) (r : VFl) : VOut := match r with
  | .nx env => match outsM ms env with
    | some os => .ok .non false os
    | none => .bad
  | .rt t fr env => match outsM ms env with
    | some os => .ok t fr os
    | none => .bad
  | .exc c fs env => match outsM ms env with
    | some os => .exc c fs os
    | none => .bad
  | _ => .bad
def vrun (Tb : List Fn) (ms : List (List Mode)) (w : Nat) : Nat → VCalls
  | 0 => fun _ _ => .bad
  | k + 1 => fun f ts => match Tb[f]? with
    | some F => if ts.length = F.ps ∧ (ms.getD f []).length = F.ps then (vSs ⟨fun f => ms.getD f [], vrun Tb ms w k⟩ w F.body (enterM (ms.getD f []) ts ++ List.replicate (F.ns - ts.length) none)).out (ms.getD f []) else .bad
    | none => .bad
end Ev

/-! Trees and what stands for them in the store. -/
namespace Ev
open PySem

mutual
inductive Un (st : Sto) : D → T → Prop
  | non : Un st .non .non
  | bl (b : Bool) : Un st (.bl b) (.bl b)
  | int (i : Int) : Un st (.int i) (.int i)
  | str (x : Str) : Un st (.str x) (.str x)
  | scr (ns : List Int) : Un st (.scr ns) (.scr ns)
  | tup {ds : List D} {ts : List T} : Uns st ds ts → Un st (.tup ds) (.tup ts)
  | lst {l : Nat} {ds : List D} {ts : List T} : st[l]? = some (.lst ds) → Uns st ds ts → Un st (.ref l) (.lst ts)
  | dct {l : Nat} {kvs : List (D × D)} {tkvs : List (T × T)} : st[l]? = some (.dct kvs) → Unk st kvs tkvs → Un st (.ref l) (.dct tkvs)
inductive Uns (st : Sto) : List D → List T → Prop
  | nil : Uns st [] []
  | cons {d : D} {t : T} {ds : List D} {ts : List T} : Un st d t → Uns st ds ts → Uns st (d :: ds) (t :: ts)
inductive Unk (st : Sto) : List (D × D) → List (T × T) → Prop
  | nil : Unk st [] []
  | cons {k v : D} {tk tv : T} {kvs : List (D × D)} {tkvs : List (T × T)} : Un st k tk → isKey k = true → Un st v tv → Unk st kvs tkvs → Unk st ((k, v) :: kvs) ((tk, tv) :: tkvs)
end
/-- what is come to from a value -/
inductive Hit (st : Sto) : D → Nat → Prop
  | ref {l : Nat} : Hit st (.ref l) l
  | tup {ds : List D} {d : D} {x : Nat} : d ∈ ds → Hit st d x → Hit st (.tup ds) x
  | lst {l : Nat} {ds : List D} {d : D} {x : Nat} : st[l]? = some (.lst ds) → d ∈ ds → Hit st d x → Hit st (.ref l) x
  | dct {l : Nat} {kvs : List (D × D)} {kv : D × D} {x : Nat} : st[l]? = some (.dct kvs) → kv ∈ kvs → Hit st kv.2 x → Hit st (.ref l) x
/-- below an object -/
def objVals : O → List D
  | .lst ds => ds
  | .dct kvs => kvs.map (·.2)
def Low (st : Sto) (l x : Nat) : Prop := ∃ o d, st[l]? = some o ∧ d ∈ objVals o ∧ Hit st d x
theorem Hit.low {st : Sto} {l x : Nat} (h : Hit st (.ref l) x) : x = l ∨ Low st l x := by
  cases h with
  | ref => exact .inl rfl
  | lst h1 h2 h3 => exact .inr ⟨_, _, h1, h2, h3⟩
  | dct h1 h2 h3 => exact .inr ⟨_, _, h1, List.mem_map.mpr ⟨_, h2, rfl⟩, h3⟩
theorem Low.hit {st : Sto} {l x : Nat} (h : Low st l x) : Hit st (.ref l) x := by
  obtain ⟨o, d, h1, h2, h3⟩ := h
  cases o with
  | lst ds => exact .lst h1 h2 h3
  | dct kvs =>
    obtain ⟨kv, h4, rfl⟩ := List.mem_map.mp h2
    exact .dct h1 h4 h3

/-- a part of a value: below the value's own object -/
def Part (st : Sto) (d e : D) : Prop := (∀ x, Hit st e x → Hit st d x) ∧ ∀ l, d = .ref l → ∀ x, Hit st e x → Low st l x
theorem Part.lst {st : Sto} {l : Nat} {ds : List D} {e : D} (h : st[l]? = some (.lst ds)) (he : e ∈ ds) : Part st (.ref l) e := ⟨fun x hx => .lst h he hx, fun l' z x hx => by cases z; exact ⟨_, _, h, he, hx⟩⟩
theorem Part.dct {st : Sto} {l : Nat} {ks : List (D × D)} {kv : D × D} (h : st[l]? = some (.dct ks)) (he : kv ∈ ks) : Part st (.ref l) kv.2 := ⟨fun x hx => .dct h he hx, fun l' z x hx => by cases z; exact ⟨_, _, h, List.mem_map.mpr ⟨_, he, rfl⟩, hx⟩⟩
theorem Part.tup {st : Sto} {ds : List D} {e : D} (he : e ∈ ds) : Part st (.tup ds) e := ⟨fun x hx => .tup he hx, fun l z => by cases z⟩
theorem Part.none {st : Sto} {d e : D} (h : ∀ x, ¬ Hit st e x) : Part st d e := ⟨fun x hx => absurd hx (h x), fun _ _ x hx => absurd hx (h x)⟩
section
variable {st st' : Sto}
theorem Uns.mem_left : ∀ {ds : List D} {ts : List T}, Uns st ds ts → ∀ d ∈ ds, ∃ t ∈ ts, Un st d t
  | _, _, .nil, d, h => by cases h
  | _, _, .cons u us, d, h => by
    rcases List.mem_cons.mp h with rfl | h
    · exact ⟨_, List.mem_cons_self, u⟩
    · obtain ⟨t, h1, h2⟩ := us.mem_left d h
      exact ⟨t, List.mem_cons_of_mem _ h1, h2⟩
theorem Unk.mem_left : ∀ {ds : List (D × D)} {ts : List (T × T)}, Unk st ds ts → ∀ d ∈ ds, ∃ t, Un st d.2 t
  | _, _, .nil, d, h => by cases h
  | _, _, .cons _ _ u us, d, h => by
    rcases List.mem_cons.mp h with rfl | h
    · exact ⟨_, u⟩
    · exact us.mem_left d h
theorem Uns.length : ∀ {ds : List D} {ts : List T}, Uns st ds ts → ds.length = ts.length
  | _, _, .nil => rfl
  | _, _, .cons _ us => by simp [us.length]
theorem Unk.length : ∀ {ds : List (D × D)} {ts : List (T × T)}, Unk st ds ts → ds.length = ts.length
  | _, _, .nil => rfl
  | _, _, .cons _ _ _ us => by simp [us.length]
/-- keys come to nothing -/
theorem key_hit : ∀ (n : Nat) (d : D), inKey n d = true → ∀ x, ¬ Hit st d x := by
  have key : ∀ (n : Nat), (∀ d, inKey n d = true → ∀ x, ¬ Hit st d x) ∧ ∀ ds, inKeys n ds = true → ∀ d ∈ ds, ∀ x, ¬ Hit st d x := by
    intro n
    induction n with
    | zero =>
      have h0 : ∀ d, inKey 0 d = true → ∀ x, ¬ Hit st d x := fun d h x hx => by
        cases hx <;> simp [inKey] at h
      refine ⟨h0, fun ds => ?_⟩
      induction ds with
      | nil => intro _ d hd; cases hd
      | cons e es ih =>
        intro h d hd
        rw [inKeys, Bool.and_eq_true] at h
        rcases List.mem_cons.mp hd with rfl | hd
        · exact h0 _ h.1
        · exact ih h.2 d hd
    | succ n ihn =>
      have h0 : ∀ d, inKey (n + 1) d = true → ∀ x, ¬ Hit st d x := fun d h x hx => by
        cases hx with
        | ref => simp [inKey] at h
        | tup h1 h2 => exact ihn.2 _ (by simpa [inKey] using h) _ h1 x h2
        | lst => simp [inKey] at h
        | dct => simp [inKey] at h
      refine ⟨h0, fun ds => ?_⟩
      induction ds with
      | nil => intro _ d hd; cases hd
      | cons e es ih =>
        intro h d hd
        rw [inKeys, Bool.and_eq_true] at h
        rcases List.mem_cons.mp hd with rfl | hd
        · exact h0 _ h.1
        · exact ih h.2 d hd
  exact fun n d h => (key n).1 d h
theorem isKey_hit {d : D} (h : isKey d = true) (x : Nat) : ¬ Hit st d x := key_hit 8 d (isKey_in h) x
mutual
theorem Un.stay : ∀ {d : D} {t : T}, Un st d t → (∀ x, Hit st d x → st'[x]? = st[x]?) → Un st' d t ∧ ∀ x, Hit st' d x → Hit st d x
  | _, _, .non, _ => ⟨.non, fun x h => by cases h⟩
  | _, _, .bl b, _ => ⟨.bl b, fun x h => by cases h⟩
  | _, _, .int b, _ => ⟨.int b, fun x h => by cases h⟩
  | _, _, .str b, _ => ⟨.str b, fun x h => by cases h⟩
  | _, _, .scr b, _ => ⟨.scr b, fun x h => by cases h⟩
  | _, _, .tup us, k => by
    obtain ⟨a, b⟩ := Uns.stay us fun d hd x hx => k x (.tup hd hx)
    exact ⟨.tup a, fun x h => by cases h with | tup h1 h2 => exact .tup h1 (b _ h1 x h2)⟩
  | _, _, .lst h us, k => by
    obtain ⟨a, b⟩ := Uns.stay us fun d hd x hx => k x (.lst h hd hx)
    have e := (k _ .ref).trans h
    refine ⟨.lst e a, fun x hx => ?_⟩
    cases hx with
    | ref => exact .ref
    | lst h1 h2 h3 =>
      rw [e] at h1; cases h1
      exact .lst h h2 (b _ h2 x h3)
    | dct h1 => rw [e] at h1; cases h1
  | _, _, .dct h us, k => by
    obtain ⟨a, b⟩ := Unk.stay us fun d hd x hx => k x (.dct h hd hx)
    have e := (k _ .ref).trans h
    refine ⟨.dct e a, fun x hx => ?_⟩
    cases hx with
    | ref => exact .ref
    | dct h1 h2 h3 =>
      rw [e] at h1; cases h1
      exact .dct h h2 (b _ h2 x h3)
    | lst h1 => rw [e] at h1; cases h1
theorem Uns.stay : ∀ {ds : List D} {ts : List T}, Uns st ds ts → (∀ d ∈ ds, ∀ x, Hit st d x → st'[x]? = st[x]?) → Uns st' ds ts ∧ ∀ d ∈ ds, ∀ x, Hit st' d x → Hit st d x
  | _, _, .nil, _ => ⟨.nil, fun d h => by cases h⟩
  | _, _, .cons u us, k => by
    obtain ⟨a, b⟩ := Un.stay u fun x hx => k _ List.mem_cons_self x hx
    obtain ⟨c, d⟩ := Uns.stay us fun d hd x hx => k d (List.mem_cons_of_mem _ hd) x hx
    refine ⟨.cons a c, fun e he => ?_⟩
    rcases List.mem_cons.mp he with rfl | he
    · exact b
    · exact d e he
theorem Unk.stay : ∀ {ds : List (D × D)} {ts : List (T × T)}, Unk st ds ts → (∀ d ∈ ds, ∀ x, Hit st d.2 x → st'[x]? = st[x]?) → Unk st' ds ts ∧ ∀ d ∈ ds, ∀ x, Hit st' d.2 x → Hit st d.2 x
  | _, _, .nil, _ => ⟨.nil, fun d h => by cases h⟩
  | _, _, .cons uk hk u us, k => by
    obtain ⟨a, b⟩ := Un.stay u fun x hx => k _ List.mem_cons_self x hx
    obtain ⟨a', b'⟩ := Un.stay uk fun x hx => absurd hx (isKey_hit hk x)
    obtain ⟨c, d⟩ := Unk.stay us fun d hd x hx => k d (List.mem_cons_of_mem _ hd) x hx
    refine ⟨.cons a' hk a c, fun e he => ?_⟩
    rcases List.mem_cons.mp he with rfl | he
    · exact b
    · exact d e he
end
mutual
/-- what is come to stands in the store -/
theorem Un.inside : ∀ {d : D} {t : T}, Un st d t → ∀ x, Hit st d x → x < st.length
  | _, _, .non, x, h => by cases h
  | _, _, .bl b, x, h => by cases h
  | _, _, .int b, x, h => by cases h
  | _, _, .str b, x, h => by cases h
  | _, _, .scr b, x, h => by cases h
  | _, _, .tup us, x, h => by cases h with | tup h1 h2 => exact Uns.inside us _ h1 x h2
  | _, _, .lst h us, x, hx => by
    cases hx with
    | ref => exact (List.getElem?_eq_some_iff.mp h).1
    | lst h1 h2 h3 => rw [h] at h1; cases h1; exact Uns.inside us _ h2 x h3
    | dct h1 => rw [h] at h1; cases h1
  | _, _, .dct h us, x, hx => by
    cases hx with
    | ref => exact (List.getElem?_eq_some_iff.mp h).1
    | dct h1 h2 h3 => rw [h] at h1; cases h1; exact Unk.inside us _ h2 x h3
    | lst h1 => rw [h] at h1; cases h1
theorem Uns.inside : ∀ {ds : List D} {ts : List T}, Uns st ds ts → ∀ d ∈ ds, ∀ x, Hit st d x → x < st.length
  | _, _, .nil, d, hd => by cases hd
  | _, _, .cons u us, d, hd => by
    rcases List.mem_cons.mp hd with rfl | hd
    · exact Un.inside u
    · exact Uns.inside us d hd
theorem Unk.inside : ∀ {ds : List (D × D)} {ts : List (T × T)}, Unk st ds ts → ∀ d ∈ ds, ∀ x, Hit st d.2 x → x < st.length
  | _, _, .nil, d, hd => by cases hd
  | _, _, .cons _ _ u us, d, hd => by
    rcases List.mem_cons.mp hd with rfl | hd
    · exact Un.inside u
    · exact Unk.inside us d hd
end
mutual
theorem Un.flat_hit : ∀ {d : D} {t : T}, Un st d t → flat t = true → ∀ x, ¬ Hit st d x
  | _, _, .non, _, x, h => by cases h
  | _, _, .bl b, _, x, h => by cases h
  | _, _, .int b, _, x, h => by cases h
  | _, _, .str b, _, x, h => by cases h
  | _, _, .scr b, _, x, h => by cases h
  | _, _, .tup us, f, x, h => by cases h with | tup h1 h2 => exact Uns.flat_hit us (by simpa [flat] using f) _ h1 x h2
  | _, _, .lst _ _, f, _, _ => by simp [flat] at f
  | _, _, .dct _ _, f, _, _ => by simp [flat] at f
theorem Uns.flat_hit : ∀ {ds : List D} {ts : List T}, Uns st ds ts → flats ts = true → ∀ d ∈ ds, ∀ x, ¬ Hit st d x
  | _, _, .nil, _, d, hd => by cases hd
  | _, _, .cons u us, f, d, hd => by
    rw [flats, Bool.and_eq_true] at f
    rcases List.mem_cons.mp hd with rfl | hd
    · exact Un.flat_hit u f.1
    · exact Uns.flat_hit us f.2 d hd
end
/-! ### no object comes to itself -/
mutual
def sz : T → Nat
  | .tup ts => 1 + szs ts
  | .lst ts => 1 + szs ts
  | .dct ks => 1 + szk ks
  | _ => 1
def szs : List T → Nat
  | [] => 0
  | t :: ts => sz t + szs ts
def szk : List (T × T) → Nat
  | [] => 0
  | (_, t) :: ts => sz t + szk ts
end
mutual
theorem Un.det : ∀ {d : D} {t t' : T}, Un st d t → Un st d t' → t = t'
  | _, _, _, .non, h => by cases h; rfl
  | _, _, _, .bl b, h => by cases h; rfl
  | _, _, _, .int b, h => by cases h; rfl
  | _, _, _, .str b, h => by cases h; rfl
  | _, _, _, .scr b, h => by cases h; rfl
  | _, _, _, .tup us, h => by cases h with | tup vs => rw [Uns.det us vs]
  | _, _, _, .lst e us, h => by
    cases h with
    | lst e' vs => rw [e] at e'; cases e'; rw [Uns.det us vs]
    | dct e' => rw [e] at e'; cases e'
  | _, _, _, .dct e us, h => by
    cases h with
    | dct e' vs => rw [e] at e'; cases e'; rw [Unk.det us vs]
    | lst e' => rw [e] at e'; cases e'
theorem Uns.det : ∀ {d : List D} {t t' : List T}, Uns st d t → Uns st d t' → t = t'
  | _, _, _, .nil, h => by cases h; rfl
  | _, _, _, .cons u us, h => by cases h with | cons v vs => rw [Un.det u v, Uns.det us vs]
theorem Unk.det : ∀ {d : List (D × D)} {t t' : List (T × T)}, Unk st d t → Unk st d t' → t = t'
  | _, _, _, .nil, h => by cases h; rfl
  | _, _, _, .cons u _ w us, h => by cases h with | cons v _ z vs => rw [Un.det u v, Un.det w z, Unk.det us vs]
end
theorem Uns.small : ∀ {ds : List D} {ts : List T}, Uns st ds ts → ∀ d ∈ ds, ∃ t, Un st d t ∧ sz t ≤ szs ts
  | _, _, .nil, d, h => by cases h
  | _, _, .cons u us, d, h => by
    rcases List.mem_cons.mp h with rfl | h
    · exact ⟨_, u, by rw [szs]; omega⟩
    · obtain ⟨t, h1, h2⟩ := us.small d h
      exact ⟨t, h1, by rw [szs]; omega⟩
theorem Unk.small : ∀ {ds : List (D × D)} {ts : List (T × T)}, Unk st ds ts → ∀ d ∈ ds, ∃ t, Un st d.2 t ∧ sz t ≤ szk ts
  | _, _, .nil, d, h => by cases h
  | _, _, .cons _ _ u us, d, h => by
    rcases List.mem_cons.mp h with rfl | h
    · exact ⟨_, u, by rw [szk]; omega⟩
    · obtain ⟨t, h1, h2⟩ := us.small d h
      exact ⟨t, h1, by rw [szk]; omega⟩
theorem Hit.sub {d : D} {x : Nat} (h : Hit st d x) : ∀ {t : T}, Un st d t → ∃ t', Un st (.ref x) t' ∧ sz t' ≤ sz t := by
  induction h with
  | ref => exact fun u => ⟨_, u, Nat.le_refl _⟩
  | tup h1 h2 ih =>
    intro t u
    cases u with
    | tup us =>
      obtain ⟨t1, q1, q2⟩ := us.small _ h1
      obtain ⟨t2, q3, q4⟩ := ih q1
      exact ⟨t2, q3, by rw [sz]; omega⟩
  | lst e h1 h2 ih =>
    intro t u
    cases u with
    | lst e' us =>
      rw [e] at e'; cases e'
      obtain ⟨t1, q1, q2⟩ := us.small _ h1
      obtain ⟨t2, q3, q4⟩ := ih q1
      exact ⟨t2, q3, by rw [sz]; omega⟩
    | dct e' => rw [e] at e'; cases e'
  | dct e h1 h2 ih =>
    intro t u
    cases u with
    | dct e' us =>
      rw [e] at e'; cases e'
      obtain ⟨t1, q1, q2⟩ := us.small _ h1
      obtain ⟨t2, q3, q4⟩ := ih q1
      exact ⟨t2, q3, by rw [sz]; omega⟩
    | lst e' => rw [e] at e'; cases e'
theorem Un.loopless {l : Nat} {t : T} (u : Un st (.ref l) t) : ¬ Low st l l := by
  rintro ⟨o, d, h1, h2, h3⟩
  cases u with
  | lst e us =>
    rw [e] at h1; cases h1
    obtain ⟨t1, q1, q2⟩ := us.small _ h2
    obtain ⟨t2, q3, q4⟩ := h3.sub q1
    have := q3.det (.lst e us)
    subst this
    rw [sz] at q4
    omega
  | dct e us =>
    rw [e] at h1; cases h1
    obtain ⟨kv, h4, rfl⟩ := List.mem_map.mp h2
    obtain ⟨t1, q1, q2⟩ := us.small _ h4
    obtain ⟨t2, q3, q4⟩ := h3.sub q1
    have := q3.det (.dct e us)
    subst this
    rw [sz] at q4
    omega
/-! ### lists of them -/
theorem Uns.append : ∀ {ds es : List D} {ts us : List T}, Uns st ds ts → Uns st es us → Uns st (ds ++ es) (ts ++ us)
  | _, _, _, _, .nil, h => h
  | _, _, _, _, .cons u v, h => .cons u (v.append h)
theorem Uns.get : ∀ {ds : List D} {ts : List T} {i : Nat} {t : T}, Uns st ds ts → ts[i]? = some t → ∃ d, ds[i]? = some d ∧ Un st d t
  | _, _, _, _, .nil, e => by simp at e
  | _, _, 0, _, .cons u _, e => by simp at e; subst e; exact ⟨_, rfl, u⟩
  | _, _, i + 1, t, .cons _ us, e => by
    obtain ⟨d, h1, h2⟩ := us.get (i := i) (t := t) (by simpa using e)
    exact ⟨d, by simpa using h1, h2⟩
theorem Uns.set {d : D} {t : T} (u : Un st d t) : ∀ {ds : List D} {ts : List T} (i : Nat), Uns st ds ts → Uns st (ds.set i d) (ts.set i t)
  | _, _, _, .nil => .nil
  | _, _, 0, .cons _ us => .cons u us
  | _, _, i + 1, .cons v us => .cons v (us.set u i)
theorem Uns.drop : ∀ {ds : List D} {ts : List T} (n : Nat), Uns st ds ts → Uns st (ds.drop n) (ts.drop n)
  | _, _, 0, h => h
  | _, _, _ + 1, .nil => .nil
  | _, _, n + 1, .cons _ us => us.drop n
theorem Uns.take : ∀ {ds : List D} {ts : List T} (n : Nat), Uns st ds ts → Uns st (ds.take n) (ts.take n)
  | _, _, 0, _ => .nil
  | _, _, _ + 1, .nil => .nil
  | _, _, n + 1, .cons u us => .cons u (us.take n)
theorem Uns.eraseIdx : ∀ {ds : List D} {ts : List T} (i : Nat), Uns st ds ts → Uns st (ds.eraseIdx i) (ts.eraseIdx i)
  | _, _, _, .nil => .nil
  | _, _, 0, .cons _ us => us
  | _, _, i + 1, .cons u us => .cons u (us.eraseIdx i)
theorem Uns.dropLast : ∀ {ds : List D} {ts : List T}, Uns st ds ts → Uns st ds.dropLast ts.dropLast
  | _, _, .nil => .nil
  | _, _, .cons _ .nil => .nil
  | _, _, .cons u (.cons v us) => .cons u (Uns.dropLast (.cons v us))
theorem Uns.ints : ∀ ns : List Int, Uns st (ns.map D.int) (ns.map T.int)
  | [] => .nil
  | n :: ns => .cons (.int n) (Uns.ints ns)
theorem Uns.rep {ds : List D} {ts : List T} (u : Uns st ds ts) : ∀ n : Nat, Uns st (List.replicate n ds).flatten (List.replicate n ts).flatten
  | 0 => .nil
  | n + 1 => by
    rw [List.replicate_succ, List.replicate_succ, List.flatten_cons, List.flatten_cons]
    exact u.append (Uns.rep u n)
end
end Ev

/-! The operators on trees are those on the store. -/
namespace Ev
open PySem

section
variable {st : Sto}
theorem seq_un {d : D} {t : T} {ts : List T} (u : Un st d t) (h : seqT t = some ts) : ∃ ds, seqOf st d = some ds ∧ Uns st ds ts ∧ ∀ e ∈ ds, Part st d e := by
  cases u with
  | non => cases h
  | bl => cases h
  | int => cases h
  | str => cases h
  | scr ns =>
    cases h
    exact ⟨_, rfl, Uns.ints ns, fun e he => Part.none fun x hx => by
      obtain ⟨i, _, rfl⟩ := List.mem_map.mp he
      cases hx⟩
  | tup us => cases h; exact ⟨_, rfl, us, fun e he => .tup he⟩
  | lst hl us => cases h; exact ⟨_, by simp [seqOf, hl], us, fun e he => .lst hl he⟩
  | dct => cases h
theorem lis_un {d : D} {t : T} {ts : List T} (u : Un st d t) (h : lisT t = some ts) : ∃ ds, lisOf st d = some ds ∧ Uns st ds ts ∧ ∀ e ∈ ds, Part st d e := by
  cases u with
  | scr ns =>
    cases h
    exact ⟨_, rfl, Uns.ints ns, fun e he => Part.none fun x hx => by
      obtain ⟨i, _, rfl⟩ := List.mem_map.mp he
      cases hx⟩
  | lst hl us => cases h; exact ⟨_, by simp [lisOf, seqOf, hl], us, fun e he => .lst hl he⟩
  | _ => cases h
theorem dct_un {d : D} {t : T} {kvs : List (T × T)} (u : Un st d t) (h : dctT t = some kvs) : ∃ l ks, d = .ref l ∧ st[l]? = some (.dct ks) ∧ dctOf st d = some ks ∧ Unk st ks kvs := by
  cases u with
  | dct hl us => cases h; exact ⟨_, _, rfl, hl, by simp [dctOf, hl], us⟩
  | _ => cases h
theorem dct_no {d : D} {t : T} (u : Un st d t) (h : dctT t = none) : dctOf st d = none := by
  cases u with
  | dct hl us => cases h
  | lst hl us => simp [dctOf, hl]
  | _ => rfl
mutual
theorem tP_un : ∀ (n : Nat) {d : D} {t : T} {x : PyData}, Un st d t → tP n t = some x → toP st n d = some x
  | n, _, _, _, .non, h => by simp [tP] at h; subst h; simp [toP]
  | n, _, _, _, .bl b, h => by simp [tP] at h; subst h; simp [toP]
  | n, _, _, _, .int b, h => by simp [tP] at h; subst h; simp [toP]
  | n, _, _, _, .str b, h => by simp [tP] at h; obtain ⟨h, rfl⟩ := h; simp [toP, h]
  | 0, _, _, _, .scr b, h => by simp [tP] at h
  | n + 1, _, _, _, .scr b, h => by simp [tP] at h; subst h; simp [toP]
  | 0, _, _, _, .tup us, h => by simp [tP] at h
  | n + 1, _, _, _, .tup us, h => by
    simp [tP] at h
    obtain ⟨xs, e, rfl⟩ := h
    simp [toP, tPs_un n us e]
  | 0, _, _, _, .lst hl us, h => by simp [tP] at h
  | n + 1, _, _, _, .lst hl us, h => by
    simp [tP] at h
    obtain ⟨xs, e, rfl⟩ := h
    simp [toP, hl, tPs_un n us e]
  | n, _, _, _, .dct hl us, h => by cases n <;> simp [tP] at h
theorem tPs_un : ∀ (n : Nat) {ds : List D} {ts : List T} {xs : List PyData}, Uns st ds ts → tPs n ts = some xs → toPs st n ds = some xs
  | n, _, _, _, .nil, h => by simp [tPs] at h; subst h; simp [toPs]
  | n, _, _, _, .cons u us, h => by
    rw [tPs] at h
    split at h
    · rename_i x xs h1 h2
      cases h
      rw [toPs, tP_un n u h1, tPs_un n us h2]
    · cases h
end
mutual
theorem inKey_un : ∀ (n : Nat) {d : D} {t : T}, Un st d t → inKeyT n t = inKey n d
  | n, _, _, .non => by cases n <;> simp [inKey, inKeyT]
  | n, _, _, .bl b => by cases n <;> simp [inKey, inKeyT]
  | n, _, _, .int b => by simp [inKey, inKeyT]
  | n, _, _, .str b => by simp [inKey, inKeyT]
  | n, _, _, .scr b => by cases n <;> simp [inKey, inKeyT]
  | 0, _, _, .tup us => by simp [inKey, inKeyT]
  | n + 1, _, _, .tup us => by simp [inKey, inKeyT, inKeys_un n us]
  | n, _, _, .lst hl us => by cases n <;> simp [inKey, inKeyT]
  | n, _, _, .dct hl us => by cases n <;> simp [inKey, inKeyT]
theorem inKeys_un : ∀ (n : Nat) {ds : List D} {ts : List T}, Uns st ds ts → inKeysT n ts = inKeys n ds
  | n, _, _, .nil => by simp [inKeys, inKeysT]
  | n, _, _, .cons u us => by simp [inKeys, inKeysT, inKey_un n u, inKeys_un n us]
end
theorem isKey_un {d : D} {t : T} (u : Un st d t) : isKeyT t = isKey d := by
  cases u with
  | tup us => simp [isKey, isKeyT, inKeys_un 7 us]
  | _ => rfl
mutual
theorem key_same : ∀ (n m : Nat) {d e : D} {t s : T}, Un st d t → Un st e s → inKey n d = true → inKey m e = true → (t = s ↔ d = e)
  | n, m, _, e, _, s, .int i, v, h, h' => by
    cases v <;> first | (cases m <;> simp [inKey] at h'; done) | simp
  | n, m, _, e, _, s, .str i, v, h, h' => by
    cases v <;> first | (cases m <;> simp [inKey] at h'; done) | simp
  | n, m, _, e, _, s, .tup us, v, h, h' => by
    cases v with
    | tup vs =>
      cases n with
      | zero => simp [inKey] at h
      | succ n =>
        cases m with
        | zero => simp [inKey] at h'
        | succ m =>
          rw [inKey] at h h'
          have := keys_same n m us vs h h'
          simpa using this
    | int => simp
    | str => simp
    | _ => cases m <;> simp [inKey] at h'
  | n, m, _, e, _, s, .non, v, h, h' => by cases n <;> simp [inKey] at h
  | n, m, _, e, _, s, .bl _, v, h, h' => by cases n <;> simp [inKey] at h
  | n, m, _, e, _, s, .scr _, v, h, h' => by cases n <;> simp [inKey] at h
  | n, m, _, e, _, s, .lst _ _, v, h, h' => by cases n <;> simp [inKey] at h
  | n, m, _, e, _, s, .dct _ _, v, h, h' => by cases n <;> simp [inKey] at h
theorem keys_same : ∀ (n m : Nat) {d e : List D} {t s : List T}, Uns st d t → Uns st e s → inKeys n d = true → inKeys m e = true → (t = s ↔ d = e)
  | n, m, _, _, _, _, .nil, .nil, _, _ => by simp
  | n, m, _, _, _, _, .nil, .cons _ _, _, _ => by simp
  | n, m, _, _, _, _, .cons _ _, .nil, _, _ => by simp
  | n, m, _, _, _, _, .cons u us, .cons v vs, h, h' => by
    rw [inKeys, Bool.and_eq_true] at h h'
    have a := key_same n m u v h.1 h'.1
    have b := keys_same n m us vs h.2 h'.2
    simp [a, b]
end
theorem key_eq {d e : D} {t s : T} (u : Un st d t) (v : Un st e s) (h : isKey d = true) (h' : isKey e = true) : (t = s ↔ d = e) := key_same 8 8 u v (isKey_in h) (isKey_in h')
/-! ### dicts -/
theorem get_un : ∀ {ks : List (D × D)} {kvs : List (T × T)} {k : D} {tk : T}, Unk st ks kvs → Un st k tk → isKey k = true → (tGet kvs tk = none ∧ dGet ks k = none) ∨ ∃ v tv, tGet kvs tk = some tv ∧ dGet ks k = some v ∧ Un st v tv ∧ ∃ kv ∈ ks, kv.2 = v := by
  intro ks kvs k tk us u hk
  induction ks generalizing kvs with
  | nil => cases us; exact .inl ⟨rfl, rfl⟩
  | cons q ks ih =>
    cases us with
    | cons uk hk' uv us =>
      rename_i k' v' tk' tv' tkvs
      have e := key_eq uk u hk' hk
      by_cases he : k' = k
      · have ht := e.mpr he
        exact .inr ⟨v', tv', by simp [tGet, ht], by simp [dGet, he], uv, _, List.mem_cons_self, rfl⟩
      · have ht : ¬ tk' = tk := fun z => he (e.mp z)
        rcases ih us with ⟨a, b⟩ | ⟨v, tv, a, b, c, kv, d1, d2⟩
        · exact .inl ⟨by simpa [tGet, ht] using a, by simpa [dGet, he] using b⟩
        · exact .inr ⟨v, tv, by simpa [tGet, ht] using a, by simpa [dGet, he] using b, c, kv, List.mem_cons_of_mem _ d1, d2⟩
theorem any_un {ks : List (D × D)} {kvs : List (T × T)} {k : D} {tk : T} (us : Unk st ks kvs) (u : Un st k tk) (hk : isKey k = true) : (kvs.any fun p => decide (p.1 = tk)) = ks.any fun p => decide (p.1 = k) := by
  induction ks generalizing kvs with
  | nil => cases us; rfl
  | cons q ks ih =>
    cases us with
    | cons uk hk' uv us =>
      rw [List.any_cons, List.any_cons, ih us]
      congr 1
      exact decide_eq_decide.mpr (key_eq uk u hk' hk)
theorem set_un {ks : List (D × D)} {kvs : List (T × T)} {k v : D} {tk tv : T} (us : Unk st ks kvs) (u : Un st k tk) (hk : isKey k = true) (uv : Un st v tv) : Unk st (dSet ks k v) (tSet kvs tk tv) := by
  unfold dSet tSet
  rw [any_un us u hk]
  split
  · rename_i z
    clear z
    induction ks generalizing kvs with
    | nil => cases us; exact .nil
    | cons q ks ih =>
      cases us with
      | cons uk hk' uv' us =>
        rw [List.map_cons, List.map_cons]
        have e := key_eq uk u hk' hk
        rename_i k' v' tk' tv' tkvs
        by_cases he : k' = k
        · rw [if_pos (e.mpr he), if_pos he]
          exact .cons uk hk' uv (ih us)
        · rw [if_neg (fun z => he (e.mp z)), if_neg he]
          exact .cons uk hk' uv' (ih us)
  · induction ks generalizing kvs with
    | nil => cases us; exact .cons u hk uv .nil
    | cons q ks ih =>
      cases us with
      | cons uk hk' uv' us => exact .cons uk hk' uv' (ih us (by simp_all))
theorem del_un {ks : List (D × D)} {kvs : List (T × T)} {k : D} {tk : T} (us : Unk st ks kvs) (u : Un st k tk) (hk : isKey k = true) : Unk st (dDel ks k) (tDel kvs tk) := by
  unfold dDel tDel
  induction ks generalizing kvs with
  | nil => cases us; exact .nil
  | cons q ks ih =>
    cases us with
    | cons uk hk' uv' us =>
      have e := key_eq uk u hk' hk
      rename_i k' v' tk' tv' tkvs
      by_cases he : k' = k
      · have ht := e.mpr he
        simpa [List.filter_cons, he, ht] using ih us
      · have ht : ¬ tk' = tk := fun z => he (e.mp z)
        simp only [List.filter_cons, he, ht, ne_eq, not_false_eq_true, decide_true, if_true]
        exact .cons uk hk' uv' (ih us)
theorem Unk.isKey : ∀ {ks : List (D × D)} {kvs : List (T × T)}, Unk st ks kvs → ∀ kv ∈ ks, Ev.isKey kv.1 = true
  | _, _, .nil, kv, h => by cases h
  | _, _, .cons _ hk _ us, kv, h => by
    rcases List.mem_cons.mp h with rfl | h
    · exact hk
    · exact us.isKey kv h
theorem keys_un : ∀ {ks : List (D × D)} {kvs : List (T × T)}, Unk st ks kvs → Uns st (ks.map (·.1)) (kvs.map (·.1))
  | _, _, .nil => .nil
  | _, _, .cons uk _ _ us => .cons uk (keys_un us)
/-! ### comparisons -/
theorem eq_un {x y : D} {s t : T} {b : Bool} (u : Un st x s) (v : Un st y t) (h : eqT s t = some b) : eqD st x y = some b := by
  unfold eqT at h
  split at h
  · rename_i a c h1 h2
    unfold eqD
    rw [tP_un _ u h1, tP_un _ v h2]
    exact h
  · cases h
theorem non_un {d : D} {t : T} (u : Un st d t) : (d = .non ↔ t = .non) := by cases u <;> simp
theorem lt_un {x y : D} {s t : T} {b : Bool} (u : Un st x s) (v : Un st y t) (h : ltT s t = some b) : ltD st x y = some b := by
  unfold ltT at h
  split at h
  · rename_i a c h1 h2
    split at h
    · rename_i hc
      unfold ltD
      rw [tP_un _ u h1, tP_un _ v h2]
      simp only
      rw [if_pos ⟨hc.1, fun z => hc.2 ((non_un u).mp z)⟩]
      exact h
    · cases h
  · cases h
theorem in_un {x y : D} {s t : T} {b : Bool} (u : Un st x s) (v : Un st y t) (h : inT s t = some b) : inD st x y = some b := by
  unfold inT at h
  unfold inD
  split at h
  · rename_i kvs hd
    obtain ⟨l, ks, rfl, h1, h2, us⟩ := dct_un v hd
    rw [h2]
    simp only
    split at h
    · rename_i hk
      have hk' : isKey x = true := by rw [← isKey_un u]; exact hk
      rw [if_pos hk']
      cases h
      rcases get_un us u hk' with ⟨a, b⟩ | ⟨v, tv, a, b, _⟩
      · rw [a, b]; rfl
      · rw [a, b]; rfl
    · cases h
  · rename_i hd
    rw [dct_no v hd]
    simp only
    split at h
    · rename_i a bs h1 h2
      obtain ⟨ts, hs, h3⟩ := Option.bind_eq_some_iff.mp h2
      obtain ⟨ds, e1, e2, _⟩ := seq_un v hs
      rw [tP_un _ u h1, e1, Option.bind_some, tPs_un _ e2 h3]
      exact h
    · cases h
theorem int2_un {x y : D} {s t : T} {q : Int × Int} (u : Un st x s) (v : Un st y t) (h : int2 s t = some q) : ints2 x y = some q := by
  unfold int2 at h
  split at h
  · cases h; cases u; cases v; rfl
  · cases h
theorem cmp_un {x y : D} {s t : T} {b : Bool} {op : CmpOp} (u : Un st x s) (v : Un st y t) (h : cmpT op s t = some b) : cmp op x y st = some b := by
  cases op <;> simp only [cmpT] at h <;> simp only [cmp]
  case Eq => exact eq_un u v h
  case NotEq =>
    obtain ⟨c, h1, rfl⟩ := Option.map_eq_some_iff.mp h
    rw [eq_un u v h1]; rfl
  case Lt => exact lt_un u v h
  case In => exact in_un u v h
  case NotIn =>
    obtain ⟨c, h1, rfl⟩ := Option.map_eq_some_iff.mp h
    rw [in_un u v h1]; rfl
  case Is =>
    split at h
    · rename_i hn
      rw [if_pos ((non_un v).mpr hn), ← h]
      exact congrArg some (decide_eq_decide.mpr (non_un u))
    · cases h
  case IsNot =>
    split at h
    · rename_i hn
      rw [if_pos ((non_un v).mpr hn), ← h]
      exact congrArg (fun b => some (!b)) (decide_eq_decide.mpr (non_un u))
    · cases h
  case LtE =>
    obtain ⟨q, h1, rfl⟩ := Option.map_eq_some_iff.mp h
    rw [int2_un u v h1]; rfl
  case Gt =>
    obtain ⟨q, h1, rfl⟩ := Option.map_eq_some_iff.mp h
    rw [int2_un u v h1]; rfl
  case GtE =>
    obtain ⟨q, h1, rfl⟩ := Option.map_eq_some_iff.mp h
    rw [int2_un u v h1]; rfl
theorem isi_un {x : D} {s : T} {t : Ty} {b : Bool} (u : Un st x s) (h : isiT s t = some b) : isi st x t = some b := by
  cases u with
  | non => exact h
  | bl => exact h
  | int => exact h
  | str => exact h
  | scr => exact h
  | tup => exact h
  | lst hl us =>
    simp only [isiT, tyT, Option.map_some] at h
    simp [isi, tyOf, hl, h]
    simpa using h
  | dct hl us => simp [isiT, tyT] at h
theorem binI_un {op : Operator} {i j k : Int} (h : binP op i j = some k) : binI op i j st = .ok (.int k) st := by
  cases op <;> simp only [binP] at h <;> simp only [binI] <;> first
    | (cases h; rfl)
    | (split at h
       · rename_i hc
         cases h
         rw [if_pos hc]
       · cases h)
    | cases h
/-- sorting -/
theorem sort_un {ds : List D} {ts us : List T} (u : Uns st ds ts) (h : sortT ts = some us) : ∃ es, sortD st ds = some es ∧ Uns st es us ∧ ∀ e ∈ es, e ∈ ds := by
  unfold sortT at h
  split at h
  · rename_i ps hps
    split at h
    · rename_i hc
      cases h
      refine ⟨ds.mergeSort (W.dataLe false fun d => (toP st deep d).getD .none), ?_, ?_, fun e he => (List.mem_mergeSort).mp he⟩
      · unfold sortD
        rw [tPs_un _ u hps]
        simp only
        rw [if_pos hc]
      · let zs : List (D × T) := ds.zip ts
        have e1 : ds = zs.map (·.1) := by
          have hl := u.length
          exact (List.map_fst_zip (Nat.le_of_eq hl)).symm
        have e2 : ts = zs.map (·.2) := by
          have hl := u.length
          exact (List.map_snd_zip (Nat.le_of_eq hl.symm)).symm
        have hz : ∀ q ∈ zs, Un st q.1 q.2 ∧ ∃ x, tP deep q.2 = some x := by
          have : ∀ {ds : List D} {ts : List T} {ps : List PyData}, Uns st ds ts → tPs deep ts = some ps → ∀ q ∈ ds.zip ts, Un st q.1 q.2 ∧ ∃ x, tP deep q.2 = some x := by
            intro ds
            induction ds with
            | nil => intro ts ps u h q hq; simp at hq
            | cons d ds ih =>
              intro ts ps u h q hq
              cases u with
              | cons u us =>
                rw [tPs] at h
                split at h
                · rename_i x xs h1 h2
                  rw [List.zip_cons_cons] at hq
                  rcases List.mem_cons.mp hq with rfl | hq
                  · exact ⟨u, x, h1⟩
                  · exact ih us h2 q hq
                · cases h
          exact this u hps
        have hs : ∀ q ∈ zs, ∀ r ∈ zs, W.dataLe false (fun d => (toP st deep d).getD .none) q.1 r.1 = W.dataLe false (fun d => (tP deep d).getD .none) q.2 r.2 := by
          intro q hq r hr
          obtain ⟨u1, x1, y1⟩ := hz q hq
          obtain ⟨u2, x2, y2⟩ := hz r hr
          simp only [W.dataLe, W.sortLe, tP_un _ u1 y1, tP_un _ u2 y2, y1, y2]
        have m1 : ds.mergeSort (W.dataLe false fun d => (toP st deep d).getD .none) = (zs.mergeSort fun q r => W.dataLe false (fun d => (toP st deep d).getD .none) q.1 r.1).map (·.1) := by
          rw [e1]
          exact (List.map_mergeSort (l := zs) (f := Prod.fst) (r := fun (q r : D × T) => W.dataLe false (fun d => (toP st deep d).getD .none) q.1 r.1) (s := W.dataLe false fun d => (toP st deep d).getD .none) (fun a ha b hb => rfl)).symm
        have m2 : ts.mergeSort (W.dataLe false fun d => (tP deep d).getD .none) = (zs.mergeSort fun q r => W.dataLe false (fun d => (toP st deep d).getD .none) q.1 r.1).map (·.2) := by
          rw [e2]
          exact (List.map_mergeSort (f := Prod.snd) (fun a ha b hb => hs a ha b hb)).symm
        rw [m1, m2]
        have m3 : ∀ q ∈ (zs.mergeSort fun q r => W.dataLe false (fun d => (toP st deep d).getD .none) q.1 r.1), Un st q.1 q.2 := fun q hq => (hz q (List.mem_mergeSort.mp hq)).1
        revert m3
        generalize (zs.mergeSort fun q r => W.dataLe false (fun d => (toP st deep d).getD .none) q.1 r.1) = ws
        intro m3
        induction ws with
        | nil => exact .nil
        | cons q ws ih => exact .cons (m3 q List.mem_cons_self) (ih fun r hr => m3 r (List.mem_cons_of_mem _ hr))
    · cases h
  · cases h
theorem ints_un : ∀ {ds : List D} {ts : List T} {ns : List Int}, Uns st ds ts → intsT ts = some ns → intsOf ds = some ns
  | _, _, _, .nil, h => h
  | _, _, ns, .cons u us, h => by
    cases u with
    | int i =>
      simp only [intsT, Option.map_eq_some_iff] at h
      obtain ⟨ms, h1, rfl⟩ := h
      simp [intsOf, ints_un us h1]
    | _ => simp [intsT] at h
end
end Ev

/-! Who owns what: the invariant of slots and store. -/
namespace Ev
open PySem

/-- one run of a def: the store's length at its start, what its arguments come to, what is lent to be changed -/
structure Act where
  n0 : Nat
  P : Nat → Prop
  A : Nat → Prop
  mr : Nat → Option Nat
  hP : ∀ x, P x → x < n0 ∧ ¬ A x
  hA : ∀ x, A x → x < n0
def Act.Pr (a : Act) (x : Nat) : Prop := a.P x ∨ a.n0 ≤ x
def VS.rooted : VS → Bool
  | .s _ => true | .l _ => true | .m _ => true | _ => false
def VS.put : VS → T → VS
  | .s _, t => .s t | .l _, t => .l t | .m _, t => .m t | .r _, t => .r t | .b _, t => .b t
def Rt (eD : En) (eV : VEn) (x : Nat) : Prop := ∃ i v, lk eV i = some v ∧ v.rooted = true ∧ eD.val i = some (.ref x)
/-- owned and free to be changed -/
def VS.own : VS → Bool
  | .s _ => true | .m _ => true | _ => false
theorem VS.own_rooted {v : VS} (h : v.own = true) : v.rooted = true := by cases v <;> first | rfl | cases h
def Rm (eD : En) (eV : VEn) (x : Nat) : Prop := ∃ i v, lk eV i = some v ∧ v.own = true ∧ eD.val i = some (.ref x)
theorem Rm.rt {eD : En} {eV : VEn} {x : Nat} (h : Rm eD eV x) : Rt eD eV x := let ⟨i, v, h1, h2, h3⟩ := h; ⟨i, v, h1, VS.own_rooted h2, h3⟩
def Rc (st : Sto) (eD : En) (eV : VEn) (x : Nat) : Prop := ∃ i v d, lk eV i = some v ∧ eD.val i = some d ∧ Hit st d x
def SlotP (a : Act) (st : Sto) (R : Nat → Prop) (d : D) : VS → Prop
  | .b _ => ∀ x, Hit st d x → a.Pr x ∧ ¬ R x
  | .r _ => ∀ x, Hit st d x → x < a.n0 ∧ ¬ a.A x ∧ (d = .ref x ∨ a.P x)
  | .s _ => ∃ l, d = .ref l ∧ a.n0 ≤ l ∧ ∀ x, Low st l x → a.Pr x ∧ ¬ R x
  | .l _ => ∃ l, d = .ref l ∧ a.n0 ≤ l ∧ ∀ x, Low st l x → a.Pr x ∧ ¬ R x
  | .m _ => ∃ l, d = .ref l ∧ a.A l ∧ ∀ x, Low st l x → a.Pr x ∧ ¬ R x
structure EI (a : Act) (st : Sto) (eD : En) (eV : VEn) : Prop where
  len : eD.length = eV.length
  big : a.n0 ≤ st.length
  slot : ∀ i v, lk eV i = some v → ∃ d, eD.val i = some d ∧ Un st d v.t ∧ SlotP a st (Rt eD eV) d v
  uniq : ∀ i j v w x, lk eV i = some v → lk eV j = some w → v.rooted = true → w.rooted = true → eD.val i = some (.ref x) → eD.val j = some (.ref x) → i = j
  mroot : ∀ i t, lk eV i = some (.m t) → eD.val i = (a.mr i).map .ref
structure Stp (st : Sto) (eD : En) (eV : VEn) (st' : Sto) (eD' : En) (eV' : VEn) : Prop where
  len : st.length ≤ st'.length
  keep : ∀ x, x < st.length → ¬ Rm eD eV x → st'[x]? = st[x]?
  mroots : ∀ x, Rm eD' eV' x → Rm eD eV x ∨ st.length ≤ x
  iroots : ∀ i v x, lk eV' i = some v → v.rooted = true → eD'.val i = some (.ref x) → (∃ v0, lk eV i = some v0 ∧ v0.rooted = true ∧ eD.val i = some (.ref x)) ∨ st.length ≤ x
  reach : ∀ x, Rc st' eD' eV' x → Rc st eD eV x ∨ st.length ≤ x
section
variable {a : Act} {st st1 st2 : Sto} {eD eD1 eD2 : En} {eV eV1 eV2 : VEn} {d : D} {t : T}
theorem Stp.roots (p : Stp st eD eV st1 eD1 eV1) : ∀ x, Rt eD1 eV1 x → Rt eD eV x ∨ st.length ≤ x := fun x ⟨i, v, h1, h2, h3⟩ => by
  rcases p.iroots i v x h1 h2 h3 with ⟨v0, q1, q2, q3⟩ | q
  · exact .inl ⟨i, v0, q1, q2, q3⟩
  · exact .inr q
theorem Stp.refl : Stp st eD eV st eD eV := ⟨Nat.le_refl _, fun _ _ _ => rfl, fun _ h => .inl h, fun _ v _ h1 h2 h3 => .inl ⟨v, h1, h2, h3⟩, fun _ h => .inl h⟩
theorem Stp.trans (p : Stp st eD eV st1 eD1 eV1) (q : Stp st1 eD1 eV1 st2 eD2 eV2) : Stp st eD eV st2 eD2 eV2 where
  len := Nat.le_trans p.len q.len
  mroots := fun x h => by
    rcases q.mroots x h with h | h
    · exact p.mroots x h
    · exact .inr (Nat.le_trans p.len h)
  keep := fun x hx hr => (q.keep x (Nat.lt_of_lt_of_le hx p.len) fun z => by
    rcases p.mroots x z with z | z
    · exact hr z
    · omega).trans (p.keep x hx hr)
  iroots := fun i v x h1 h2 h3 => by
    rcases q.iroots i v x h1 h2 h3 with ⟨v0, y1, y2, y3⟩ | h
    · exact p.iroots i v0 x y1 y2 y3
    · exact .inr (Nat.le_trans p.len h)
  reach := fun x h => by
    rcases q.reach x h with h | h
    · exact p.reach x h
    · exact .inr (Nat.le_trans p.len h)
theorem EI.root (I : EI a st eD eV) {x : Nat} (h : Rt eD eV x) : x < st.length ∧ (a.n0 ≤ x ∨ a.A x) := by
  obtain ⟨i, v, h1, h2, h3⟩ := h
  obtain ⟨d, e1, e2, e3⟩ := I.slot i v h1
  rw [h3] at e1
  cases e1
  refine ⟨e2.inside x .ref, ?_⟩
  cases v with
  | s t => obtain ⟨l, e, h, _⟩ := e3; cases e; exact .inl h
  | l t => obtain ⟨l, e, h, _⟩ := e3; cases e; exact .inl h
  | m t => obtain ⟨l, e, h, _⟩ := e3; cases e; exact .inr h
  | r t => cases h2
  | b t => cases h2
/-- a value that nobody owns; is it new? -/
structure Tmp (a : Act) (st : Sto) (eD : En) (eV : VEn) (d : D) (t : T) (fr : Bool) : Prop where
  un : Un st d t
  pr : ∀ x, Hit st d x → a.Pr x ∧ ¬ Rt eD eV x
  new : fr = true → ∃ l, d = .ref l ∧ a.n0 ≤ l ∧ ¬ Rc st eD eV l
theorem un_stay (u : Un st d t) (pr : ∀ x, Hit st d x → ¬ Rt eD eV x) (p : Stp st eD eV st1 eD1 eV1) : Un st1 d t ∧ ∀ x, Hit st1 d x → Hit st d x :=
  u.stay fun x hx => p.keep x (u.inside x hx) fun z => pr x hx z.rt
theorem Tmp.stp {fr : Bool} (h : Tmp a st eD eV d t fr) (p : Stp st eD eV st1 eD1 eV1) : Tmp a st1 eD1 eV1 d t fr := by
  obtain ⟨u, hh⟩ := un_stay h.un (fun x hx => (h.pr x hx).2) p
  refine ⟨u, fun x hx => ⟨(h.pr x (hh x hx)).1, fun z => ?_⟩, fun hf => ?_⟩
  · have hx' := hh x hx
    rcases p.roots x z with z | z
    · exact (h.pr x hx').2 z
    · have := h.un.inside x hx'
      omega
  · obtain ⟨l, rfl, h1, h3⟩ := h.new hf
    refine ⟨l, rfl, h1, fun z => ?_⟩
    rcases p.reach l z with z | z
    · exact h3 z
    · have := h.un.inside l .ref
      omega
/-- an operand: a value, or what a slot holds -/
def OpI (a : Act) (st : Sto) (eD : En) (eV : VEn) (o : Opd) (d : D) : Prop := match o with
  | .v t fr => Tmp a st eD eV d t fr
  | .p i => eD.val i = some d ∧ (lk eV i).isSome = true
theorem val_of {e : En} {i : Nat} {d : D} (h : e[i]? = some (some d)) : e.val i = some d := by simp [En.val, h]
theorem lk_set_self {e : VEn} {i : Nat} {v : Option VS} (h : i < e.length) : lk (e.set i v) i = v := by simp [lk, List.getElem?_set_self h]
theorem lk_set_ne {e : VEn} {i j : Nat} {v : Option VS} (h : i ≠ j) : lk (e.set i v) j = lk e j := by simp [lk, List.getElem?_set_ne h]
theorem val_set_self {e : En} {i : Nat} {v : Option D} (h : i < e.length) : En.val (e.set i v) i = v := by simp [En.val, List.getElem?_set_self h]
theorem val_set_ne {e : En} {i j : Nat} {v : Option D} (h : i ≠ j) : En.val (e.set i v) j = e.val j := by simp [En.val, List.getElem?_set_ne h]
theorem lk_lt {e : VEn} {i : Nat} {v : VS} (h : lk e i = some v) : i < e.length := by
  unfold lk at h
  cases q : e[i]? with
  | none => rw [q] at h; cases h
  | some o => exact (List.getElem?_eq_some_iff.mp q).1
/-- what a peek sees -/
theorem peek_ok (I : EI a st eD eV) {o : Opd} (h : OpI a st eD eV o d) (hp : peek eV o = some t) : Un st d t := by
  cases o with
  | v t' fr => cases hp; exact h.un
  | p i =>
    obtain ⟨h1, h2⟩ := h
    simp only [peek, Option.map_eq_some_iff] at hp
    obtain ⟨v, hv, rfl⟩ := hp
    obtain ⟨d', e1, e2, _⟩ := I.slot i v hv
    rw [h1] at e1
    cases e1
    exact e2
/-- whatever an operand comes to is a slot's or the value's own -/
theorem op_reach {o : Opd} (h : OpI a st eD eV o d) : (∀ x, Hit st d x → Rc st eD eV x) ∨ ∃ t fr, o = .v t fr := by
  cases o with
  | v t fr => exact .inr ⟨t, fr, rfl⟩
  | p i =>
    obtain ⟨h1, h2⟩ := h
    obtain ⟨v, hv⟩ := Option.isSome_iff_exists.mp h2
    exact .inl fun x hx => ⟨i, v, d, hv, h1, hx⟩
theorem op_below (I : EI a st eD eV) {o : Opd} (h : OpI a st eD eV o d) {e : D} (hp : Part st d e) : ∀ x, Hit st e x → a.Pr x ∧ ¬ Rt eD eV x := by
  intro x hx
  cases o with
  | v t fr => exact h.pr x (hp.1 x hx)
  | p i =>
    obtain ⟨h1, h2⟩ := h
    obtain ⟨v, hv'⟩ := Option.isSome_iff_exists.mp h2
    obtain ⟨d', e1, e2, e3⟩ := I.slot i v hv'
    rw [h1] at e1
    cases e1
    cases v with
    | s t => obtain ⟨l, rfl, _, q⟩ := e3; exact q x (hp.2 l rfl x hx)
    | l t => obtain ⟨l, rfl, _, q⟩ := e3; exact q x (hp.2 l rfl x hx)
    | m t => obtain ⟨l, rfl, _, q⟩ := e3; exact q x (hp.2 l rfl x hx)
    | b t => exact e3 x (hp.1 x hx)
    | r t =>
      obtain ⟨q1, q2, q3⟩ := e3 x (hp.1 x hx)
      have hP : a.P x := by
        rcases q3 with rfl | q3
        · exact absurd (hp.2 x rfl x hx) e2.loopless
        · exact q3
      refine ⟨.inl hP, fun z => ?_⟩
      rcases (I.root z).2 with z | z
      · omega
      · exact q2 z
/-- the slots change at their own objects alone -/
theorem EI.change {st0 : Sto} {eV0 : VEn} (I : EI a st eD eV) (p0 : Stp st0 eD eV0 st eD eV) (hl : st.length ≤ st1.length) (C : Nat → Prop) (hC' : ∀ i, C i → ∃ v, lk eV i = some v ∧ v.own = true)
    (hk : ∀ x, x < st0.length ∨ Rc st eD eV x → x < st.length → (∀ i, C i → eD.val i ≠ some (.ref x)) → st1[x]? = st[x]?) (hlen : eV1.length = eV.length)
    (hn : ∀ i, ¬ C i → lk eV1 i = lk eV i)
    (hc : ∀ i v l, C i → lk eV i = some v → eD.val i = some (.ref l) → ∃ t, lk eV1 i = some (v.put t) ∧ Un st1 (.ref l) t ∧ ∀ x, Low st1 l x → (a.Pr x ∧ ¬ Rt eD eV x) ∧ (Rc st0 eD eV0 x ∨ st0.length ≤ x)) :
    EI a st1 eD eV1 ∧ Stp st0 eD eV0 st1 eD eV1 := by
  have hC : ∀ i, C i → ∃ v, lk eV i = some v ∧ v.rooted = true := fun i hi => by
    obtain ⟨v, h1, h2⟩ := hC' i hi
    exact ⟨v, h1, VS.own_rooted h2⟩
  have tag : ∀ i w, lk eV1 i = some w → ∃ v, lk eV i = some v ∧ v.rooted = w.rooted ∧ v.own = w.own := by
    intro i w hw
    by_cases hi : C i
    · obtain ⟨v, hv, hr⟩ := hC i hi
      obtain ⟨d, e1, e2, e3⟩ := I.slot i v hv
      have hd : ∃ l, d = .ref l := by
        cases v with
        | s t => obtain ⟨l, e, _⟩ := e3; exact ⟨l, e⟩
        | l t => obtain ⟨l, e, _⟩ := e3; exact ⟨l, e⟩
        | m t => obtain ⟨l, e, _⟩ := e3; exact ⟨l, e⟩
        | r t => cases hr
        | b t => cases hr
      obtain ⟨l, rfl⟩ := hd
      obtain ⟨t, h1, _⟩ := hc i v l hi hv e1
      rw [h1] at hw
      refine ⟨v, hv, ?_⟩
      cases v <;> cases hw <;> exact ⟨rfl, rfl⟩
    · rw [hn i hi] at hw
      exact ⟨w, hw, rfl, rfl⟩
  have rts : ∀ x, Rt eD eV1 x → Rt eD eV x := fun x ⟨i, w, h1, h2, h3⟩ => by
    obtain ⟨v, hv, hr, _⟩ := tag i w h1
    exact ⟨i, v, hv, hr.trans h2, h3⟩
  have mrts : ∀ x, Rm eD eV1 x → Rm eD eV x := fun x ⟨i, w, h1, h2, h3⟩ => by
    obtain ⟨v, hv, _, hr⟩ := tag i w h1
    exact ⟨i, v, hv, hr.trans h2, h3⟩
  have free : ∀ x, x < st0.length → ¬ Rm eD eV0 x → st1[x]? = st0[x]? := fun x hx hr => (hk x (.inl hx) (Nat.lt_of_lt_of_le hx p0.len) fun i hi z => by
    obtain ⟨v, hv, hrt⟩ := hC' i hi
    rcases p0.mroots x ⟨i, v, hv, hrt, z⟩ with q | q
    · exact hr q
    · omega).trans (p0.keep x hx hr)
  have rtsA : ∀ i, C i → ∀ x, eD.val i = some (.ref x) → a.n0 ≤ x ∨ a.A x := fun i hi x z => by
    obtain ⟨v, hv, hr⟩ := hC i hi
    exact (I.root ⟨i, v, hv, hr, z⟩).2
  -- slots that stay
  have stays : ∀ i v, ¬ C i → lk eV i = some v → ∃ d, eD.val i = some d ∧ Un st1 d v.t ∧ SlotP a st1 (Rt eD eV1) d v ∧ ∀ x, Hit st1 d x → Hit st d x := by
    intro i v hi hv
    obtain ⟨d, e1, e2, e3⟩ := I.slot i v hv
    have keepd : ∀ x, Hit st d x → st1[x]? = st[x]? := by
      intro x hx
      refine hk x (.inr ⟨i, v, d, hv, e1, hx⟩) (e2.inside x hx) fun j hj z => ?_
      obtain ⟨w, hw, hr⟩ := hC j hj
      have hrt : Rt eD eV x := ⟨j, w, hw, hr, z⟩
      have own : ∀ l, d = .ref l → v.rooted = true → (∀ y, Low st l y → a.Pr y ∧ ¬ Rt eD eV y) → False := fun l el hvr hlow => by
        subst el
        rcases hx.low with rfl | q
        · exact hi (I.uniq i j v w x hv hw hvr hr e1 z ▸ hj)
        · exact (hlow x q).2 hrt
      cases v with
      | s t => obtain ⟨l, q1, _, q2⟩ := e3; exact own l q1 rfl q2
      | l t => obtain ⟨l, q1, _, q2⟩ := e3; exact own l q1 rfl q2
      | m t => obtain ⟨l, q1, _, q2⟩ := e3; exact own l q1 rfl q2
      | b t => exact (e3 x hx).2 hrt
      | r t =>
        obtain ⟨q1, q2, _⟩ := e3 x hx
        rcases rtsA j hj x z with q | q
        · omega
        · exact q2 q
    obtain ⟨u1, u2⟩ := e2.stay keepd
    have lows : ∀ l, d = .ref l → ∀ x, Low st1 l x → Low st l x := fun l el x hx => by
      subst el
      have h1 := u2 x hx.hit
      rcases h1.low with rfl | h1
      · exact absurd hx u1.loopless
      · exact h1
    refine ⟨d, e1, u1, ?_, u2⟩
    cases v with
    | s t => obtain ⟨l, q1, q2, q3⟩ := e3; exact ⟨l, q1, q2, fun x hx => ⟨(q3 x (lows l q1 x hx)).1, fun z => (q3 x (lows l q1 x hx)).2 (rts x z)⟩⟩
    | l t => obtain ⟨l, q1, q2, q3⟩ := e3; exact ⟨l, q1, q2, fun x hx => ⟨(q3 x (lows l q1 x hx)).1, fun z => (q3 x (lows l q1 x hx)).2 (rts x z)⟩⟩
    | m t => obtain ⟨l, q1, q2, q3⟩ := e3; exact ⟨l, q1, q2, fun x hx => ⟨(q3 x (lows l q1 x hx)).1, fun z => (q3 x (lows l q1 x hx)).2 (rts x z)⟩⟩
    | b t => exact fun x hx => ⟨(e3 x (u2 x hx)).1, fun z => (e3 x (u2 x hx)).2 (rts x z)⟩
    | r t => exact fun x hx => e3 x (u2 x hx)
  refine ⟨⟨I.len.trans hlen.symm, Nat.le_trans I.big hl, fun i w hw => ?_, fun i j v w x h1 h2 h3 h4 h5 h6 => ?_, ?_⟩, ⟨Nat.le_trans p0.len hl, free, fun x h => p0.mroots x (mrts x h), fun i w x z1 z2 z3 => ?_, fun x h => ?_⟩⟩
  rotate_left 2
  · intro i t hi
    by_cases hc' : C i
    · obtain ⟨v, hv, hr⟩ := hC i hc'
      obtain ⟨dd, e1, e2, e3⟩ := I.slot i v hv
      cases v with
      | s t' => obtain ⟨l, rfl, _⟩ := e3; obtain ⟨t2, h1, _⟩ := hc i _ l hc' hv e1; rw [h1] at hi; cases hi
      | l t' => obtain ⟨l, rfl, _⟩ := e3; obtain ⟨t2, h1, _⟩ := hc i _ l hc' hv e1; rw [h1] at hi; cases hi
      | m t' => exact I.mroot i t' hv
      | r t' => cases hr
      | b t' => cases hr
    · rw [hn i hc'] at hi
      exact I.mroot i t hi
  · obtain ⟨v, hv, hr, _⟩ := tag i w z1
    exact p0.iroots i v x hv (hr.trans z2) z3
  rotate_left 1
  · by_cases hi : C i
    · obtain ⟨v, hv, hr⟩ := hC i hi
      obtain ⟨d, e1, e2, e3⟩ := I.slot i v hv
      cases v with
      | s t =>
        obtain ⟨l, rfl, q2, _⟩ := e3
        obtain ⟨t', h1, h2, h3⟩ := hc i _ l hi hv e1
        rw [h1] at hw
        cases hw
        exact ⟨_, e1, h2, l, rfl, q2, fun x hx => ⟨(h3 x hx).1.1, fun z => (h3 x hx).1.2 (rts x z)⟩⟩
      | l t =>
        obtain ⟨l, rfl, q2, _⟩ := e3
        obtain ⟨t', h1, h2, h3⟩ := hc i _ l hi hv e1
        rw [h1] at hw
        cases hw
        exact ⟨_, e1, h2, l, rfl, q2, fun x hx => ⟨(h3 x hx).1.1, fun z => (h3 x hx).1.2 (rts x z)⟩⟩
      | m t =>
        obtain ⟨l, rfl, q2, _⟩ := e3
        obtain ⟨t', h1, h2, h3⟩ := hc i _ l hi hv e1
        rw [h1] at hw
        cases hw
        exact ⟨_, e1, h2, l, rfl, q2, fun x hx => ⟨(h3 x hx).1.1, fun z => (h3 x hx).1.2 (rts x z)⟩⟩
      | r t => cases hr
      | b t => cases hr
    · rw [hn i hi] at hw
      obtain ⟨d, e1, e2, e3, _⟩ := stays i w hi hw
      exact ⟨d, e1, e2, e3⟩
  · obtain ⟨v', hv, hr, _⟩ := tag i v h1
    obtain ⟨w', hw, hr', _⟩ := tag j w h2
    exact I.uniq i j v' w' x hv hw (hr.trans h3) (hr'.trans h4) h5 h6
  · obtain ⟨i, w, d, h1, h2, h3⟩ := h
    by_cases hi : C i
    · obtain ⟨v, hv, hr⟩ := hC i hi
      obtain ⟨d', e1, e2, e3⟩ := I.slot i v hv
      rw [h2] at e1
      cases e1
      have hd : ∃ l, d = .ref l := by
        cases v with
        | s t => obtain ⟨l, e, _⟩ := e3; exact ⟨l, e⟩
        | l t => obtain ⟨l, e, _⟩ := e3; exact ⟨l, e⟩
        | m t => obtain ⟨l, e, _⟩ := e3; exact ⟨l, e⟩
        | r t => cases hr
        | b t => cases hr
      obtain ⟨l, rfl⟩ := hd
      obtain ⟨t', q1, q2, q3⟩ := hc i v l hi hv h2
      rcases h3.low with rfl | h3
      · exact p0.reach x ⟨i, v, _, hv, h2, .ref⟩
      · exact (q3 x h3).2
    · rw [hn i hi] at h1
      obtain ⟨d', e1, e2, e3, e4⟩ := stays i w hi h1
      rw [h2] at e1
      cases e1
      exact p0.reach x ⟨i, w, d, h1, h2, e4 x h3⟩
/-- the store grows -/
theorem EI.grow (I : EI a st eD eV) (hl : st.length ≤ st1.length) (hk : ∀ x, x < st.length → st1[x]? = st[x]?) : EI a st1 eD eV ∧ Stp st eD eV st1 eD eV :=
  I.change .refl hl (fun _ => False) (fun _ h => h.elim) (fun x _ hx _ => hk x hx) rfl (fun _ _ => rfl) fun _ _ _ h => h.elim
end
end Ev

/-! Results, taking, new objects, changes. -/
namespace Ev
open PySem

def FsI (fs : List T) (fsD : List D) : Prop := ∃ is : List Int, fs = is.map .int ∧ fsD = is.map .int
/-- slots stay slots -/
structure Sl (eV eV' : VEn) : Prop where
  is : ∀ i, (lk eV i).isSome = true → (lk eV' i).isSome = true
  own : ∀ i v, lk eV' i = some v → v.own = true → ∃ v0, lk eV i = some v0 ∧ v0.own = true
theorem Sl.refl {eV : VEn} : Sl eV eV := ⟨fun _ h => h, fun _ v h1 h2 => ⟨v, h1, h2⟩⟩
theorem Sl.trans {eV eV1 eV2 : VEn} (p : Sl eV eV1) (q : Sl eV1 eV2) : Sl eV eV2 := ⟨fun i h => q.is i (p.is i h), fun i v h1 h2 => by
  obtain ⟨v1, h3, h4⟩ := q.own i v h1 h2
  exact p.own i v1 h3 h4⟩
/-- what a value comes to: what was come to before, or is new -/
def Pv (st : Sto) (eD : En) (eV : VEn) (d : D) (st' : Sto) : Prop := ∀ x, Hit st' d x → Rc st eD eV x ∨ st.length ≤ x
def RR {α β : Type} (a : Act) (eD : En) (st : Sto) (eV : VEn) (Q : α → β → Sto → VEn → Prop) (r : VR α) (q : Res β) : Prop := match r with
  | .ok x eV' => ∃ y st', q = .ok y st' ∧ EI a st' eD eV' ∧ Stp st eD eV st' eD eV' ∧ Sl eV eV' ∧ Q x y st' eV'
  | .exc c fs eV' => ∃ fsD st', q = .exc c fsD st' ∧ EI a st' eD eV' ∧ Stp st eD eV st' eD eV' ∧ FsI fs fsD
  | .bad => True
def QO (a : Act) (eD : En) (st : Sto) (eV : VEn) (o : Opd) (d : D) (st' : Sto) (eV' : VEn) : Prop := OpI a st' eD eV' o d ∧ match o with
  | .v _ fr => Pv st eD eV d st' ∧ (fr = true → ∃ l, d = .ref l ∧ st.length ≤ l)
  | .p _ => True
def QT (a : Act) (eD : En) (st : Sto) (eV : VEn) (t : T) (d : D) (st' : Sto) (eV' : VEn) : Prop := Tmp a st' eD eV' d t false ∧ Pv st eD eV d st'
section
variable {a : Act} {st st1 st2 : Sto} {eD : En} {eV eV1 eV2 : VEn} {d : D} {t : T} {α β γ δ : Type}
theorem Pv.base (h : Pv st1 eD eV1 d st2) (p : Stp st eD eV st1 eD eV1) : Pv st eD eV d st2 := fun x hx => by
  rcases h x hx with z | z
  · exact p.reach x z
  · exact .inr (Nat.le_trans p.len z)
theorem RR.bind {Q : α → β → Sto → VEn → Prop} {Q2 : γ → δ → Sto → VEn → Prop} {r : VR α} {q : Res β} {f : α → VEn → VR γ} {g : β → Sto → Res δ} (h : RR a eD st eV Q r q)
    (k : ∀ x y st1 eV1, EI a st1 eD eV1 → Stp st eD eV st1 eD eV1 → Sl eV eV1 → Q x y st1 eV1 → RR a eD st1 eV1 Q2 (f x eV1) (g y st1)) : RR a eD st eV Q2 (r.bind f) (q.bind g) := by
  cases r with
  | ok x eV1 =>
    obtain ⟨y, st1, rfl, I, p, sl, hq⟩ := h
    have h2 := k x y st1 eV1 I p sl hq
    show RR a eD st eV Q2 (f x eV1) (g y st1)
    cases hr : f x eV1 with
    | ok z eV2 =>
      rw [hr] at h2
      obtain ⟨w, st2, e, I2, p2, sl2, hq2⟩ := h2
      exact ⟨w, st2, e, I2, p.trans p2, sl.trans sl2, hq2⟩
    | exc c fs eV2 =>
      rw [hr] at h2
      obtain ⟨w, st2, e, I2, p2, hq2⟩ := h2
      exact ⟨w, st2, e, I2, p.trans p2, hq2⟩
    | bad => trivial
  | exc c fs eV1 =>
    obtain ⟨w, st2, rfl, I2, p2, hq2⟩ := h
    exact ⟨w, st2, rfl, I2, p2, hq2⟩
  | bad => trivial
/-- the same, all from one beginning -/
theorem RR.bind0 {Q : α → β → Sto → VEn → Prop} {Q2 : γ → δ → Sto → VEn → Prop} {r : VR α} {q : Res β} {f : α → VEn → VR γ} {g : β → Sto → Res δ} (h : RR a eD st eV Q r q)
    (k : ∀ x y st1 eV1, EI a st1 eD eV1 → Stp st eD eV st1 eD eV1 → Sl eV eV1 → Q x y st1 eV1 → RR a eD st eV Q2 (f x eV1) (g y st1)) : RR a eD st eV Q2 (r.bind f) (q.bind g) := by
  cases r with
  | ok x eV1 =>
    obtain ⟨y, st1, rfl, I, p, sl, hq⟩ := h
    exact k x y st1 eV1 I p sl hq
  | exc c fs eV1 =>
    obtain ⟨w, st2, rfl, I2, p2, hq2⟩ := h
    exact ⟨w, st2, rfl, I2, p2, hq2⟩
  | bad => trivial
theorem RR.of0 {Q : γ → δ → Sto → VEn → Prop} {o : Option α} {f : α → VEn → VR γ} {q : Res δ} {eV1 : VEn} (h : ∀ x, o = some x → RR a eD st eV Q (f x eV1) q) : RR a eD st eV Q ((VR.of o eV1).bind f) q := by
  cases o with
  | none => trivial
  | some x => exact h x rfl
theorem RR.of {Q : γ → δ → Sto → VEn → Prop} {o : Option α} {f : α → VEn → VR γ} {q : Res δ} (h : ∀ x, o = some x → RR a eD st eV Q (f x eV) q) : RR a eD st eV Q ((VR.of o eV).bind f) q := by
  cases o with
  | none => trivial
  | some x => exact h x rfl
theorem RR.step {Q : γ → δ → Sto → VEn → Prop} {r : VR γ} {q : Res δ} (p : Stp st eD eV st1 eD eV1) (sl : Sl eV eV1) (h : RR a eD st1 eV1 Q r q) : RR a eD st eV Q r q := by
  cases r with
  | ok z eV2 =>
    obtain ⟨w, st2, e, I2, p2, sl2, hq2⟩ := h
    exact ⟨w, st2, e, I2, p.trans p2, sl.trans sl2, hq2⟩
  | exc c fs eV2 =>
    obtain ⟨w, st2, e, I2, p2, hq2⟩ := h
    exact ⟨w, st2, e, I2, p.trans p2, hq2⟩
  | bad => trivial
theorem RR.mono {Q Q' : γ → δ → Sto → VEn → Prop} {r : VR γ} {q : Res δ} (h : RR a eD st eV Q r q) (m : ∀ x y st' eV', EI a st' eD eV' → Stp st eD eV st' eD eV' → Q x y st' eV' → Q' x y st' eV') : RR a eD st eV Q' r q := by
  cases r with
  | ok z eV2 =>
    obtain ⟨w, st2, e, I2, p2, sl2, hq2⟩ := h
    exact ⟨w, st2, e, I2, p2, sl2, m _ _ _ _ I2 p2 hq2⟩
  | exc c fs eV2 => exact h
  | bad => trivial
theorem RR.ok {Q : γ → δ → Sto → VEn → Prop} {x : γ} {y : δ} (I : EI a st eD eV) (h : Q x y st eV) : RR a eD st eV Q (.ok x eV) (.ok y st) := ⟨y, st, rfl, I, .refl, .refl, h⟩
theorem QO.base {o : Opd} (h : QO a eD st1 eV1 o d st2 eV2) (p : Stp st eD eV st1 eD eV1) : QO a eD st eV o d st2 eV2 := by
  refine ⟨h.1, ?_⟩
  cases o with
  | v t fr =>
    obtain ⟨h1, h2⟩ := h.2
    exact ⟨h1.base p, fun hf => by
      obtain ⟨l, e, hl⟩ := h2 hf
      exact ⟨l, e, Nat.le_trans p.len hl⟩⟩
  | p i => trivial
theorem QT.base (h : QT a eD st1 eV1 t d st2 eV2) (p : Stp st eD eV st1 eD eV1) : QT a eD st eV t d st2 eV2 := ⟨h.1, h.2.base p⟩
/-- an operand waits -/
theorem OpI.wait {o : Opd} (h : OpI a st eD eV o d) (p : Stp st eD eV st1 eD eV1) (sl : Sl eV eV1) : OpI a st1 eD eV1 o d := by
  cases o with
  | v t fr => exact h.stp p
  | p i => exact ⟨h.1, sl.is i h.2⟩
theorem Pv.wait {st0 : Sto} {eV0 : VEn} (h : Pv st0 eD eV0 d st) (hh : ∀ x, Hit st1 d x → Hit st d x) : Pv st0 eD eV0 d st1 := fun x hx => h x (hh x hx)
theorem Tmp.hits {fr : Bool} (h : Tmp a st eD eV d t fr) (p : Stp st eD eV st1 eD eV1) : ∀ x, Hit st1 d x → Hit st d x := (un_stay h.un (fun x hx => (h.pr x hx).2) p).2
theorem QT.wait {st0 : Sto} {eV0 : VEn} (h : QT a eD st0 eV0 t d st eV) (p : Stp st eD eV st1 eD eV1) : QT a eD st0 eV0 t d st1 eV1 := ⟨h.1.stp p, h.2.wait (h.1.hits p)⟩
theorem flat_tmp (u : Un st d t) (hf : ∀ x, ¬ Hit st d x) : Tmp a st eD eV d t false := ⟨u, fun x hx => absurd hx (hf x), fun z => nomatch z⟩
/-- slot i is shared from now on -/
theorem EI.share (I : EI a st eD eV) {i : Nat} {t : T} (hi : lk eV i = some (.s t)) : EI a st eD (eV.set i (some (.b t))) ∧ Stp st eD eV st eD (eV.set i (some (.b t))) ∧ Sl eV (eV.set i (some (.b t))) := by
  have hlt := lk_lt hi
  have rts : ∀ x, Rt eD (eV.set i (some (.b t))) x → Rt eD eV x ∧ eD.val i ≠ some (.ref x) := fun x ⟨j, v, h1, h2, h3⟩ => by
    by_cases hj : i = j
    · subst hj
      rw [lk_set_self hlt] at h1
      cases h1
      cases h2
    · rw [lk_set_ne hj] at h1
      exact ⟨⟨j, v, h1, h2, h3⟩, fun z => hj (I.uniq i j _ v x hi h1 rfl h2 z h3)⟩
  have sl : Sl eV (eV.set i (some (.b t))) := ⟨fun j hj => by
    by_cases h : i = j
    · subst h; rw [lk_set_self hlt]; rfl
    · rw [lk_set_ne h]; exact hj, fun j v h1 h2 => by
    by_cases h : i = j
    · subst h; rw [lk_set_self hlt] at h1; cases h1; cases h2
    · rw [lk_set_ne h] at h1; exact ⟨v, h1, h2⟩⟩
  refine ⟨⟨by simp [I.len], I.big, fun j v hv => ?_, fun j k v w x h1 h2 h3 h4 h5 h6 => ?_, fun j u hj => ?_⟩, ⟨Nat.le_refl _, fun _ _ _ => rfl, fun x ⟨j, v, h1, h2, h3⟩ => .inl ?_, fun j v x h1 h2 h3 => .inl ?_, fun x h => ?_⟩, sl⟩
  · by_cases hj : i = j
    · subst hj
      rw [lk_set_self hlt] at hv
      cases hv
      obtain ⟨d, e1, e2, l, rfl, e3, e4⟩ := I.slot i _ hi
      refine ⟨_, e1, e2, fun x hx => ?_⟩
      rcases hx.low with rfl | hx
      · exact ⟨.inr e3, fun z => (rts x z).2 e1⟩
      · exact ⟨(e4 x hx).1, fun z => (e4 x hx).2 (rts x z).1⟩
    · rw [lk_set_ne hj] at hv
      obtain ⟨d, e1, e2, e3⟩ := I.slot j v hv
      refine ⟨d, e1, e2, ?_⟩
      cases v with
      | s t => obtain ⟨l, q1, q2, q3⟩ := e3; exact ⟨l, q1, q2, fun x hx => ⟨(q3 x hx).1, fun z => (q3 x hx).2 (rts x z).1⟩⟩
      | l t => obtain ⟨l, q1, q2, q3⟩ := e3; exact ⟨l, q1, q2, fun x hx => ⟨(q3 x hx).1, fun z => (q3 x hx).2 (rts x z).1⟩⟩
      | m t => obtain ⟨l, q1, q2, q3⟩ := e3; exact ⟨l, q1, q2, fun x hx => ⟨(q3 x hx).1, fun z => (q3 x hx).2 (rts x z).1⟩⟩
      | b t => exact fun x hx => ⟨(e3 x hx).1, fun z => (e3 x hx).2 (rts x z).1⟩
      | r t => exact e3
  · have hne : ∀ j v, lk (eV.set i (some (.b t))) j = some v → v.rooted = true → lk eV j = some v := fun j v h hr => by
      by_cases hj : i = j
      · subst hj
        rw [lk_set_self hlt] at h
        cases h
        cases hr
      · rwa [lk_set_ne hj] at h
    exact I.uniq j k v w x (hne j v h1 h3) (hne k w h2 h4) h3 h4 h5 h6
  · by_cases hij : i = j
    · subst hij
      rw [lk_set_self hlt] at hj
      cases hj
    · rw [lk_set_ne hij] at hj
      exact I.mroot j u hj
  · by_cases hj : i = j
    · subst hj
      rw [lk_set_self hlt] at h1
      cases h1
      cases h2
    · rw [lk_set_ne hj] at h1
      exact ⟨j, v, h1, h2, h3⟩
  · by_cases hj : i = j
    · subst hj
      rw [lk_set_self hlt] at h1
      cases h1
      cases h2
    · rw [lk_set_ne hj] at h1
      exact ⟨v, h1, h2, h3⟩
  · obtain ⟨j, v, d, h1, h2, h3⟩ := h
    by_cases hj : i = j
    · subst hj
      exact .inl ⟨i, _, d, hi, h2, h3⟩
    · rw [lk_set_ne hj] at h1
      exact .inl ⟨j, v, d, h1, h2, h3⟩
theorem take_ok (I : EI a st eD eV) {o : Opd} (h : OpI a st eD eV o d) (ht : take eV o = .ok t eV1) : EI a st eD eV1 ∧ Stp st eD eV st eD eV1 ∧ Sl eV eV1 ∧ Tmp a st eD eV1 d t false := by
  cases o with
  | v t' fr =>
    cases ht
    exact ⟨I, .refl, .refl, h.un, h.pr, fun z => nomatch z⟩
  | p i =>
    obtain ⟨h1, h2⟩ := h
    simp only [take] at ht
    split at ht
    · rename_i t' hv
      cases ht
      obtain ⟨I1, p1, s1⟩ := I.share hv
      refine ⟨I1, p1, s1, ?_⟩
      obtain ⟨d', e1, e2, e3⟩ := I1.slot i _ (lk_set_self (lk_lt hv))
      rw [h1] at e1
      cases e1
      exact ⟨e2, e3, fun z => nomatch z⟩
    · rename_i t' hv
      split at ht
      · rename_i hf
        cases ht
        obtain ⟨d', e1, e2, e3⟩ := I.slot i _ hv
        rw [h1] at e1
        cases e1
        exact ⟨I, .refl, .refl, flat_tmp e2 (e2.flat_hit hf)⟩
      · cases ht
    · cases ht
theorem take_no {o : Opd} {c : Nat} {fs : List T} : take eV o ≠ .exc c fs eV1 := by
  cases o with
  | v t fr => intro h; cases h
  | p i =>
    simp only [take]
    intro h
    split at h
    · cases h
    · split at h <;> cases h
    · cases h
/-- taken, as a value -/
theorem RR.taken {Q : γ → δ → Sto → VEn → Prop} {st0 : Sto} {eV0 : VEn} {o : Opd} {f : T → VEn → VR γ} {q : Res δ} (I : EI a st eD eV) (p0 : Stp st0 eD eV0 st eD eV) (h : QO a eD st0 eV0 o d st eV)
    (k : ∀ t eV1, EI a st eD eV1 → Stp st0 eD eV0 st eD eV1 → Sl eV eV1 → QT a eD st0 eV0 t d st eV1 → RR a eD st eV1 Q (f t eV1) q) : RR a eD st eV Q ((take eV o).bind f) q := by
  cases ht : take eV o with
  | ok t eV1 =>
    obtain ⟨I1, p1, s1, tm⟩ := take_ok I h.1 ht
    refine RR.step p1 s1 (k t eV1 I1 (p0.trans p1) s1 ⟨tm, ?_⟩)
    cases o with
    | v t' fr => exact h.2.1
    | p i =>
      rcases op_reach h.1 with z | ⟨_, _, z⟩
      · exact fun x hx => p0.reach x (z x hx)
      · cases z
  | exc c fs eV1 => exact absurd ht take_no
  | bad => trivial
/-- the same from one beginning -/
theorem RR.take0 {Q : γ → δ → Sto → VEn → Prop} {st0 : Sto} {eV0 : VEn} {o : Opd} {f : T → VEn → VR γ} {q : Res δ} (I : EI a st eD eV) (p0 : Stp st0 eD eV0 st eD eV) (sl : Sl eV0 eV) (h : QO a eD st0 eV0 o d st eV)
    (k : ∀ t eV1, EI a st eD eV1 → Stp st0 eD eV0 st eD eV1 → Stp st eD eV st eD eV1 → Sl eV0 eV1 → QT a eD st0 eV0 t d st eV1 → RR a eD st0 eV0 Q (f t eV1) q) : RR a eD st0 eV0 Q ((take eV o).bind f) q := by
  cases ht : take eV o with
  | ok t eV1 =>
    obtain ⟨I1, p1, s1, tm⟩ := take_ok I h.1 ht
    refine k t eV1 I1 (p0.trans p1) p1 (sl.trans s1) ⟨tm, ?_⟩
    cases o with
    | v t' fr => exact h.2.1
    | p i =>
      rcases op_reach h.1 with z | ⟨_, _, z⟩
      · exact fun x hx => p0.reach x (z x hx)
      · cases z
  | exc c fs eV1 => exact absurd ht take_no
  | bad => trivial
/-- a new object -/
theorem EI.fresh (I : EI a st eD eV) {o : O} (hu : Un (st ++ [o]) (.ref st.length) t) (hv : ∀ x, Low (st ++ [o]) st.length x → a.Pr x ∧ ¬ Rt eD eV x) :
    EI a (st ++ [o]) eD eV ∧ Stp st eD eV (st ++ [o]) eD eV ∧ Tmp a (st ++ [o]) eD eV (.ref st.length) t true := by
  obtain ⟨I1, p1⟩ := I.grow (st1 := st ++ [o]) (by simp) (fun x hx => List.getElem?_append_left hx)
  refine ⟨I1, p1, hu, fun x hx => ?_, fun _ => ⟨st.length, rfl, I.big, fun z => ?_⟩⟩
  · rcases hx.low with rfl | hx
    · exact ⟨.inr I.big, fun z => by have := (I.root z).1; omega⟩
    · exact hv x hx
  · rcases p1.reach _ z with z | z
    · obtain ⟨i, v, d, h1, h2, h3⟩ := z
      obtain ⟨d', e1, e2, _⟩ := I.slot i v h1
      rw [h2] at e1
      cases e1
      have := e2.inside _ h3
      omega
    · have : ∀ x, Rc (st ++ [o]) eD eV x → x < st.length := fun x ⟨i, v, d, h1, h2, h3⟩ => by
        obtain ⟨d', e1, e2, _⟩ := I.slot i v h1
        rw [h2] at e1
        cases e1
        obtain ⟨_, u2⟩ := e2.stay (st' := st ++ [o]) fun y hy => List.getElem?_append_left (e2.inside y hy)
        exact e2.inside x (u2 x h3)
      have := this _ ‹Rc (st ++ [o]) eD eV st.length›
      omega
theorem grown {st0 : Sto} {o : O} {ds : List D} {ts : List T} (us : Uns st ds ts) : Uns (st ++ [o]) ds ts ∧ ∀ d ∈ ds, ∀ x, Hit (st ++ [o]) d x → Hit st d x :=
  us.stay fun d hd x hx => List.getElem?_append_left (us.inside d hd x hx)
/-- a new list -/
theorem new_list_ok (I : EI a st eD eV) {ds : List D} {ts : List T} (us : Uns st ds ts) (hv : ∀ d ∈ ds, ∀ x, Hit st d x → a.Pr x ∧ ¬ Rt eD eV x) :
    EI a (st ++ [.lst ds]) eD eV ∧ Stp st eD eV (st ++ [.lst ds]) eD eV ∧ Tmp a (st ++ [.lst ds]) eD eV (.ref st.length) (.lst ts) true ∧ ∀ x, Low (st ++ [.lst ds]) st.length x → ∃ d ∈ ds, Hit st d x := by
  obtain ⟨u1, u2⟩ := grown (o := .lst ds) (st0 := st) us
  have hl : (st ++ [O.lst ds])[st.length]? = some (.lst ds) := by simp
  have low : ∀ x, Low (st ++ [.lst ds]) st.length x → ∃ d ∈ ds, Hit st d x := fun x ⟨o, d, h1, h2, h3⟩ => by
    rw [hl] at h1
    cases h1
    exact ⟨d, h2, u2 d h2 x h3⟩
  obtain ⟨q1, q2, q3⟩ := I.fresh (o := .lst ds) (.lst hl u1) fun x hx => by
    obtain ⟨d, h1, h2⟩ := low x hx
    exact hv d h1 x h2
  exact ⟨q1, q2, q3, low⟩
/-- the answer: a new list -/
theorem RR.newList {Q : Opd → D → Sto → VEn → Prop} {st0 : Sto} {eV0 : VEn} (I : EI a st eD eV) (p0 : Stp st0 eD eV0 st eD eV) {ds : List D} {ts : List T} (us : Uns st ds ts) (hv : ∀ d ∈ ds, ∀ x, Hit st d x → a.Pr x ∧ ¬ Rt eD eV x) (hp : ∀ d ∈ ds, Pv st0 eD eV0 d st)
    (hq : ∀ o d st' eV', QO a eD st0 eV0 o d st' eV' → Q o d st' eV') (hl : ts.length ≤ line) : RR a eD st eV Q ((VR.of (okL ts) eV).bind fun q env => .ok (.v q.1 q.2) env) (newL ds st) := by
  refine RR.of fun q hq' => ?_
  unfold okL at hq'
  rw [if_pos hl] at hq'
  cases hq'
  obtain ⟨I1, p1, tm, low⟩ := new_list_ok I us hv
  refine ⟨.ref st.length, st ++ [O.lst ds], by unfold newL; rw [if_pos (by rw [us.length]; exact hl)]; rfl, I1, p1, .refl, hq _ _ _ _ ⟨tm, fun x hx => ?_, fun _ => ⟨_, rfl, p0.len⟩⟩⟩
  rcases hx.low with rfl | hx
  · exact .inr p0.len
  · obtain ⟨d, h1, h2⟩ := low x hx
    exact hp d h1 x h2
theorem RR.newOk {Q : Opd → D → Sto → VEn → Prop} {st0 : Sto} {eV0 : VEn} (I : EI a st eD eV) (p0 : Stp st0 eD eV0 st eD eV) {ds : List D} {ts : List T} (us : Uns st ds ts) (hv : ∀ d ∈ ds, ∀ x, Hit st d x → a.Pr x ∧ ¬ Rt eD eV x) (hp : ∀ d ∈ ds, Pv st0 eD eV0 d st)
    (hq : ∀ o d st' eV', QO a eD st0 eV0 o d st' eV' → Q o d st' eV') {q : T × Bool} (hl : okL ts = some q) : RR a eD st eV Q (.ok (.v q.1 q.2) eV) (newL ds st) := by
  have h := RR.newList I p0 us hv hp hq (by
    unfold okL at hl
    split at hl
    · assumption
    · cases hl)
  rw [hl] at h
  exact h
/-- the answer: a value without objects -/
theorem RR.flatV {Q : Opd → D → Sto → VEn → Prop} {st0 : Sto} {eV0 : VEn} (I : EI a st eD eV) (u : Un st d t) (hf : ∀ x, ¬ Hit st d x) (hq : ∀ o d st' eV', QO a eD st0 eV0 o d st' eV' → Q o d st' eV') : RR a eD st eV Q (.ok (.v t false) eV) (.ok d st) :=
  RR.ok I (hq _ _ _ _ ⟨flat_tmp u hf, fun x hx => absurd hx (hf x), fun z => nomatch z⟩)
end
end Ev

/-! Operators, subscripts, built-ins, methods: from trees to the store. -/
namespace Ev
open PySem
section
variable {a : Act} {st st0 st1 : Sto} {eD : En} {eV eV0 eV1 : VEn} {d e : D} {t : T}
theorem part_pv (p0 : Stp st0 eD eV0 st eD eV) {o : Opd} (h : QO a eD st0 eV0 o d st eV) (hp : Part st d e) : Pv st0 eD eV0 e st := by
  intro x hx
  cases o with
  | v t fr => exact h.2.1 x (hp.1 x hx)
  | p i =>
    rcases op_reach h.1 with z | ⟨_, _, z⟩
    · exact p0.reach x (z x (hp.1 x hx))
    · cases z
/-- the answer: a part of an operand -/
theorem RR.part {st0 : Sto} {eV0 : VEn} (I : EI a st eD eV) (p0 : Stp st0 eD eV0 st eD eV) {o : Opd} (h : QO a eD st0 eV0 o d st eV) (hp : Part st d e) (u : Un st e t) : RR a eD st eV (QO a eD st0 eV0) (.ok (.v t false) eV) (.ok e st) :=
  RR.ok I ⟨⟨u, op_below I h.1 hp, fun z => nomatch z⟩, part_pv p0 h hp, fun z => nomatch z⟩
theorem uns_mem {ds es : List D} (h : ∀ e ∈ es, e ∈ ds) (hp : ∀ e ∈ ds, Part st d e) : ∀ e ∈ es, Part st d e := fun e he => hp e (h e he)
/-- the answer: a new list of parts of two operands -/
theorem RR.parts {st0 : Sto} {eV0 : VEn} (I : EI a st eD eV) (p0 : Stp st0 eD eV0 st eD eV) {o o' : Opd} {d' : D} (h : QO a eD st0 eV0 o d st eV) (h' : QO a eD st0 eV0 o' d' st eV) {ds : List D} {ts : List T} {q : T × Bool} (us : Uns st ds ts) (hp : ∀ e ∈ ds, Part st d e ∨ Part st d' e) (hl : okL ts = some q) :
    RR a eD st eV (QO a eD st0 eV0) (.ok (.v q.1 q.2) eV) (newL ds st) :=
  RR.newOk I p0 us (fun e he => (hp e he).elim (op_below I h.1) (op_below I h'.1)) (fun e he => (hp e he).elim (part_pv p0 h) (part_pv p0 h')) (fun _ _ _ _ z => z) hl
theorem bin_rr (I : EI a st eD eV) (p0 : Stp st0 eD eV0 st eD eV) {ox oy : Opd} {x y : D} {tx ty : T} {op : Operator} {q : T × Bool} (hx : QO a eD st0 eV0 ox x st eV) (hy : QO a eD st0 eV0 oy y st eV) (ux : Un st x tx) (uy : Un st y ty) (h : binT op tx ty = some q) :
    RR a eD st eV (QO a eD st0 eV0) (.ok (.v q.1 q.2) eV) (bin op x y st) := by
  unfold binT at h
  split at h
  · cases ux
    cases uy
    obtain ⟨k, hk, rfl⟩ := Option.map_eq_some_iff.mp h
    show RR a eD st eV _ _ (binI op _ _ st)
    rw [binI_un hk]
    exact RR.flatV I (.int k) (fun x hx => by cases hx) fun _ _ _ _ z => z
  · rename_i xs n
    cases uy
    cases ux with
    | lst hl us =>
      split at h
      · split at h
        · rename_i hc
          unfold bin
          simp only [ints2, lisOf, seqOf, hl, repD]
          rw [us.length, if_pos hc]
          exact RR.parts I p0 hx hy (us.rep n.toNat) (fun e he => .inl (by
            obtain ⟨l, h1, h2⟩ := List.mem_flatten.mp he
            rw [List.mem_replicate] at h1
            rw [h1.2] at h2
            exact .lst hl h2)) h
        · cases h
      · cases h
  · rename_i h1 h2
    split at h
    · rename_i xs ys hx' hy'
      obtain ⟨ds, e1, us, ps⟩ := lis_un ux hx'
      obtain ⟨es, e2, vs, qs⟩ := lis_un uy hy'
      have e0 : bin .Add x y st = newL (ds ++ es) st := by
        unfold bin
        have : ints2 x y = none := by
          cases x <;> first | rfl | (simp [lisOf, seqOf] at e1)
        rw [this]
        simp only [e1, e2]
      rw [e0]
      exact RR.parts I p0 hx hy (us.append vs) (fun e he => (List.mem_append.mp he).elim (fun z => .inl (ps e z)) fun z => .inr (qs e z)) h
    · cases h
theorem place_len {xs : List T} {ds : List D} (us : Uns st ds xs) (i : Int) : place xs.length i = place ds.length i := by rw [us.length]
theorem ix_rr (I : EI a st eD eV) (p0 : Stp st0 eD eV0 st eD eV) {ox oy : Opd} {x y : D} {tx ty r : T} (hx : QO a eD st0 eV0 ox x st eV) (ux : Un st x tx) (uy : Un st y ty) (h : ixT tx ty = some r) :
    RR a eD st eV (QO a eD st0 eV0) (.ok (.v r false) eV) (Res.of (ixD x y st) st) := by
  unfold ixT at h
  split at h
  · rename_i kvs hd
    obtain ⟨l, ks, rfl, h1, h2, us⟩ := dct_un ux hd
    split at h
    · rename_i hk
      have hk' : isKey y = true := by rw [← isKey_un uy]; exact hk
      have e : ixD (.ref l) y st = dGet ks y := by simp [ixD, h2, hk', h1]
      rw [e]
      rcases get_un us uy hk' with ⟨z, _⟩ | ⟨v, tv, z1, z2, z3, kv, z4, z5⟩
      · rw [z] at h; cases h
      · rw [z1] at h
        cases h
        rw [z2]
        subst z5
        exact RR.part I p0 hx (.dct h1 z4) z3
    · cases h
  · rename_i hd
    have hd' := dct_no ux hd
    split at h
    · rename_i i
      cases uy
      split at h
      · rename_i z
        cases ux
        split at h
        · rename_i hz
          obtain ⟨j, hj, h⟩ := Option.bind_eq_some_iff.mp h
          obtain ⟨c, hc, rfl⟩ := Option.map_eq_some_iff.mp h
          have e : ixD (.str z) (.int i) st = some (.str ⟨#[c]⟩) := by
            unfold ixD
            rw [hd']
            simp only
            rw [if_pos hz, hj, Option.bind_some, hc]
            rfl
          rw [e]
          exact RR.flatV I (.str _) (fun x hx => by cases hx) fun _ _ _ _ z => z
        · cases h
      · rename_i hns
        obtain ⟨xs, hs, h⟩ := Option.bind_eq_some_iff.mp h
        obtain ⟨j, hj, h⟩ := Option.bind_eq_some_iff.mp h
        obtain ⟨ds, e1, us, ps⟩ := seq_un ux hs
        obtain ⟨v, hv, uv⟩ := us.get h
        have e : ixD x (.int i) st = some v := by
          rw [place_len us] at hj
          exact ix_seq e1 (by unfold item; rw [hj]; exact hv)
        rw [e]
        exact RR.part I p0 hx (ps v (List.mem_of_getElem? hv)) uv
    · cases h
theorem sl_rr (I : EI a st eD eV) (p0 : Stp st0 eD eV0 st eD eV) {ox : Opd} {x : D} {tx r : T} {lo hi : Option Int} (hx : QO a eD st0 eV0 ox x st eV) (ux : Un st x tx) (h : slT tx lo hi = some r) :
    RR a eD st eV (QO a eD st0 eV0) (.ok (.v r true) eV) (slD x lo hi st) := by
  unfold slT at h
  obtain ⟨xs, hs, rfl⟩ := Option.map_eq_some_iff.mp h
  obtain ⟨ds, e1, us, ps⟩ := lis_un ux hs
  unfold slD
  rw [e1]
  have hc : Uns st (cut ds lo hi) (cutL xs lo hi) := by
    unfold cut cutL
    rw [us.length]
    exact (us.drop _).take _
  have hm : ∀ e ∈ cut ds lo hi, e ∈ ds := fun e he => List.mem_of_mem_drop (List.mem_of_mem_take he)
  obtain ⟨I1, p1, tm, low⟩ := new_list_ok I hc (fun e he => op_below I hx.1 (ps e (hm e he)))
  refine ⟨_, _, rfl, I1, p1, .refl, tm, fun z hz => ?_, fun _ => ⟨_, rfl, p0.len⟩⟩
  rcases hz.low with rfl | hz
  · exact .inr p0.len
  · obtain ⟨e, h1, h2⟩ := low z hz
    exact part_pv p0 hx (ps e (hm e h1)) z h2
/-- operands, one by one -/
inductive QOs (a : Act) (eD : En) (st0 : Sto) (eV0 : VEn) (st : Sto) (eV : VEn) : List Opd → List D → Prop
  | nil : QOs a eD st0 eV0 st eV [] []
  | cons {o : Opd} {d : D} {os : List Opd} {ds : List D} : QO a eD st0 eV0 o d st eV → QOs a eD st0 eV0 st eV os ds → QOs a eD st0 eV0 st eV (o :: os) (d :: ds)
theorem QOs.uns (I : EI a st eD eV) : ∀ {os : List Opd} {ds : List D} {ts : List T}, QOs a eD st0 eV0 st eV os ds → os.mapM (peek eV) = some ts → Uns st ds ts
  | _, _, ts, .nil, h => by simp at h; subst h; exact .nil
  | _, _, ts, .cons (o := o) (os := os) q qs, h => by
    rw [List.mapM_cons] at h
    cases h1 : peek eV o with
    | none => rw [h1] at h; simp at h
    | some t =>
      cases h2 : os.mapM (peek eV) with
      | none => rw [h1, h2] at h; simp at h
      | some us =>
        rw [h1, h2] at h
        simp at h
        subst h
        exact .cons (peek_ok I q.1 h1) (QOs.uns I qs h2)
theorem uns1 {ds : List D} {t : T} (h : Uns st ds [t]) : ∃ d, ds = [d] ∧ Un st d t := by
  cases h with
  | cons u us => cases us; exact ⟨_, rfl, u⟩
theorem uns2 {ds : List D} {t s : T} (h : Uns st ds [t, s]) : ∃ d e, ds = [d, e] ∧ Un st d t ∧ Un st e s := by
  cases h with
  | cons u us =>
    cases us with
    | cons v vs => cases vs; exact ⟨_, _, rfl, u, v⟩
theorem qos1 {os : List Opd} (h : QOs a eD st0 eV0 st eV os [d]) : ∃ o, os = [o] ∧ QO a eD st0 eV0 o d st eV := by
  cases h with
  | cons u us => cases us; exact ⟨_, rfl, u⟩
theorem int_flat {i : Int} : ∀ x, ¬ Hit st (.int i) x := fun x h => by cases h
/-- the built-in functions (but min and max of two) -/
theorem bi_rr (I : EI a st eD eV) (p0 : Stp st0 eD eV0 st eD eV) {os : List Opd} {ds : List D} {ts : List T} {f : Bi} {q : T × Bool} (hf : f ≠ .min2 ∧ f ≠ .max2) (ho : QOs a eD st0 eV0 st eV os ds) (us : Uns st ds ts) (h : biT f ts = some q) :
    RR a eD st eV (QO a eD st0 eV0) (.ok (.v q.1 q.2) eV) (bi f ds st) := by
  have fin : ∀ k : Int, RR a eD st eV (QO a eD st0 eV0) (.ok (.v (.int k) false) eV) (.ok (.int k) st) := fun k => RR.flatV I (.int k) int_flat fun _ _ _ _ z => z
  unfold biT at h
  split at h
  · rename_i z
    obtain ⟨d, rfl, u⟩ := uns1 us
    cases u
    split at h
    · rename_i hz
      cases h
      have e : bi .len [.str z] st = .ok (.int z.length) st := by rw [bi, if_pos hz]
      rw [e]
      exact fin _
    · cases h
  · rename_i x hns
    obtain ⟨d, rfl, u⟩ := uns1 us
    split at h
    · rename_i kvs hd
      cases h
      obtain ⟨l, ks, rfl, h1, h2, uk⟩ := dct_un u hd
      rw [len_dct h1, uk.length]
      exact fin _
    · obtain ⟨xs, hs, rfl⟩ := Option.map_eq_some_iff.mp h
      obtain ⟨es, e1, vs, _⟩ := seq_un u hs
      have e : bi .len [d] st = .ok (.int es.length) st := by
        cases u with
        | str z => exact absurd rfl (hns z)
        | scr => simp [seqOf] at e1; subst e1; simp [bi, seqOf, dctOf]
        | tup => simp [seqOf] at e1; subst e1; simp [bi, seqOf, dctOf]
        | lst hl _ => simp [seqOf, hl] at e1; subst e1; exact len_ref hl
        | dct hl _ => simp [seqOf, hl] at e1
        | non => cases e1
        | bl => cases e1
        | int => cases e1
      rw [e, vs.length]
      exact fin _
  · obtain ⟨d, rfl, u⟩ := uns1 us
    cases u
    cases h
    exact fin _
  · obtain ⟨d, rfl, u⟩ := uns1 us
    obtain ⟨m, hm, rfl⟩ := Option.map_eq_some_iff.mp h
    obtain ⟨ns, hn, hm⟩ := Option.bind_eq_some_iff.mp hm
    obtain ⟨xs, hx, hn⟩ := Option.bind_eq_some_iff.mp hn
    obtain ⟨es, e1, vs, _⟩ := lis_un u hx
    have e : bi .min1 [d] st = .ok (.int m) st := by simp [bi, e1, ints_un vs hn, hm]
    rw [e]
    exact fin _
  · obtain ⟨d, rfl, u⟩ := uns1 us
    obtain ⟨m, hm, rfl⟩ := Option.map_eq_some_iff.mp h
    obtain ⟨ns, hn, hm⟩ := Option.bind_eq_some_iff.mp hm
    obtain ⟨xs, hx, hn⟩ := Option.bind_eq_some_iff.mp hn
    obtain ⟨es, e1, vs, _⟩ := lis_un u hx
    have e : bi .max1 [d] st = .ok (.int m) st := by simp [bi, e1, ints_un vs hn, hm]
    rw [e]
    exact fin _
  · exact absurd rfl hf.1
  · exact absurd rfl hf.2
  · obtain ⟨d, rfl, u⟩ := uns1 us
    cases u
    cases h
    exact fin _
  · obtain ⟨d, rfl, u⟩ := uns1 us
    cases u
    cases h
    exact fin _
  · -- sorted
    obtain ⟨d, rfl, u⟩ := uns1 us
    obtain ⟨o, rfl, hq⟩ := qos1 ho
    split at h
    · rename_i kvs hd
      obtain ⟨l, ks, rfl, h1, h2, uk⟩ := dct_un u hd
      obtain ⟨ys, hy, h⟩ := Option.bind_eq_some_iff.mp h
      obtain ⟨es, q1, q2, q3⟩ := sort_un (keys_un uk) hy
      have e : bi .sorted [.ref l] st = newL es st := by simp [bi, h2, h1, q1]
      rw [e]
      refine RR.parts I p0 hq hq q2 (fun e he => .inl (Part.none fun x hx => ?_)) h
      obtain ⟨kv, hkv, rfl⟩ := List.mem_map.mp (q3 e he)
      have hk := uk.isKey kv hkv
      exact isKey_hit hk x hx
    · rename_i hd
      obtain ⟨ys, hy, h⟩ := Option.bind_eq_some_iff.mp h
      obtain ⟨xs, hx, hy⟩ := Option.bind_eq_some_iff.mp hy
      obtain ⟨es, e1, vs, ps⟩ := lis_un u hx
      obtain ⟨zs, q1, q2, q3⟩ := sort_un vs hy
      have e : bi .sorted [d] st = newL zs st := by simp [bi, dct_no u hd, e1, q1]
      rw [e]
      exact RR.parts I p0 hq hq q2 (fun e he => .inl (ps e (q3 e he))) h
  · obtain ⟨d, rfl, u⟩ := uns1 us
    obtain ⟨o, rfl, hq⟩ := qos1 ho
    obtain ⟨xs, hs, h⟩ := Option.bind_eq_some_iff.mp h
    obtain ⟨es, e1, vs, ps⟩ := seq_un u hs
    rw [list_seq e1]
    exact RR.parts I p0 hq hq vs (fun e he => .inl (ps e he)) h
  · obtain ⟨d, rfl, u⟩ := uns1 us
    obtain ⟨o, rfl, hq⟩ := qos1 ho
    obtain ⟨xs, hs, rfl⟩ := Option.map_eq_some_iff.mp h
    obtain ⟨es, e1, vs, ps⟩ := seq_un u hs
    rw [tuple_seq e1]
    have hh : ∀ x, Hit st (.tup es) x → ∃ e ∈ es, Hit st e x := fun x hx => by cases hx with | tup h1 h2 => exact ⟨_, h1, h2⟩
    refine RR.ok I ⟨⟨.tup vs, fun x hx => ?_, fun z => nomatch z⟩, fun x hx => ?_, fun z => nomatch z⟩
    · obtain ⟨e, h1, h2⟩ := hh x hx
      exact op_below I hq.1 (ps e h1) x h2
    · obtain ⟨e, h1, h2⟩ := hh x hx
      exact part_pv p0 hq (ps e h1) x h2
  · obtain ⟨d, rfl, u⟩ := uns1 us
    obtain ⟨ns, hn, rfl⟩ := Option.map_eq_some_iff.mp h
    obtain ⟨xs, hx, hn⟩ := Option.bind_eq_some_iff.mp hn
    obtain ⟨es, e1, vs, _⟩ := lis_un u hx
    have e : bi .sum [d] st = .ok (.int ns.sum) st := by simp [bi, e1, ints_un vs hn]
    rw [e]
    exact fin _
  · rename_i i j
    obtain ⟨d, e, rfl, u, v⟩ := uns2 us
    cases u
    cases v
    split at h
    · rename_i hc
      cases h
      have e : bi .divmod [.int i, .int j] st = .ok (.tup [.int (i / j), .int (i % j)]) st := by rw [bi, if_pos hc]
      rw [e]
      refine RR.flatV I (.tup (.cons (.int _) (.cons (.int _) .nil))) (fun x hx => ?_) fun _ _ _ _ z => z
      cases hx with
      | tup h1 h2 =>
        simp at h1
        rcases h1 with rfl | rfl <;> cases h2
    · cases h
  · cases h
end
end Ev

/-! Changes: methods, stores. -/
namespace Ev
open PySem
section
variable {a : Act} {st st0 st1 : Sto} {eD : En} {eV eV0 eV1 : VEn} {d e : D} {t : T}
/-- values that may be put into an object of slot i -/
def Src (a : Act) (st0 : Sto) (eD : En) (eV0 : VEn) (st : Sto) (eV : VEn) (e : D) : Prop := ∀ x, Hit st e x → (a.Pr x ∧ ¬ Rt eD eV x) ∧ (Rc st0 eD eV0 x ∨ st0.length ≤ x)
theorem QT.src (h : QT a eD st0 eV0 t d st eV) : Src a st0 eD eV0 st eV d := fun x hx => ⟨h.1.pr x hx, h.2 x hx⟩
theorem EI.mutate {i l : Nat} {v w : VS} {o : O} {t' : T} (I : EI a st eD eV) (p0 : Stp st0 eD eV0 st eD eV) (sl : Sl eV0 eV) (hv : lk eV i = some v) (hw : v.mut t' = some w) (hl : eD.val i = some (.ref l)) (hu : Un (st.set l o) (.ref l) t')
    (hlow : ∀ x, Low (st.set l o) l x → (a.Pr x ∧ ¬ Rt eD eV x) ∧ (Rc st0 eD eV0 x ∨ st0.length ≤ x)) : EI a (st.set l o) eD (eV.set i (some w)) ∧ Stp st0 eD eV0 (st.set l o) eD (eV.set i (some w)) ∧ Sl eV0 (eV.set i (some w)) := by
  have hr : v.rooted = true := by cases v <;> first | rfl | cases hw
  have hlt := lk_lt hv
  obtain ⟨q1, q2⟩ := I.change (st1 := st.set l o) (eV1 := eV.set i (some w)) p0 (by simp) (fun j => j = i) (fun j hj => by subst hj; exact ⟨v, hv, by cases v <;> first | rfl | cases hw⟩) (fun x _ hx hx2 => by
      have : x ≠ l := fun z => by subst z; exact hx2 i rfl hl
      rw [List.getElem?_set_ne this.symm]) (by simp) (fun j hj => lk_set_ne (fun z => hj z.symm)) (fun j v' l' hj hv' hl' => by
      subst hj
      rw [hv] at hv'
      cases hv'
      rw [hl] at hl'
      cases hl'
      refine ⟨t', ?_, hu, hlow⟩
      rw [lk_set_self hlt]
      cases v <;> cases hw <;> rfl)
  refine ⟨q1, q2, fun j hj => ?_, fun j u h1 h2 => ?_⟩
  · by_cases hij : i = j
    · subst hij; rw [lk_set_self hlt]; rfl
    · rw [lk_set_ne hij]; exact sl.is j hj
  · by_cases hij : i = j
    · subst hij; exact sl.own i v hv (by cases v <;> first | rfl | cases hw)
    · rw [lk_set_ne hij] at h1; exact sl.own j u h1 h2
/-- what stands below slot i's object may be put there again -/
theorem own_src {i l : Nat} {v : VS} (I : EI a st eD eV) (p0 : Stp st0 eD eV0 st eD eV) (hv : lk eV i = some v) (hr : v.rooted = true) (hl : eD.val i = some (.ref l)) (hp : Part st (.ref l) e) : Src a st0 eD eV0 st eV e := by
  intro x hx
  obtain ⟨d', e1, e2, e3⟩ := I.slot i v hv
  rw [hl] at e1
  cases e1
  refine ⟨?_, p0.reach x ⟨i, v, _, hv, hl, hp.1 x hx⟩⟩
  have := hp.2 l rfl x hx
  cases v with
  | s t => obtain ⟨l', e, _, q⟩ := e3; cases e; exact q x this
  | l t => obtain ⟨l', e, _, q⟩ := e3; cases e; exact q x this
  | m t => obtain ⟨l', e, _, q⟩ := e3; cases e; exact q x this
  | r t => cases hr
  | b t => cases hr
theorem src_off {l : Nat} (hrt : Rt eD eV l) (hs : Src a st0 eD eV0 st eV e) {o : O} : ∀ x, Hit st e x → (st.set l o)[x]? = st[x]? := fun x hx => by
  have : x ≠ l := fun z => by subst z; exact (hs x hx).1.2 hrt
  rw [List.getElem?_set_ne this.symm]
theorem mut_lst {i l : Nat} {v w : VS} {ds : List D} {ts : List T} (I : EI a st eD eV) (p0 : Stp st0 eD eV0 st eD eV) (sl : Sl eV0 eV) (hv : lk eV i = some v) (hw : v.mut (.lst ts) = some w) (hl : eD.val i = some (.ref l)) (hlt : l < st.length) (us : Uns st ds ts)
    (hs : ∀ e ∈ ds, Src a st0 eD eV0 st eV e) : EI a (st.set l (.lst ds)) eD (eV.set i (some w)) ∧ Stp st0 eD eV0 (st.set l (.lst ds)) eD (eV.set i (some w)) ∧ Sl eV0 (eV.set i (some w)) := by
  have hr : v.rooted = true := by cases v <;> first | rfl | cases hw
  have hrt : Rt eD eV l := ⟨i, v, hv, hr, hl⟩
  obtain ⟨u1, u2⟩ := us.stay (st' := st.set l (.lst ds)) fun e he => src_off hrt (hs e he)
  have hg : (st.set l (O.lst ds))[l]? = some (.lst ds) := List.getElem?_set_self hlt
  refine I.mutate p0 sl hv hw hl (.lst hg u1) fun x ⟨o, e, h1, h2, h3⟩ => ?_
  rw [hg] at h1
  cases h1
  exact hs e h2 x (u2 e h2 x h3)
theorem mut_dct {i l : Nat} {v w : VS} {ks : List (D × D)} {kvs : List (T × T)} (I : EI a st eD eV) (p0 : Stp st0 eD eV0 st eD eV) (sl : Sl eV0 eV) (hv : lk eV i = some v) (hw : v.mut (.dct kvs) = some w) (hl : eD.val i = some (.ref l)) (hlt : l < st.length) (us : Unk st ks kvs)
    (hs : ∀ e ∈ ks, Src a st0 eD eV0 st eV e.2) : EI a (st.set l (.dct ks)) eD (eV.set i (some w)) ∧ Stp st0 eD eV0 (st.set l (.dct ks)) eD (eV.set i (some w)) ∧ Sl eV0 (eV.set i (some w)) := by
  have hr : v.rooted = true := by cases v <;> first | rfl | cases hw
  have hrt : Rt eD eV l := ⟨i, v, hv, hr, hl⟩
  obtain ⟨u1, u2⟩ := us.stay (st' := st.set l (.dct ks)) fun e he => src_off hrt (hs e he)
  have hg : (st.set l (O.dct ks))[l]? = some (.dct ks) := List.getElem?_set_self hlt
  refine I.mutate p0 sl hv hw hl (.dct hg u1) fun x ⟨o, e, h1, h2, h3⟩ => ?_
  rw [hg] at h1
  cases h1
  obtain ⟨kv, h4, rfl⟩ := List.mem_map.mp h2
  exact hs kv h4 x (u2 kv h4 x h3)
theorem tmp_src {fr : Bool} (h : Tmp a st eD eV e t fr) (hp : Pv st0 eD eV0 e st) : Src a st0 eD eV0 st eV e := fun x hx => ⟨h.pr x hx, hp x hx⟩
theorem src_tmp (hs : Src a st0 eD eV0 st eV e) (u : Un st e t) : Tmp a st eD eV e t false := ⟨u, fun x hx => (hs x hx).1, fun z => nomatch z⟩
/-- a value that is no object's owner is so behind a change of slot i's object -/
theorem src_after {i l : Nat} {v w : VS} {o : O} (hv : lk eV i = some v) (hr : v.rooted = true) (hl : eD.val i = some (.ref l)) (hw : w.rooted = true) (hs : Src a st0 eD eV0 st eV e) (u : Un st e t) : QT a eD st0 eV0 t e (st.set l o) (eV.set i (some w)) := by
  have hrt : Rt eD eV l := ⟨i, v, hv, hr, hl⟩
  obtain ⟨u1, u2⟩ := u.stay (st' := st.set l o) (src_off hrt hs)
  refine ⟨⟨u1, fun x hx => ⟨(hs x (u2 x hx)).1.1, fun z => (hs x (u2 x hx)).1.2 ?_⟩, fun z => nomatch z⟩, fun x hx => (hs x (u2 x hx)).2⟩
  obtain ⟨j, v', h1, h2, h3⟩ := z
  by_cases hij : i = j
  · subst hij
    exact ⟨i, v, hv, hr, h3⟩
  · rw [lk_set_ne hij] at h1
    exact ⟨j, v', h1, h2, h3⟩
theorem mut_some {v w : VS} {t : T} (h : v.mut t = some w) : v.rooted = true ∧ w.rooted = true ∧ w.t = t := by
  cases v <;> cases h <;> exact ⟨rfl, rfl, rfl⟩
theorem dSet_memV {ks : List (D × D)} {k v : D} {kv : D × D} (h : kv ∈ dSet ks k v) : (∃ q ∈ ks, q.2 = kv.2) ∨ kv.2 = v := by
  unfold dSet at h
  split at h
  · obtain ⟨q, h1, rfl⟩ := List.mem_map.mp h
    split
    · exact .inr rfl
    · exact .inl ⟨q, h1, rfl⟩
  · rcases List.mem_append.mp h with h | h
    · exact .inl ⟨kv, h, rfl⟩
    · simp at h
      exact .inr (by rw [h])
/-- the methods that change their object -/
theorem mt_rr {i l : Nat} {v w : VS} {m : Mt} {ds : List D} {ts : List T} {q : T × T} (I : EI a st eD eV) (p0 : Stp st0 eD eV0 st eD eV) (sl : Sl eV0 eV) (hm : mtMut m = true) (hv : lk eV i = some v) (hl : eD.val i = some (.ref l)) (us : Uns st ds ts) (hs : ∀ e ∈ ds, Src a st0 eD eV0 st eV e)
    (hq : mtT m v.t ts = some q) (hw : v.mut q.2 = some w) : ∃ kd, (kindD st (.ref l) = some kd ∧ mtOk kd m = true) ∧ RR a eD st0 eV0 (QO a eD st0 eV0) (.ok (.v q.1 false) (eV.set i (some w))) (mt kd m (.ref l) ds st) := by
  obtain ⟨d', e1, e2, e3⟩ := I.slot i v hv
  rw [hl] at e1
  cases e1
  obtain ⟨hr, hr', _⟩ := mut_some hw
  have hlt : l < st.length := e2.inside l .ref
  have fin : ∀ {r : D} {o : O} {st' : Sto}, st' = st.set l o → Un st r q.1 → Src a st0 eD eV0 st eV r → (EI a st' eD (eV.set i (some w)) ∧ Stp st0 eD eV0 st' eD (eV.set i (some w)) ∧ Sl eV0 (eV.set i (some w))) → RR a eD st0 eV0 (QO a eD st0 eV0) (.ok (.v q.1 false) (eV.set i (some w))) (.ok r st') := by
    intro r o st' e0 u hsr ⟨I1, p1, s1⟩
    subst e0
    have qt := src_after (o := o) hv hr hl hr' hsr u
    exact ⟨r, _, rfl, I1, p1, s1, qt.1, qt.2, fun z => nomatch z⟩
  have nonsrc : Src a st0 eD eV0 st eV .non := fun x hx => by cases hx
  generalize hx : v.t = x at e2 hq
  cases e2 with
  | lst h us0 =>
    rename_i es xs
    have own : ∀ e ∈ es, Src a st0 eD eV0 st eV e := fun e he => own_src I p0 hv hr hl (.lst h he)
    refine ⟨.l, ⟨by simp [kindD, h], ?_⟩, ?_⟩
    · unfold mtT at hq
      split at hq <;> first | rfl | contradiction
    · unfold mtT at hq
      split at hq
      · rename_i y heq
        cases heq
        obtain ⟨d, rfl, u⟩ := uns1 us
        split at hq
        · rename_i hz
          cases hq
          have e : mt .l .append (.ref l) [d] st = .ok .non (st.set l (.lst (es ++ [d]))) := by rw [us0.length.symm] at hz; simp [mt, h, mtL]; simpa using hz
          rw [e]
          exact fin rfl .non nonsrc (mut_lst I p0 sl hv hw hl hlt (us0.append (.cons u .nil)) fun e he => by
            rcases List.mem_append.mp he with he | he
            · exact own e he
            · simp at he; subst he; exact hs _ List.mem_cons_self)
        · cases hq
      · rename_i heq
        cases heq
        cases us
        cases hq
        have e : mt .l .clear (.ref l) [] st = .ok .non (st.set l (.lst [])) := by simp [mt, h, mtL]
        rw [e]
        exact fin rfl .non nonsrc (mut_lst I p0 sl hv hw hl hlt .nil fun e he => by cases he)
      · rename_i heq
        cases heq
        cases us
        obtain ⟨y, hy, rfl⟩ := Option.map_eq_some_iff.mp hq
        obtain ⟨d, hd, ud⟩ := us0.get hy
        rw [← us0.length] at hd
        have e : mt .l .pop0 (.ref l) [] st = .ok d (st.set l (.lst es.dropLast)) := by simp [mt, h, mtL, hd]
        rw [e]
        exact fin rfl ud (own d (List.mem_of_getElem? hd)) (mut_lst I p0 sl hv hw hl hlt us0.dropLast fun e he => own e ((List.dropLast_sublist es).mem he))
      · rename_i k heq
        cases heq
        obtain ⟨dk, rfl, uk⟩ := uns1 us
        cases uk
        obtain ⟨j, hj, hq⟩ := Option.bind_eq_some_iff.mp hq
        obtain ⟨y, hy, rfl⟩ := Option.map_eq_some_iff.mp hq
        obtain ⟨d, hd, ud⟩ := us0.get hy
        rw [← us0.length] at hj
        have e : mt .l .pop1 (.ref l) [.int k] st = .ok d (st.set l (.lst (es.eraseIdx j))) := by simp [mt, h, mtL, hj, hd]
        rw [e]
        exact fin rfl ud (own d (List.mem_of_getElem? hd)) (mut_lst I p0 sl hv hw hl hlt (us0.eraseIdx j) fun e he => own e (List.mem_of_mem_eraseIdx he))
      all_goals contradiction
  | dct h us0 =>
    rename_i ks kvs
    have own : ∀ e ∈ ks, Src a st0 eD eV0 st eV e.2 := fun e he => own_src I p0 hv hr hl (.dct h he)
    refine ⟨.d, ⟨by simp [kindD, h], ?_⟩, ?_⟩
    · unfold mtT at hq
      split at hq <;> first | rfl | contradiction
    · unfold mtT at hq
      split at hq
      case h_5 =>
        rename_i tk heq
        cases heq
        obtain ⟨k, rfl, uk⟩ := uns1 us
        split at hq
        · rename_i hk
          have hk' : isKey k = true := by rw [← isKey_un uk]; exact hk
          obtain ⟨tv, hv1, rfl⟩ := Option.map_eq_some_iff.mp hq
          rcases get_un us0 uk hk' with ⟨z, _⟩ | ⟨y, ty, z1, z2, z3, kv, z4, z5⟩
          · rw [z] at hv1; cases hv1
          · rw [z1] at hv1
            cases hv1
            have e : mt .d .pop1 (.ref l) [k] st = .ok y (st.set l (.dct (dDel ks k))) := by simp [mt, h, mtD, hk', z2]
            rw [e]
            subst z5
            exact fin rfl z3 (own kv z4) (mut_dct I p0 sl hv hw hl hlt (del_un us0 uk hk') fun e he => own e (List.mem_filter.mp he).1)
        · cases hq
      case h_8 =>
        rename_i tk ty heq
        cases heq
        obtain ⟨k, y, rfl, uk, uy⟩ := uns2 us
        split at hq
        · rename_i hc
          rw [Bool.and_eq_true, decide_eq_true_eq] at hc
          have hk' : isKey k = true := by rw [← isKey_un uk]; exact hc.1
          have hz : ks.length < line := by rw [us0.length]; exact hc.2
          rcases get_un us0 uk hk' with ⟨z, zz⟩ | ⟨u, tu, z1, z2, z3, kv, z4, z5⟩
          · rw [z] at hq
            cases hq
            have e : mt .d .setdef (.ref l) [k, y] st = .ok y (st.set l (.dct (dSet ks k y))) := by simp [mt, h, mtD, hk', zz]; simpa using hz
            rw [e]
            exact fin rfl uy (hs y (by simp)) (mut_dct I p0 sl hv hw hl hlt (set_un us0 uk hk' uy) fun e he => by
              rcases dSet_memV he with ⟨q, h1, h2⟩ | h1
              · rw [← h2]; exact own q h1
              · rw [h1]; exact hs y (by simp))
          · rw [z1] at hq
            cases hq
            have e : mt .d .setdef (.ref l) [k, y] st = .ok u st := by simp [mt, h, mtD, hk', z2]; simpa using hz
            have e2 : st.set l (.dct ks) = st := by
              have : st[l] = .dct ks := (List.getElem?_eq_some_iff.mp h).2
              rw [← this]
              exact List.set_getElem_self hlt
            rw [e]
            subst z5
            have := mut_dct I p0 sl hv hw hl hlt us0 own
            rw [e2] at this
            exact fin e2.symm z3 (own kv z4) this
        · cases hq
      all_goals first | contradiction | (simp [mtMut] at hm; done)
/-- o[i] = e -/
theorem put_rr {i l : Nat} {v w : VS} {k y : D} {tk ty t' : T} (I : EI a st eD eV) (p0 : Stp st0 eD eV0 st eD eV) (sl : Sl eV0 eV) (hv : lk eV i = some v) (hl : eD.val i = some (.ref l)) (uk : Un st k tk) (uy : Un st y ty) (hs : Src a st0 eD eV0 st eV y)
    (hq : putT v.t tk ty = some t') (hw : v.mut t' = some w) : ∃ st', putD (.ref l) k y st = some st' ∧ EI a st' eD (eV.set i (some w)) ∧ Stp st0 eD eV0 st' eD (eV.set i (some w)) ∧ Sl eV0 (eV.set i (some w)) := by
  obtain ⟨d', e1, e2, e3⟩ := I.slot i v hv
  rw [hl] at e1
  cases e1
  obtain ⟨hr, hr', _⟩ := mut_some hw
  have hlt : l < st.length := e2.inside l .ref
  generalize hx : v.t = x at e2 hq
  cases e2 with
  | lst h us0 =>
    rename_i es xs
    have own : ∀ e ∈ es, Src a st0 eD eV0 st eV e := fun e he => own_src I p0 hv hr hl (.lst h he)
    unfold putT at hq
    simp only at hq
    split at hq
    · rename_i n
      cases uk
      obtain ⟨j, hj, rfl⟩ := Option.map_eq_some_iff.mp hq
      rw [← us0.length] at hj
      refine ⟨st.set l (.lst (es.set j y)), by simp [putD, h, hj], mut_lst I p0 sl hv hw hl hlt (us0.set uy j) fun e he => ?_⟩
      rcases List.mem_or_eq_of_mem_set he with he | rfl
      · exact own e he
      · exact hs
    · cases hq
  | dct h us0 =>
    rename_i ks kvs
    have own : ∀ e ∈ ks, Src a st0 eD eV0 st eV e.2 := fun e he => own_src I p0 hv hr hl (.dct h he)
    unfold putT at hq
    simp only at hq
    split at hq
    · rename_i hc
      cases hq
      rw [Bool.and_eq_true, decide_eq_true_eq] at hc
      have hk' : isKey k = true := by rw [← isKey_un uk]; exact hc.1
      have hz : ks.length < line := by rw [us0.length]; exact hc.2
      refine ⟨st.set l (.dct (dSet ks k y)), by simp [putD, h, hk']; simpa using hz, mut_dct I p0 sl hv hw hl hlt (set_un us0 uk hk' uy) fun e he => ?_⟩
      rcases dSet_memV he with ⟨q, h1, h2⟩ | h1
      · rw [← h2]; exact own q h1
      · rw [h1]; exact hs
    · cases hq
end
end Ev

/-! Calls. -/
namespace Ev
open PySem
/-- arguments at a call: mode, value, tree; is its own object kept apart? -/
inductive Args (st : Sto) : List Mode → List D → List T → List Bool → Prop
  | nil : Args st [] [] [] []
  | sh {d : D} {t : T} {ms ds ts bs} : Un st d t → Args st ms ds ts bs → Args st (.sh :: ms) (d :: ds) (t :: ts) (false :: bs)
  | rdU {d : D} {t : T} {ms ds ts bs} : Un st d t → Args st ms ds ts bs → Args st (.rd :: ms) (d :: ds) (t :: ts) (false :: bs)
  | rdT {l : Nat} {t : T} {ms ds ts bs} : Un st (.ref l) t → Args st ms ds ts bs → Args st (.rd :: ms) (.ref l :: ds) (t :: ts) (true :: bs)
  | io {l : Nat} {t : T} {ms ds ts bs} : Un st (.ref l) t → Args st ms ds ts bs → Args st (.io :: ms) (.ref l :: ds) (t :: ts) (true :: bs)
/-- what the arguments come to, their own objects left out -/
inductive Ft (st : Sto) (x : Nat) : List D → List Bool → Prop
  | un {d ds bs} : Hit st d x → Ft st x (d :: ds) (false :: bs)
  | tr {l ds bs} : Low st l x → Ft st x (.ref l :: ds) (true :: bs)
  | next {d b ds bs} : Ft st x ds bs → Ft st x (d :: ds) (b :: bs)
/-- what is lent to be changed -/
inductive Io (x : Nat) : List Mode → List D → Prop
  | here {ms ds} : Io x (.io :: ms) (.ref x :: ds)
  | next {m d ms ds} : Io x ms ds → Io x (m :: ms) (d :: ds)
/-- kept apart -/
inductive Tr (x : Nat) : List D → List Bool → Prop
  | here {ds bs} : Tr x (.ref x :: ds) (true :: bs)
  | next {d b ds bs} : Tr x ds bs → Tr x (d :: ds) (b :: bs)
/-- what is lent to be changed is lent once -/
inductive Once : List Mode → List D → List Bool → Prop
  | nil : Once [] [] []
  | io {l : Nat} {ms ds bs} : ¬ Tr l ds bs → Once ms ds bs → Once (.io :: ms) (.ref l :: ds) (true :: bs)
  | rdT {l : Nat} {ms ds bs} : ¬ Io l ms ds → Once ms ds bs → Once (.rd :: ms) (.ref l :: ds) (true :: bs)
  | un {m : Mode} {d : D} {ms ds bs} : Once ms ds bs → Once (m :: ms) (d :: ds) (false :: bs)
inductive Outs (P : Nat → T → Prop) : List Mode → List D → List T → Prop
  | nil : Outs P [] [] []
  | io {l : Nat} {t : T} {ms ds os} : P l t → Outs P ms ds os → Outs P (.io :: ms) (.ref l :: ds) (t :: os)
  | no {m : Mode} {d : D} {ms ds os} : m ≠ .io → Outs P ms ds os → Outs P (m :: ms) (d :: ds) os
structure CallP (st st' : Sto) (ms : List Mode) (ds : List D) (bs : List Bool) (os : List T) : Prop where
  len : st.length ≤ st'.length
  keep : ∀ x, x < st.length → ¬ Io x ms ds → st'[x]? = st[x]?
  outs : Outs (fun l t => Un st' (.ref l) t ∧ ∀ x, Low st' l x → Ft st x ds bs ∨ st.length ≤ x) ms ds os
/-- a def does in the store what it does with trees -/
def FnSim (ms : List Mode) (vf : List T → VOut) (sf : List D → Sto → Res D) : Prop :=
  ∀ (st : Sto) (ds : List D) (ts : List T) (bs : List Bool), Args st ms ds ts bs → (∀ x, Io x ms ds → ¬ Ft st x ds bs) → Once ms ds bs → match vf ts with
    | .ok t fr os => ∃ d st', sf ds st = .ok d st' ∧ CallP st st' ms ds bs os ∧ Un st' d t ∧ (∀ x, Hit st' d x → Ft st x ds bs ∨ st.length ≤ x) ∧ (fr = true → ∃ l, d = .ref l ∧ st.length ≤ l ∧ ∀ r, Io r ms ds → ¬ Hit st' (.ref r) l)
    | .exc c fs os => ∃ fsD st', sf ds st = .exc c fsD st' ∧ CallP st st' ms ds bs os ∧ FsI fs fsD
    | .bad => True
section
variable {a : Act} {st st0 st1 : Sto} {eD : En} {eV eV0 eV1 : VEn} {d e : D} {t : T}
/-- an argument that waits for the call -/
def AI (a : Act) (eD : En) (st0 : Sto) (eV0 : VEn) (st : Sto) (eV : VEn) (g : Arg) (d : D) : Prop := match g with
  | .v t => QT a eD st0 eV0 t d st eV
  | .p i => eD.val i = some d ∧ (lk eV i).isSome = true
  | .n t => Tmp a st eD eV d t true ∧ Pv st0 eD eV0 d st ∧ ∃ l, d = .ref l ∧ st0.length ≤ l
def nRoot (x : Nat) : List Arg → List D → Prop
  | .n _ :: _, .ref l :: _ => x = l
  | _ :: as, _ :: ds => nRoot x as ds
  | _, _ => False
inductive AIs (a : Act) (eD : En) (st0 : Sto) (eV0 : VEn) (st : Sto) (eV : VEn) : List Arg → List D → Prop
  | nil : AIs a eD st0 eV0 st eV [] []
  | cons {g : Arg} {d : D} {gs : List Arg} {ds : List D} : AI a eD st0 eV0 st eV g d → (∀ x, nRoot x gs ds → ¬ Hit st d x) → AIs a eD st0 eV0 st eV gs ds → AIs a eD st0 eV0 st eV (g :: gs) (d :: ds)
theorem AI.base {g : Arg} (h : AI a eD st1 eV1 st eV g d) (p : Stp st0 eD eV0 st1 eD eV1) : AI a eD st0 eV0 st eV g d := by
  cases g with
  | v t => exact QT.base h p
  | p i => exact h
  | n t =>
    obtain ⟨h1, h2, l, h3, h4⟩ := h
    exact ⟨h1, h2.base p, l, h3, Nat.le_trans p.len h4⟩
theorem AIs.base (p : Stp st0 eD eV0 st1 eD eV1) : ∀ {gs : List Arg} {ds : List D}, AIs a eD st1 eV1 st eV gs ds → AIs a eD st0 eV0 st eV gs ds
  | _, _, .nil => .nil
  | _, _, .cons h n r => .cons (h.base p) n (AIs.base p r)
theorem AI.wait {st2 : Sto} {eV2 : VEn} {g : Arg} (h : AI a eD st0 eV0 st eV g d) (p : Stp st eD eV st2 eD eV2) (sl : Sl eV eV2) : AI a eD st0 eV0 st2 eV2 g d := by
  cases g with
  | v t => exact QT.wait h p
  | p i => exact ⟨h.1, sl.is i h.2⟩
  | n t =>
    obtain ⟨h1, h2, h3⟩ := h
    exact ⟨h1.stp p, h2.wait (h1.hits p), h3⟩
/-- new ones among later arguments are not come to by an earlier one -/
theorem n_new (p : Stp st0 eD eV0 st eD eV) : ∀ {gs : List Arg} {ds : List D}, AIs a eD st0 eV0 st eV gs ds → ∀ x, nRoot x gs ds → st0.length ≤ x ∧ ¬ Rc st eD eV x
  | _, _, .nil, x, h => by cases h
  | _, _, .cons (g := g) (d := d) (gs := gs) (ds := ds) q n r, x, h => by
    cases g with
    | v t => exact n_new p r x (by simpa [nRoot] using h)
    | p i => exact n_new p r x (by simpa [nRoot] using h)
    | n t =>
      obtain ⟨h1, h2, l, rfl, h4⟩ := q
      have e : x = l := by simpa [nRoot] using h
      subst e
      obtain ⟨l', e', _, h5⟩ := h1.new rfl
      cases e'
      exact ⟨h4, h5⟩
/-- before the next arguments -/
theorem AIs.cons' {g : Arg} {gs : List Arg} {ds : List D} (h : AI a eD st0 eV0 st1 eV1 g d) (I1 : EI a st1 eD eV1) (p0 : Stp st0 eD eV0 st1 eD eV1) (p : Stp st1 eD eV1 st eD eV) (sl : Sl eV1 eV) (r : AIs a eD st1 eV1 st eV gs ds) : AIs a eD st0 eV0 st eV (g :: gs) (d :: ds) := by
  refine .cons (h.wait p sl) (fun x hn hx => ?_) (r.base p0)
  obtain ⟨n1, n2⟩ := n_new p r x hn
  have old : ∀ {t : T} {fr : Bool}, Tmp a st1 eD eV1 d t fr → False := fun tm => by
    have := tm.un.inside x (tm.hits p x hx)
    omega
  cases g with
  | v t => exact old h.1
  | n t => exact old h.1
  | p i =>
    obtain ⟨h1, h2⟩ := h
    obtain ⟨v, hv⟩ := Option.isSome_iff_exists.mp (sl.is i h2)
    exact n2 ⟨i, v, d, hv, h1, hx⟩
theorem low_part {l x : Nat} (h : Low st l x) : ∃ e, Part st (.ref l) e ∧ Hit st e x := by
  obtain ⟨o, e, h1, h2, h3⟩ := h
  cases o with
  | lst ds => exact ⟨e, .lst h1 h2, h3⟩
  | dct ks =>
    obtain ⟨kv, h4, rfl⟩ := List.mem_map.mp h2
    exact ⟨kv.2, .dct h1 h4, h3⟩
def isRef : D → Bool
  | .ref _ => true
  | _ => false
/-- is the argument's own object kept apart? -/
def apart : Arg → D → Bool
  | .v _, _ => false
  | .p _, d => isRef d
  | .n _, _ => true
def aparts : List Arg → List D → List Bool
  | g :: gs, d :: ds => apart g d :: aparts gs ds
  | _, _ => []
/-- what an argument comes to may be handed on -/
theorem arg_src (I : EI a st eD eV) (p0 : Stp st0 eD eV0 st eD eV) {g : Arg} (h : AI a eD st0 eV0 st eV g d) : (apart g d = false → Src a st0 eD eV0 st eV d) ∧ (∀ l, d = .ref l → ∀ x, Low st l x → (a.Pr x ∧ ¬ Rt eD eV x) ∧ (Rc st0 eD eV0 x ∨ st0.length ≤ x)) := by
  refine ⟨fun ha => ?_, fun l e x hx => ?_⟩
  · cases g with
    | v t => exact QT.src h
    | n t => cases ha
    | p i =>
      obtain ⟨h1, h2⟩ := h
      obtain ⟨v, hv⟩ := Option.isSome_iff_exists.mp h2
      obtain ⟨d', e1, e2, e3⟩ := I.slot i v hv
      rw [h1] at e1
      cases e1
      intro x hx
      refine ⟨?_, p0.reach x ⟨i, v, d, hv, h1, hx⟩⟩
      cases v with
      | s t => obtain ⟨l, rfl, _⟩ := e3; cases ha
      | l t => obtain ⟨l, rfl, _⟩ := e3; cases ha
      | m t => obtain ⟨l, rfl, _⟩ := e3; cases ha
      | b t => exact e3 x hx
      | r t =>
        obtain ⟨q1, q2, q3⟩ := e3 x hx
        rcases q3 with rfl | q3
        · cases ha
        · refine ⟨.inl q3, fun z => ?_⟩
          rcases (I.root z).2 with z | z
          · omega
          · exact q2 z
  · subst e
    cases g with
    | v t => exact QT.src h x hx.hit
    | n t => exact ⟨h.1.pr x hx.hit, h.2.1 x hx.hit⟩
    | p i =>
      obtain ⟨h1, h2⟩ := h
      obtain ⟨v, hv⟩ := Option.isSome_iff_exists.mp h2
      obtain ⟨e, h3, h4⟩ := low_part hx
      exact ⟨op_below I (o := .p i) ⟨h1, h2⟩ h3 x h4, p0.reach x ⟨i, v, _, hv, h1, hx.hit⟩⟩
theorem ft_src (I : EI a st eD eV) (p0 : Stp st0 eD eV0 st eD eV) : ∀ {gs : List Arg} {ds : List D}, AIs a eD st0 eV0 st eV gs ds → ∀ x, Ft st x ds (aparts gs ds) → (a.Pr x ∧ ¬ Rt eD eV x) ∧ (Rc st0 eD eV0 x ∨ st0.length ≤ x)
  | _, _, .nil, x, h => by cases h
  | _, _, .cons (g := g) (d := d) q n r, x, h => by
    obtain ⟨s1, s2⟩ := arg_src I p0 q
    rw [aparts] at h
    generalize hb : apart g d = b at h
    cases h with
    | un h => exact s1 hb x h
    | tr h => exact s2 _ rfl x h
    | next h => exact ft_src I p0 r x h
theorem ft_n (p0 : Stp st0 eD eV0 st eD eV) : ∀ {gs : List Arg} {ds : List D}, AIs a eD st0 eV0 st eV gs ds → ∀ x, nRoot x gs ds → Ft st x ds (aparts gs ds) → gs.getLast?.map (fun g => match g with | .n _ => true | _ => false) = some true → (∀ g ∈ gs.dropLast, ∀ t, g ≠ .n t) → False
  | _, _, .nil, x, h, _, _, _ => by cases h
  | _, _, .cons (g := g) (d := d) (gs := gs) (ds := ds) q n r, x, h, f, hl, hd => by
    cases gs with
    | nil =>
      cases r
      cases g with
      | v t => simp at hl
      | p i => simp at hl
      | n t =>
        obtain ⟨h1, h2, l, rfl, h4⟩ := q
        have e : x = l := by simpa [nRoot] using h
        subst e
        simp only [aparts, apart] at f
        cases f with
        | tr f => exact h1.un.loopless f
        | next f => cases f
    | cons g2 gs =>
      have hn : ∀ t, g ≠ .n t := hd g (by simp)
      have h' : nRoot x (g2 :: gs) ds := by
        cases g with
        | v t => simpa [nRoot] using h
        | p i => simpa [nRoot] using h
        | n t => exact absurd rfl (hn t)
      have nh := n x h'
      rw [aparts] at f
      generalize apart g d = b at f
      cases f with
      | un f => exact nh f
      | tr f => exact nh f.hit
      | next f => exact ft_n p0 r x h' f (by simpa using hl) (fun g' hg' => hd g' (by simp [List.dropLast, hg']))
/-- the arguments are well formed -/
inductive AOk (eV : VEn) : List Mode → List Arg → Prop
  | nil : AOk eV [] []
  | shV {u : T} {ms : List Mode} {gs : List Arg} : AOk eV ms gs → AOk eV (.sh :: ms) (.v u :: gs)
  | rdV {u : T} {ms : List Mode} {gs : List Arg} : AOk eV ms gs → AOk eV (.rd :: ms) (.v u :: gs)
  | rdP {i : Nat} {ms : List Mode} {gs : List Arg} : i ∉ ioSlots ms gs → AOk eV ms gs → AOk eV (.rd :: ms) (.p i :: gs)
  | ioP {i : Nat} {ms : List Mode} {gs : List Arg} : isMut (lk eV i) = true → i ∉ argSlots gs → AOk eV ms gs → AOk eV (.io :: ms) (.p i :: gs)
  | ioN {u : T} : AOk eV [.io] [.n u]
theorem aok_of : ∀ {ms : List Mode} {gs : List Arg}, argsOk ms gs eV = true → AOk eV ms gs := by
  intro ms gs
  induction gs generalizing ms with
  | nil =>
    intro h
    cases ms with
    | nil => exact .nil
    | cons m ms => cases m <;> simp [argsOk] at h
  | cons g gs ih =>
    intro h
    cases ms with
    | nil => simp [argsOk] at h
    | cons m ms =>
      cases m with
      | sh =>
        cases g with
        | v t => exact .shV (ih (by simpa [argsOk] using h))
        | p i => simp [argsOk] at h
        | n t => simp [argsOk] at h
      | rd =>
        cases g with
        | v t => exact .rdV (ih (by simpa [argsOk] using h))
        | p i =>
          simp [argsOk] at h
          exact .rdP h.1 (ih h.2)
        | n t => simp [argsOk] at h
      | io =>
        cases g with
        | v t => simp [argsOk] at h
        | p i =>
          simp [argsOk] at h
          exact .ioP h.1 h.2.1 (ih h.2.2)
        | n t =>
          simp [argsOk] at h
          obtain ⟨rfl, h⟩ := h
          cases ms with
          | nil => exact .ioN
          | cons m ms => cases m <;> simp [argsOk] at h
theorem mut_slot (I : EI a st eD eV) {i : Nat} (h : isMut (lk eV i) = true) : ∃ v l, lk eV i = some v ∧ v.rooted = true ∧ eD.val i = some (.ref l) ∧ (∀ t, ∃ w, v.mut t = some w) ∧ v.own = true := by
  cases q : lk eV i with
  | none => rw [q] at h; cases h
  | some v =>
    rw [q] at h
    obtain ⟨d, e1, e2, e3⟩ := I.slot i v q
    cases v with
    | s t => obtain ⟨l, rfl, _⟩ := e3; exact ⟨_, l, rfl, rfl, e1, fun t => ⟨_, rfl⟩, rfl⟩
    | m t => obtain ⟨l, rfl, _⟩ := e3; exact ⟨_, l, rfl, rfl, e1, fun t => ⟨_, rfl⟩, rfl⟩
    | l t => cases h
    | r t => cases h
    | b t => cases h
theorem args_un (I : EI a st eD eV) : ∀ {ms : List Mode} {gs : List Arg} {ds : List D} {ts : List T}, AOk eV ms gs → AIs a eD st0 eV0 st eV gs ds → argsT eV gs = some ts → Args st ms ds ts (aparts gs ds)
  | _, _, _, ts, .nil, .nil, h => by simp [argsT] at h; subst h; exact .nil
  | _, _, _, ts, .shV ok, .cons q n r, h => by
    simp only [argsT, Option.map_eq_some_iff] at h
    obtain ⟨us, h1, rfl⟩ := h
    exact .sh q.1.un (args_un I ok r h1)
  | _, _, _, ts, .rdV ok, .cons q n r, h => by
    simp only [argsT, Option.map_eq_some_iff] at h
    obtain ⟨us, h1, rfl⟩ := h
    exact .rdU q.1.un (args_un I ok r h1)
  | _, _, _, ts, .rdP (i := i) _ ok, .cons (d := d) q n r, h => by
    simp only [argsT] at h
    split at h
    · rename_i x us h1 h2
      cases h
      obtain ⟨d', e1, e2, e3⟩ := I.slot i x h1
      obtain ⟨q1, q2⟩ := q
      rw [q1] at e1
      cases e1
      have := args_un I ok r h2
      cases d with
      | ref l => exact .rdT e2 this
      | _ => exact .rdU e2 this
    · cases h
  | _, _, _, ts, .ioP (i := i) hm _ ok, .cons (d := d) q n r, h => by
    simp only [argsT] at h
    split at h
    · rename_i x us h1 h2
      cases h
      obtain ⟨d', e1, e2, e3⟩ := I.slot i x h1
      obtain ⟨v, l, m1, m2, m3, _⟩ := mut_slot I hm
      obtain ⟨q1, q2⟩ := q
      rw [q1] at e1 m3
      cases e1
      cases m3
      exact .io e2 (args_un I ok r h2)
    · cases h
  | _, _, _, ts, .ioN, .cons (d := d) q n r, h => by
    cases r
    simp [argsT] at h
    subst h
    obtain ⟨h1, h2, l, rfl, h4⟩ := q
    exact .io h1.un .nil
/-- no other argument has slot i's own object -/
theorem not_tr (I : EI a st eD eV) {i l : Nat} {v : VS} (hv : lk eV i = some v) (hr : v.rooted = true) (hl : eD.val i = some (.ref l)) : ∀ {gs : List Arg} {ds : List D}, AIs a eD st0 eV0 st eV gs ds → i ∉ argSlots gs → ¬ Tr l ds (aparts gs ds)
  | _, _, .nil, _, h => by cases h
  | _, _, .cons (g := g) (d := d) q n r, hi, h => by
    rw [aparts] at h
    generalize hb : apart g d = b at h
    cases h with
    | here =>
      cases g with
      | v t => cases hb
      | n t =>
        obtain ⟨h1, h2, l', e, h4⟩ := q
        cases e
        obtain ⟨l'', e, _, h5⟩ := h1.new rfl
        cases e
        exact h5 ⟨i, v, _, hv, hl, .ref⟩
      | p j =>
        obtain ⟨q1, q2⟩ := q
        obtain ⟨w, hw⟩ := Option.isSome_iff_exists.mp q2
        obtain ⟨d', e1, e2, e3⟩ := I.slot j w hw
        rw [q1] at e1
        cases e1
        have hrt : Rt eD eV l := ⟨i, v, hv, hr, hl⟩
        have hij : i ≠ j := fun z => hi (by simp [argSlots, z])
        cases w with
        | s t => exact hij (I.uniq i j v _ l hv hw hr rfl hl q1)
        | l t => exact hij (I.uniq i j v _ l hv hw hr rfl hl q1)
        | m t => exact hij (I.uniq i j v _ l hv hw hr rfl hl q1)
        | b t => exact (e3 l .ref).2 hrt
        | r t =>
          obtain ⟨z1, z2, _⟩ := e3 l .ref
          rcases (I.root hrt).2 with z | z
          · omega
          · exact z2 z
    | next h =>
      refine not_tr I hv hr hl r (fun z => hi ?_) h
      cases g with
      | v t => simpa [argSlots] using z
      | n t => simpa [argSlots] using z
      | p j => simp [argSlots, z]
theorem io_root (I : EI a st eD eV) : ∀ {ms : List Mode} {gs : List Arg} {ds : List D}, AOk eV ms gs → AIs a eD st0 eV0 st eV gs ds → ∀ x, Io x ms ds → (∃ i ∈ ioSlots ms gs, isMut (lk eV i) = true ∧ eD.val i = some (.ref x)) ∨ nRoot x gs ds
  | _, _, _, .nil, .nil, x, h => by cases h
  | _, _, _, .shV ok, .cons q n r, x, h => by
    cases h with
    | next h =>
      rcases io_root I ok r x h with ⟨i, z1, z2⟩ | z
      · exact .inl ⟨i, by simpa [ioSlots] using z1, z2⟩
      · exact .inr (by simpa [nRoot] using z)
  | _, _, _, .rdV ok, .cons q n r, x, h => by
    cases h with
    | next h =>
      rcases io_root I ok r x h with ⟨i, z1, z2⟩ | z
      · exact .inl ⟨i, by simpa [ioSlots] using z1, z2⟩
      · exact .inr (by simpa [nRoot] using z)
  | _, _, _, .rdP _ ok, .cons q n r, x, h => by
    cases h with
    | next h =>
      rcases io_root I ok r x h with ⟨i, z1, z2⟩ | z
      · exact .inl ⟨i, by simpa [ioSlots] using z1, z2⟩
      · exact .inr (by simpa [nRoot] using z)
  | _, _, _, .ioP (i := i) hm _ ok, .cons q n r, x, h => by
    cases h with
    | here => exact .inl ⟨i, by simp [ioSlots], hm, q.1⟩
    | next h =>
      rcases io_root I ok r x h with ⟨i, z1, z2⟩ | z
      · exact .inl ⟨i, by simp [ioSlots, z1], z2⟩
      · exact .inr (by simpa [nRoot] using z)
  | _, _, _, .ioN, .cons q n r, x, h => by
    cases r
    cases h with
    | here => exact .inr (by simp [nRoot])
    | next h => cases h
theorem aok_last : ∀ {ms : List Mode} {gs : List Arg}, AOk eV ms gs → (∀ g ∈ gs.dropLast, ∀ t, g ≠ .n t)
  | _, _, .nil, g, h => by cases h
  | _, _, .shV (gs := gs) ok, g, h => by
    cases gs with
    | nil => cases h
    | cons g2 gs =>
      simp only [List.dropLast_cons_cons, List.mem_cons] at h
      rcases h with rfl | h
      · intro t z; cases z
      · exact aok_last ok g h
  | _, _, .rdV (gs := gs) ok, g, h => by
    cases gs with
    | nil => cases h
    | cons g2 gs =>
      simp only [List.dropLast_cons_cons, List.mem_cons] at h
      rcases h with rfl | h
      · intro t z; cases z
      · exact aok_last ok g h
  | _, _, .rdP (gs := gs) _ ok, g, h => by
    cases gs with
    | nil => cases h
    | cons g2 gs =>
      simp only [List.dropLast_cons_cons, List.mem_cons] at h
      rcases h with rfl | h
      · intro t z; cases z
      · exact aok_last ok g h
  | _, _, .ioP (gs := gs) _ _ ok, g, h => by
    cases gs with
    | nil => cases h
    | cons g2 gs =>
      simp only [List.dropLast_cons_cons, List.mem_cons] at h
      rcases h with rfl | h
      · intro t z; cases z
      · exact aok_last ok g h
  | _, _, .ioN, g, h => by cases h
theorem n_last : ∀ {ms : List Mode} {gs : List Arg} {ds : List D} {x : Nat}, AOk eV ms gs → nRoot x gs ds → gs.getLast?.map (fun g => match g with | .n _ => true | _ => false) = some true
  | _, _, _, _, .nil, h => by cases h
  | _, _, ds, _, .shV (gs := gs) ok, h => by
    cases ds with
    | nil => cases h
    | cons d ds =>
      have := n_last ok (by simpa [nRoot] using h)
      cases gs with
      | nil => simp at this
      | cons g gs => simpa using this
  | _, _, ds, _, .rdV (gs := gs) ok, h => by
    cases ds with
    | nil => cases h
    | cons d ds =>
      have := n_last ok (by simpa [nRoot] using h)
      cases gs with
      | nil => simp at this
      | cons g gs => simpa using this
  | _, _, ds, _, .rdP (gs := gs) _ ok, h => by
    cases ds with
    | nil => cases h
    | cons d ds =>
      have := n_last ok (by simpa [nRoot] using h)
      cases gs with
      | nil => simp at this
      | cons g gs => simpa using this
  | _, _, ds, _, .ioP (gs := gs) _ _ ok, h => by
    cases ds with
    | nil => cases h
    | cons d ds =>
      have := n_last ok (by simpa [nRoot] using h)
      cases gs with
      | nil => simp at this
      | cons g gs => simpa using this
  | _, _, ds, _, .ioN, h => by simp
theorem args_sep (I : EI a st eD eV) (p0 : Stp st0 eD eV0 st eD eV) {ms : List Mode} {gs : List Arg} {ds : List D} (ok : AOk eV ms gs) (h : AIs a eD st0 eV0 st eV gs ds) : ∀ x, Io x ms ds → ¬ Ft st x ds (aparts gs ds) := by
  intro x hx hf
  rcases io_root I ok h x hx with ⟨i, _, z1, z2⟩ | z
  · obtain ⟨v, l, m1, m2, m3, _⟩ := mut_slot I z1
    exact (ft_src I p0 h x hf).1.2 ⟨i, v, m1, m2, z2⟩
  · exact ft_n p0 h x z hf (n_last ok z) (aok_last ok)
theorem io_sub : ∀ {ms : List Mode} {gs : List Arg}, ∀ i ∈ ioSlots ms gs, i ∈ argSlots gs := by
  intro ms gs
  induction gs generalizing ms with
  | nil => intro i h; cases ms with | nil => cases h | cons m ms => cases m <;> cases h
  | cons g gs ih =>
    intro i h
    cases ms with
    | nil => cases g <;> cases h
    | cons m ms =>
      cases m <;> cases g <;> simp [ioSlots, argSlots] at h ⊢ <;> first | exact ih i h | exact .inr (ih i h) | (rcases h with h | h; exact .inl h; exact .inr (ih i h))
theorem args_once (I : EI a st eD eV) : ∀ {ms : List Mode} {gs : List Arg} {ds : List D}, AOk eV ms gs → AIs a eD st0 eV0 st eV gs ds → Once ms ds (aparts gs ds)
  | _, _, _, .nil, .nil => .nil
  | _, _, _, .shV ok, .cons q n r => .un (args_once I ok r)
  | _, _, _, .rdV ok, .cons q n r => .un (args_once I ok r)
  | _, _, _, .rdP (i := i) hi ok, .cons (d := d) q n r => by
    have hr := args_once I ok r
    cases d with
    | ref l =>
      refine .rdT (fun h => ?_) hr
      rcases io_root I ok r l h with ⟨j, z1, z2, z3⟩ | z
      · obtain ⟨v, l', m1, m2, m3, _⟩ := mut_slot I z2
        rw [z3] at m3
        cases m3
        have := not_tr (gs := [.p i]) (ds := [.ref l]) I m1 m2 z3 (.cons (a := a) (eD := eD) (st0 := st0) (eV0 := eV0) (g := .p i) q (fun x h => by cases h) .nil) (by simp [argSlots]; exact fun z => hi (z ▸ z1))
        exact this .here
      · exact n l z .ref
    | _ => exact .un hr
  | _, _, _, .ioP (i := i) hm hi ok, .cons (d := d) q n r => by
    have hr := args_once I ok r
    obtain ⟨v, l', m1, m2, m3, _⟩ := mut_slot I hm
    obtain ⟨q1, q2⟩ := q
    rw [q1] at m3
    cases m3
    exact .io (not_tr I m1 m2 q1 r hi) hr
  | _, _, _, .ioN, .cons q n r => by
    cases r
    obtain ⟨h1, h2, l, rfl, h4⟩ := q
    exact .io (fun h => by cases h) .nil
end
end Ev

/-! Calls, from the caller's side. -/
namespace Ev
open PySem
section
variable {a : Act} {st st0 st1 : Sto} {eD : En} {eV eV0 eV1 : VEn} {d e : D} {t : T}
theorem gb_ok (I : EI a st eD eV) {P : Nat → T → Prop} : ∀ {ms : List Mode} {gs : List Arg} {ds : List D} {os : List T}, AOk eV ms gs → AIs a eD st0 eV0 st eV gs ds → Outs P ms ds os → ∀ env : VEn, (∀ i ∈ ioSlots ms gs, lk env i = lk eV i) →
    ∃ env', giveBack ms gs os env = some env' ∧ env'.length = env.length ∧ (∀ j, j ∉ ioSlots ms gs → lk env' j = lk env j) ∧ ∀ j ∈ ioSlots ms gs, ∃ l out v w, eD.val j = some (.ref l) ∧ P l out ∧ lk eV j = some v ∧ v.mut out = some w ∧ lk env' j = some w
  | _, _, _, _, .nil, .nil, .nil, env, _ => ⟨env, by simp [giveBack], rfl, fun _ _ => rfl, fun j h => by cases h⟩
  | _, _, _, _, .shV ok, .cons q n r, .no hm o, env, he => by
    obtain ⟨env', h1, h2, h3, h4⟩ := gb_ok I ok r o env (fun i hi => he i (by simpa [ioSlots] using hi))
    exact ⟨env', by simp [giveBack, h1], h2, fun j hj => h3 j (by simpa [ioSlots] using hj), fun j hj => h4 j (by simpa [ioSlots] using hj)⟩
  | _, _, _, _, .rdV ok, .cons q n r, .no hm o, env, he => by
    obtain ⟨env', h1, h2, h3, h4⟩ := gb_ok I ok r o env (fun i hi => he i (by simpa [ioSlots] using hi))
    exact ⟨env', by simp [giveBack, h1], h2, fun j hj => h3 j (by simpa [ioSlots] using hj), fun j hj => h4 j (by simpa [ioSlots] using hj)⟩
  | _, _, _, _, .rdP _ ok, .cons q n r, .no hm o, env, he => by
    obtain ⟨env', h1, h2, h3, h4⟩ := gb_ok I ok r o env (fun i hi => he i (by simpa [ioSlots] using hi))
    exact ⟨env', by simp [giveBack, h1], h2, fun j hj => h3 j (by simpa [ioSlots] using hj), fun j hj => h4 j (by simpa [ioSlots] using hj)⟩
  | _, _, _, _, .ioP (i := i) (gs := gs) hm hi ok, .cons q n r, o', env, he => by
    cases o' with
    | no hm' o => exact absurd rfl hm'
    | @io l t _ _ _ p o =>
    obtain ⟨v, l', m1, m2, m3, m4, _⟩ := mut_slot I hm
    have e1 : lk env i = some v := (he i (by simp [ioSlots])).trans m1
    obtain ⟨w, hw⟩ := m4 t
    have hlt := lk_lt e1
    have hns : ∀ {ms' : List Mode}, ∀ j ∈ ioSlots ms' gs, j ≠ i := fun j hj z => hi (z ▸ io_sub j hj)
    obtain ⟨env', h1, h2, h3, h4⟩ := gb_ok I ok r o (env.set i (some w)) (fun j hj => by
      rw [lk_set_ne (fun z => hns j hj z.symm)]
      exact he j (by simp [ioSlots, hj]))
    refine ⟨env', by simp [giveBack, e1, hw, h1], by rw [h2]; simp, fun j hj => ?_, fun j hj => ?_⟩
    · simp only [ioSlots, List.mem_cons, not_or] at hj
      rw [h3 j hj.2, lk_set_ne (fun z => hj.1 z.symm)]
    · simp only [ioSlots, List.mem_cons] at hj
      by_cases hji : j = i
      · subst hji
        exact ⟨l, t, v, w, q.1, p, m1, hw, by rw [h3 j (fun z => hns j z rfl), lk_set_self hlt]⟩
      · exact h4 j (hj.resolve_left hji)
  | _, _, _, _, .ioN, .cons q n r, o', env, he => by
    cases r
    cases o' with
    | no hm' o => exact absurd rfl hm'
    | io p o =>
    cases o
    exact ⟨env, by simp [giveBack], rfl, fun _ _ => rfl, fun j h => by simp [ioSlots] at h⟩
theorem mut_tag {v w : VS} {t : T} (h : v.mut t = some w) : w = v.put t := by
  cases v <;> cases h <;> rfl
/-- what a call leaves -/
theorem call_after (I : EI a st eD eV) (p0 : Stp st0 eD eV0 st eD eV) (sl : Sl eV0 eV) {ms : List Mode} {gs : List Arg} {ds : List D} {os : List T} {st' : Sto} (ok : AOk eV ms gs) (h : AIs a eD st0 eV0 st eV gs ds) (c : CallP st st' ms ds (aparts gs ds) os) :
    ∃ eV', giveBack ms gs os eV = some eV' ∧ EI a st' eD eV' ∧ Stp st0 eD eV0 st' eD eV' ∧ Sl eV0 eV' ∧ (∀ x, Rt eD eV' x → Rt eD eV x) ∧ (∀ x, Rc st' eD eV' x → x < st.length ∨ ∃ r, Io r ms ds ∧ Hit st' (.ref r) x) := by
  obtain ⟨eV', h1, h2, h3, h4⟩ := gb_ok I ok h c.outs eV (fun _ _ => rfl)
  have srcs := ft_src I p0 h
  have newPr : ∀ x, st.length ≤ x → (a.Pr x ∧ ¬ Rt eD eV x) ∧ (Rc st0 eD eV0 x ∨ st0.length ≤ x) := fun x hx => ⟨⟨.inr (Nat.le_trans I.big hx), fun z => by have := (I.root z).1; omega⟩, .inr (Nat.le_trans p0.len hx)⟩
  have ioC : ∀ j ∈ ioSlots ms gs, isMut (lk eV j) = true := by
    have : ∀ {ms : List Mode} {gs : List Arg}, AOk eV ms gs → ∀ j ∈ ioSlots ms gs, isMut (lk eV j) = true := by
      intro ms gs ok
      induction ok with
      | nil => intro j hj; cases hj
      | shV _ ih => intro j hj; exact ih j (by simpa [ioSlots] using hj)
      | rdV _ ih => intro j hj; exact ih j (by simpa [ioSlots] using hj)
      | rdP _ _ ih => intro j hj; exact ih j (by simpa [ioSlots] using hj)
      | ioP hm _ _ ih =>
        intro j hj
        simp only [ioSlots, List.mem_cons] at hj
        rcases hj with rfl | hj
        · exact hm
        · exact ih j hj
      | ioN => intro j hj; simp [ioSlots] at hj
    exact this ok
  obtain ⟨q1, q2⟩ := I.change (st1 := st') (eV1 := eV') p0 c.len (fun j => j ∈ ioSlots ms gs) (fun j hj => by
      obtain ⟨v, l, m1, m2, _, _, m5⟩ := mut_slot I (ioC j hj)
      exact ⟨v, m1, m5⟩) (fun x hx hx2 hx3 => c.keep x hx2 fun hio => by
      rcases io_root I ok h x hio with ⟨i, z1, _, z2⟩ | z
      · exact hx3 i z1 z2
      · obtain ⟨n1, n2⟩ := n_new p0 h x z
        rcases hx with hx | hx
        · omega
        · exact n2 hx) h2 h3 (fun j v l hj hv hl => by
      obtain ⟨l', out, v', w, e1, e2, e3, e4, e5⟩ := h4 j hj
      rw [hl] at e1
      cases e1
      rw [hv] at e3
      cases e3
      refine ⟨out, by rw [e5, mut_tag e4], e2.1, fun x hx => ?_⟩
      rcases e2.2 x hx with z | z
      · exact srcs x z
      · exact newPr x z)
  have sl' : Sl eV0 eV' := ⟨fun j hj => by
    by_cases hji : j ∈ ioSlots ms gs
    · obtain ⟨_, _, _, w, _, _, _, _, e5⟩ := h4 j hji
      rw [e5]; rfl
    · rw [h3 j hji]; exact sl.is j hj, fun j u z1 z2 => by
    by_cases hji : j ∈ ioSlots ms gs
    · obtain ⟨v, l, m1, m2, m3, m4, m5⟩ := mut_slot I (ioC j hji)
      exact sl.own j v m1 m5
    · rw [h3 j hji] at z1; exact sl.own j u z1 z2⟩
  refine ⟨eV', h1, q1, q2, sl', fun x ⟨i, v, z1, z2, z3⟩ => ?_, fun x ⟨i, v, dd, z1, z2, z3⟩ => ?_⟩
  · by_cases hi : i ∈ ioSlots ms gs
    · obtain ⟨l, out, v', w, e1, e2, e3, e4, e5⟩ := h4 i hi
      exact ⟨i, v', e3, (mut_some e4).1, z3⟩
    · rw [h3 i hi] at z1
      exact ⟨i, v, z1, z2, z3⟩
  · by_cases hi : i ∈ ioSlots ms gs
    · obtain ⟨v2, l, m1, m2, m3, _⟩ := mut_slot I (ioC i hi)
      rw [z2] at m3
      cases m3
      refine .inr ⟨l, ?_, z3⟩
      -- slot i is among the lent ones
      have : ∀ {ms : List Mode} {gs : List Arg} {ds : List D}, AOk eV ms gs → AIs a eD st0 eV0 st eV gs ds → i ∈ ioSlots ms gs → Io l ms ds := by
        intro ms gs ds ok
        induction ok generalizing ds with
        | nil => intro _ hj; cases hj
        | shV _ ih => intro q hj; cases q with | cons _ _ r => exact .next (ih r (by simpa [ioSlots] using hj))
        | rdV _ ih => intro q hj; cases q with | cons _ _ r => exact .next (ih r (by simpa [ioSlots] using hj))
        | rdP _ _ ih => intro q hj; cases q with | cons _ _ r => exact .next (ih r (by simpa [ioSlots] using hj))
        | ioP hm _ _ ih =>
          intro q hj
          cases q with
          | cons q1 _ r =>
            simp only [ioSlots, List.mem_cons] at hj
            rcases hj with rfl | hj
            · obtain ⟨y1, y2⟩ := q1
              rw [z2] at y1
              cases y1
              exact .here
            · exact .next (ih r hj)
        | ioN => intro _ hj; simp [ioSlots] at hj
      exact this ok h hi
    · rw [h3 i hi] at z1
      obtain ⟨d', e1, e2, e3⟩ := I.slot i v z1
      rw [z2] at e1
      cases e1
      left
      -- what slot i comes to has not changed
      have hk : ∀ y, Hit st dd y → st'[y]? = st[y]? := fun y hy => c.keep y (e2.inside y hy) fun hio => by
        rcases io_root I ok h y hio with ⟨k, w1, w2, w3⟩ | w
        · obtain ⟨vk, lk', m1, m2, m3, _⟩ := mut_slot I w2
          have hrt : Rt eD eV y := ⟨k, vk, m1, m2, w3⟩
          have ne : i ≠ k := fun z => hi (z ▸ w1)
          cases v with
          | s t =>
            obtain ⟨l, rfl, _, q⟩ := e3
            rcases hy.low with rfl | hy
            · exact ne (I.uniq i k _ vk y z1 m1 rfl m2 z2 w3)
            · exact (q y hy).2 hrt
          | l t =>
            obtain ⟨l, rfl, _, q⟩ := e3
            rcases hy.low with rfl | hy
            · exact ne (I.uniq i k _ vk y z1 m1 rfl m2 z2 w3)
            · exact (q y hy).2 hrt
          | m t =>
            obtain ⟨l, rfl, _, q⟩ := e3
            rcases hy.low with rfl | hy
            · exact ne (I.uniq i k _ vk y z1 m1 rfl m2 z2 w3)
            · exact (q y hy).2 hrt
          | b t => exact (e3 y hy).2 hrt
          | r t =>
            obtain ⟨y1, y2, _⟩ := e3 y hy
            rcases (I.root hrt).2 with z | z
            · omega
            · exact y2 z
        · exact (n_new p0 h y w).2 ⟨i, v, dd, z1, z2, hy⟩
      exact e2.inside x ((e2.stay hk).2 x z3)
theorem call_rr (I : EI a st eD eV) (p0 : Stp st0 eD eV0 st eD eV) (sl : Sl eV0 eV) {cl : VCl} {f : Nat} {ms : List Mode} {gs : List Arg} {ds : List D} {sf : List D → Sto → Res D} (hsim : FnSim ms (cl.go f) sf) (h : AIs a eD st0 eV0 st eV gs ds) :
    RR a eD st0 eV0 (QO a eD st0 eV0) (callV cl f ms gs eV) (sf ds st) := by
  unfold callV
  split
  · rename_i hok
    have ok := aok_of hok
    split
    · rename_i ts hts
      have sim := hsim st ds ts (aparts gs ds) (args_un I ok h hts) (args_sep I p0 ok h) (args_once I ok h)
      split
      · rename_i t fr os hr
        rw [hr] at sim
        obtain ⟨d, st', e, c, u, pv, fresh⟩ := sim
        obtain ⟨eV', g1, g2, g3, g4, g5, g6⟩ := call_after I p0 sl ok h c
        rw [g1]
        have pr : ∀ x, Hit st' d x → (a.Pr x ∧ ¬ Rt eD eV x) ∧ (Rc st0 eD eV0 x ∨ st0.length ≤ x) := fun x hx => by
          rcases pv x hx with z | z
          · exact ft_src I p0 h x z
          · exact ⟨⟨.inr (Nat.le_trans I.big z), fun w => by have := (I.root w).1; omega⟩, .inr (Nat.le_trans p0.len z)⟩
        refine ⟨d, st', e, g2, g3, g4, ⟨u, fun x hx => ⟨(pr x hx).1.1, fun z => (pr x hx).1.2 (g5 x z)⟩, fun hf => ?_⟩, fun x hx => (pr x hx).2, fun hf => ?_⟩
        · obtain ⟨l, rfl, hl, hn⟩ := fresh hf
          refine ⟨l, rfl, Nat.le_trans I.big hl, fun z => ?_⟩
          rcases g6 l z with z | ⟨r, z1, z2⟩
          · omega
          · exact hn r z1 z2
        · obtain ⟨l, rfl, hl, hn⟩ := fresh hf
          exact ⟨l, rfl, Nat.le_trans p0.len hl⟩
      · rename_i c fs os hr
        rw [hr] at sim
        obtain ⟨fsD, st', e, cp, hfs⟩ := sim
        obtain ⟨eV', g1, g2, g3, g4, g5, g6⟩ := call_after I p0 sl ok h cp
        rw [g1]
        exact ⟨fsD, st', e, g2, g3, hfs⟩
      · trivial
    · trivial
  · trivial
end
end Ev

/-! Names are bound, locked, wiped. -/
namespace Ev
open PySem
section
variable {a : Act} {st st0 st1 : Sto} {eD eD0 eD1 : En} {eV eV0 eV1 : VEn} {d e : D} {t : T}
theorem lk_of_set {e : VEn} {i j : Nat} {v w : VS} (h : lk (e.set i (some v)) j = some w) : (j = i ∧ w = v ∧ i < e.length) ∨ (j ≠ i ∧ lk e j = some w) := by
  by_cases hij : i = j
  · subst hij
    by_cases hi : i < e.length
    · rw [lk_set_self hi] at h
      cases h
      exact .inl ⟨rfl, rfl, hi⟩
    · have := lk_lt h
      simp at this
      exact absurd this hi
  · rw [lk_set_ne hij] at h
    exact .inr ⟨fun z => hij z.symm, h⟩
theorem slotP_mono {R R' : Nat → Prop} {v : VS} (h : SlotP a st R d v) (hr : ∀ x, Hit st d x → R' x → R x) : SlotP a st R' d v := by
  cases v with
  | s t => obtain ⟨l, e, q1, q2⟩ := h; subst e; exact ⟨l, rfl, q1, fun x hx => ⟨(q2 x hx).1, fun z => (q2 x hx).2 (hr x hx.hit z)⟩⟩
  | l t => obtain ⟨l, e, q1, q2⟩ := h; subst e; exact ⟨l, rfl, q1, fun x hx => ⟨(q2 x hx).1, fun z => (q2 x hx).2 (hr x hx.hit z)⟩⟩
  | m t => obtain ⟨l, e, q1, q2⟩ := h; subst e; exact ⟨l, rfl, q1, fun x hx => ⟨(q2 x hx).1, fun z => (q2 x hx).2 (hr x hx.hit z)⟩⟩
  | b t => exact fun x hx => ⟨(h x hx).1, fun z => (h x hx).2 (hr x hx z)⟩
  | r t => exact h
/-- x = d, a value or a new object -/
theorem EI.assign (I : EI a st eD eV) (p0 : Stp st0 eD0 eV0 st eD eV) {i : Nat} {fr : Bool} (hd : Tmp a st eD eV d t fr) (hp : ∀ x, Hit st d x → Rc st0 eD0 eV0 x ∨ st0.length ≤ x) (hf : fr = true → ∃ l, d = .ref l ∧ st0.length ≤ l) :
    EI a st (eD.set i (some d)) (eV.set i (some (if fr = true then .s t else .b t))) ∧ Stp st0 eD0 eV0 st (eD.set i (some d)) (eV.set i (some (if fr = true then .s t else .b t))) := by
  have hv : ∀ {j : Nat} {w : VS}, lk (eV.set i (some (if fr = true then .s t else .b t))) j = some w → (j = i ∧ w = (if fr = true then .s t else .b t) ∧ (eD.set i (some d)) = eD.set i (some d) ∧ En.val (eD.set i (some d)) j = some d) ∨ (j ≠ i ∧ lk eV j = some w ∧ En.val (eD.set i (some d)) j = eD.val j) := fun {j w} h => by
    rcases lk_of_set h with ⟨h1, h2, h3⟩ | ⟨h1, h2⟩
    · subst h1
      exact .inl ⟨rfl, h2, rfl, val_set_self (by rw [I.len]; exact h3)⟩
    · exact .inr ⟨h1, h2, val_set_ne (fun z => h1 z.symm)⟩
  have rts : ∀ x, Rt (eD.set i (some d)) (eV.set i (some (if fr = true then .s t else .b t))) x → Rt eD eV x ∨ (fr = true ∧ d = .ref x) := fun x ⟨j, v, h1, h2, h3⟩ => by
    rcases hv h1 with ⟨_, e2, _, e3⟩ | ⟨_, e2, e3⟩
    · rw [e3] at h3
      cases h3
      subst e2
      cases fr with
      | true => exact .inr ⟨rfl, rfl⟩
      | false => cases h2
    · rw [e3] at h3
      exact .inl ⟨j, v, e2, h2, h3⟩
  refine ⟨⟨by simp [I.len], I.big, fun j v h => ?_, fun j k v w x h1 h2 h3 h4 h5 h6 => ?_, fun j u hj => ?_⟩, ⟨p0.len, p0.keep, fun x ⟨j, v, h1, h2, h3⟩ => ?_, fun j v x h1 h2 h3 => ?_, fun x ⟨j, v, dd, h1, h2, h3⟩ => ?_⟩⟩
  · rcases hv h with ⟨rfl, e2, _, e3⟩ | ⟨e1, e2, e3⟩
    · refine ⟨d, e3, ?_, ?_⟩
      · subst e2
        cases fr <;> exact hd.un
      · subst e2
        cases fr with
        | true =>
          obtain ⟨l, rfl, q1, q2⟩ := hd.new rfl
          refine ⟨l, rfl, q1, fun x hx => ⟨(hd.pr x hx.hit).1, fun z => ?_⟩⟩
          rcases rts x z with z | ⟨_, z⟩
          · exact (hd.pr x hx.hit).2 z
          · cases z
            exact hd.un.loopless hx
        | false =>
          refine fun x hx => ⟨(hd.pr x hx).1, fun z => ?_⟩
          rcases rts x z with z | ⟨z, _⟩
          · exact (hd.pr x hx).2 z
          · cases z
    · obtain ⟨dj, q1, q2, q3⟩ := I.slot j v e2
      refine ⟨dj, by rw [e3]; exact q1, q2, slotP_mono q3 fun x hx z => ?_⟩
      rcases rts x z with z | ⟨z1, z2⟩
      · exact z
      · subst z2
        obtain ⟨l, e, _, q⟩ := hd.new z1
        cases e
        exact absurd ⟨j, v, dj, e2, q1, hx⟩ q
  · rcases hv h1 with ⟨rfl, e2, _, e3⟩ | ⟨e1, e2, e3⟩ <;> rcases hv h2 with ⟨rfl, f2, _, f3⟩ | ⟨f1, f2, f3⟩
    · rfl
    · rw [e3] at h5
      cases h5
      rw [f3] at h6
      have hfr : fr = true := by
        subst e2
        cases fr with
        | true => rfl
        | false => cases h3
      obtain ⟨l, e, _, q⟩ := hd.new hfr
      cases e
      exact absurd ⟨k, w, _, f2, h6, .ref⟩ q
    · rw [f3] at h6
      cases h6
      rw [e3] at h5
      have hfr : fr = true := by
        subst f2
        cases fr with
        | true => rfl
        | false => cases h4
      obtain ⟨l, e, _, q⟩ := hd.new hfr
      cases e
      exact absurd ⟨j, v, _, e2, h5, .ref⟩ q
    · rw [e3] at h5
      rw [f3] at h6
      exact I.uniq j k v w x e2 f2 h3 h4 h5 h6
  · rcases hv hj with ⟨rfl, e2, _, e3⟩ | ⟨e1, e2, e3⟩
    · cases fr <;> cases e2
    · rw [e3]; exact I.mroot j u e2
  · rcases hv h1 with ⟨rfl, e2, _, e3⟩ | ⟨e1, e2, e3⟩
    · rw [e3] at h3
      cases h3
      subst e2
      cases fr with
      | true =>
        obtain ⟨l, e, q⟩ := hf rfl
        cases e
        exact .inr q
      | false => cases h2
    · rw [e3] at h3
      exact p0.mroots x ⟨j, v, e2, h2, h3⟩
  · rcases hv h1 with ⟨rfl, e2, _, e3⟩ | ⟨e1, e2, e3⟩
    · rw [e3] at h3
      cases h3
      subst e2
      cases fr with
      | true =>
        obtain ⟨l, e, q⟩ := hf rfl
        cases e
        exact .inr q
      | false => cases h2
    · rw [e3] at h3
      exact p0.iroots j v x e2 h2 h3
  · rcases hv h1 with ⟨rfl, e2, _, e3⟩ | ⟨e1, e2, e3⟩
    · rw [e3] at h2
      cases h2
      exact hp x h3
    · rw [e3] at h2
      exact p0.reach x ⟨j, v, dd, e2, h2, h3⟩
/-- a slot is forgotten -/
theorem EI.forget (I : EI a st eD eV) (p0 : Stp st0 eD0 eV0 st eD eV) (i : Nat) (x : Option D) : EI a st (eD.set i x) (eV.set i none) ∧ Stp st0 eD0 eV0 st (eD.set i x) (eV.set i none) := by
  have hv : ∀ {j : Nat} {w : VS}, lk (eV.set i none) j = some w → j ≠ i ∧ lk eV j = some w ∧ En.val (eD.set i x) j = eD.val j := fun {j w} h => by
    by_cases hij : i = j
    · subst hij
      by_cases hi : i < eV.length
      · rw [lk_set_self hi] at h; cases h
      · have := lk_lt h
        simp at this
        exact absurd this hi
    · rw [lk_set_ne hij] at h
      exact ⟨fun z => hij z.symm, h, val_set_ne hij⟩
  have rts : ∀ y, Rt (eD.set i x) (eV.set i none) y → Rt eD eV y := fun y ⟨j, v, h1, h2, h3⟩ => by
    obtain ⟨_, e2, e3⟩ := hv h1
    rw [e3] at h3
    exact ⟨j, v, e2, h2, h3⟩
  refine ⟨⟨by simp [I.len], I.big, fun j v h => ?_, fun j k v w y h1 h2 h3 h4 h5 h6 => ?_, fun j u hj => ?_⟩, ⟨p0.len, p0.keep, fun y ⟨j, v, h1, h2, h3⟩ => ?_, fun j v y h1 h2 h3 => ?_, fun y ⟨j, v, dd, h1, h2, h3⟩ => ?_⟩⟩
  · obtain ⟨_, e2, e3⟩ := hv h
    obtain ⟨dj, q1, q2, q3⟩ := I.slot j v e2
    exact ⟨dj, by rw [e3]; exact q1, q2, slotP_mono q3 fun y _ z => rts y z⟩
  · obtain ⟨_, e2, e3⟩ := hv h1
    obtain ⟨_, f2, f3⟩ := hv h2
    rw [e3] at h5
    rw [f3] at h6
    exact I.uniq j k v w y e2 f2 h3 h4 h5 h6
  · obtain ⟨_, e2, e3⟩ := hv hj
    rw [e3]; exact I.mroot j u e2
  · obtain ⟨_, e2, e3⟩ := hv h1
    rw [e3] at h3
    exact p0.mroots y ⟨j, v, e2, h2, h3⟩
  · obtain ⟨_, e2, e3⟩ := hv h1
    rw [e3] at h3
    exact p0.iroots j v y e2 h2 h3
  · obtain ⟨_, e2, e3⟩ := hv h1
    rw [e3] at h2
    exact p0.reach y ⟨j, v, dd, e2, h2, h3⟩
theorem EI.wipe (I : EI a st eD eV) (p0 : Stp st0 eD0 eV0 st eD eV) : ∀ own : List Nat, EI a st (Ev.wipe eD own) (wipeV eV own) ∧ Stp st0 eD0 eV0 st (Ev.wipe eD own) (wipeV eV own)
  | [] => ⟨I, p0⟩
  | v :: vs => by
    obtain ⟨q1, q2⟩ := EI.wipe I p0 vs
    exact q1.forget q2 v none
theorem st_some {i : Nat} {x : VS} (h : stV eV i x = some eV1) : eV1 = eV.set i (some x) := by
  unfold stV at h
  split at h
  · cases h
  · cases h; rfl
/-- targets -/
theorem src_tmp' (u : Un st d t) (hs : ∀ x, Hit st d x → a.Pr x ∧ ¬ Rt eD eV x) : Tmp a st eD eV d t false := ⟨u, hs, fun z => nomatch z⟩
/-- a target's slots alone change -/
def ButS (sl : List Nat) (e e' : En) : Prop := e'.length = e.length ∧ ∀ i, i ∉ sl → e'[i]? = e[i]?
mutual
theorem bindV_ok : ∀ (tg : Tg) {d : D} {t : T} {eD : En} {eV eV1 : VEn}, EI a st eD eV → Stp st0 eD0 eV0 st eD eV → Un st d t → (∀ x, Hit st d x → (a.Pr x ∧ ¬ Rt eD eV x) ∧ (Rc st0 eD0 eV0 x ∨ st0.length ≤ x)) → bindV tg t eV = some eV1 →
    ∃ eD1, bindT st tg d eD = some eD1 ∧ EI a st eD1 eV1 ∧ Stp st0 eD0 eV0 st eD1 eV1 ∧ (∀ x, Rt eD1 eV1 x → Rt eD eV x) ∧ (∀ x, Rm eD1 eV1 x → Rm eD eV x) ∧ ButS (tgSlots tg) eD eD1
  | .nm i, d, t, eD, eV, eV1, I, p0, u, hs, h => by
    rw [bindV] at h
    have e := st_some h
    subst e
    obtain ⟨I1, p1⟩ := I.assign p0 (i := i) (fr := false) (src_tmp' u fun x hx => (hs x hx).1) (fun x hx => (hs x hx).2) (fun z => nomatch z)
    refine ⟨eD.set i (some d), by rw [bindT], I1, p1, fun x ⟨j, v, h1, h2, h3⟩ => ?_, fun x ⟨j, v, h1, h2, h3⟩ => ?_, by simp, fun j hj => ?_⟩
    · rcases lk_of_set h1 with ⟨rfl, e2, _⟩ | ⟨e1, e2⟩
      · subst e2; cases h2
      · rw [val_set_ne (fun z => e1 z.symm)] at h3
        exact ⟨j, v, e2, h2, h3⟩
    · rcases lk_of_set h1 with ⟨rfl, e2, _⟩ | ⟨e1, e2⟩
      · subst e2; cases h2
      · rw [val_set_ne (fun z => e1 z.symm)] at h3
        exact ⟨j, v, e2, h2, h3⟩
    · rw [List.getElem?_set_ne (fun z => hj (by simp [tgSlots, z]))]
  | .tp ts, d, t, eD, eV, eV1, I, p0, u, hs, h => by
    rw [bindV] at h
    split at h
    · rename_i xs hx
      split at h
      · rename_i hl
        obtain ⟨ds, e1, us, ps⟩ := seq_un u hx
        obtain ⟨eD1, q1, q2⟩ := bindVs_ok ts I p0 us (fun e he x hx => hs x ((ps e he).1 x hx)) h
        refine ⟨eD1, ?_, ?_⟩
        · rw [bindT]
          simp only [e1]
          rw [if_pos (by rw [us.length]; exact hl)]
          exact q1
        · simpa [tgSlots] using q2
      · cases h
    · cases h
theorem bindVs_ok : ∀ (tgs : List Tg) {ds : List D} {ts : List T} {eD : En} {eV eV1 : VEn}, EI a st eD eV → Stp st0 eD0 eV0 st eD eV → Uns st ds ts → (∀ d ∈ ds, ∀ x, Hit st d x → (a.Pr x ∧ ¬ Rt eD eV x) ∧ (Rc st0 eD0 eV0 x ∨ st0.length ≤ x)) → bindVs tgs ts eV = some eV1 →
    ∃ eD1, bindTs st tgs ds eD = some eD1 ∧ EI a st eD1 eV1 ∧ Stp st0 eD0 eV0 st eD1 eV1 ∧ (∀ x, Rt eD1 eV1 x → Rt eD eV x) ∧ (∀ x, Rm eD1 eV1 x → Rm eD eV x) ∧ ButS (tgsSlots tgs) eD eD1
  | [], ds, ts, eD, eV, eV1, I, p0, us, hs, h => by
    rw [bindVs] at h
    cases h
    exact ⟨eD, by rw [bindTs], I, p0, fun _ h => h, fun _ h => h, rfl, fun _ _ => rfl⟩
  | tg :: tgs, ds, ts, eD, eV, eV1, I, p0, us, hs, h => by
    cases us with
    | nil => rw [bindVs] at h; cases h
    | cons u us =>
      rw [bindVs] at h
      obtain ⟨eV2, h1, h2⟩ := Option.bind_eq_some_iff.mp h
      obtain ⟨eD2, q1, q2, q3, q4, q6, q5⟩ := bindV_ok tg I p0 u (hs _ List.mem_cons_self) h1
      obtain ⟨eD1, r1, r2, r3, r4, r6, r5⟩ := bindVs_ok tgs q2 q3 us (fun e he x hx => ⟨⟨(hs e (List.mem_cons_of_mem _ he) x hx).1.1, fun z => (hs e (List.mem_cons_of_mem _ he) x hx).1.2 (q4 x z)⟩, (hs e (List.mem_cons_of_mem _ he) x hx).2⟩) h2
      refine ⟨eD1, by rw [bindTs, q1]; exact r1, r2, r3, fun x z => q4 x (r4 x z), fun x z => q6 x (r6 x z), by rw [r5.1, q5.1], fun i hi => ?_⟩
      simp only [tgsSlots, List.mem_append, not_or] at hi
      rw [r5.2 i hi.2, q5.2 i hi.1]
end
end
end Ev

/-! Walks. -/
namespace Ev
open PySem
section
variable {a : Act} {st st0 st1 : Sto} {eD eD0 eD1 : En} {eV eV0 eV1 : VEn} {d e : D} {t : T}
theorem walk_un {ts : List T} (u : Un st d t) (h : seqT t = some ts) : ∃ its, walkD st d = some its ∧ Uns st its.xs ts ∧ (∀ e ∈ its.xs, Part st d e) ∧ ∀ p ∈ its.gd, st[p.1]? = some p.2 ∧ d = .ref p.1 := by
  cases u with
  | scr ns =>
    cases h
    refine ⟨_, rfl, Uns.ints ns, fun e he => Part.none fun x hx => ?_, fun p hp => by cases hp⟩
    obtain ⟨i, _, rfl⟩ := List.mem_map.mp he
    cases hx
  | tup us => cases h; exact ⟨_, rfl, us, fun e he => .tup he, fun p hp => by cases hp⟩
  | @lst l ds _ hl us =>
    cases h
    refine ⟨⟨ds, [(l, .lst ds)]⟩, by simp [walkD, hl], us, fun e he => .lst hl he, fun p hp => ?_⟩
    simp at hp
    subst hp
    exact ⟨hl, rfl⟩
  | _ => cases h
theorem walkL_un {ts : List T} (u : Un st d t) (h : lisT t = some ts) : ∃ its, walkL st d = some its ∧ Uns st its.xs ts ∧ (∀ e ∈ its.xs, Part st d e) ∧ ∀ p ∈ its.gd, st[p.1]? = some p.2 ∧ d = .ref p.1 := by
  cases u with
  | scr ns =>
    cases h
    refine ⟨_, rfl, Uns.ints ns, fun e he => Part.none fun x hx => ?_, fun p hp => by cases hp⟩
    obtain ⟨i, _, rfl⟩ := List.mem_map.mp he
    cases hx
  | @lst l ds _ hl us =>
    cases h
    refine ⟨⟨ds, [(l, .lst ds)]⟩, by simp [walkL, walkD, hl], us, fun e he => .lst hl he, fun p hp => ?_⟩
    simp at hp
    subst hp
    exact ⟨hl, rfl⟩
  | _ => cases h
/-- what is walked, and what stands still -/
structure QI (a : Act) (eD : En) (st0 : Sto) (eV0 : VEn) (w : ItT) (its : Its) (st : Sto) (eV : VEn) : Prop where
  xs : Uns st its.xs w.xs
  src : ∀ e ∈ its.xs, Src a st0 eD eV0 st eV e
  gd : ∀ p ∈ its.gd, st[p.1]? = some p.2 ∧ ¬ Rm eD eV p.1
  lks : ∀ i ∈ w.lks, ∃ t, lk eV i = some (.l t) ∧ ∃ v0, lk eV0 i = some v0 ∧ v0.own = true
/-- slot i stands still, or does no longer -/
theorem EI.retag (I : EI a st eD eV) {i : Nat} {v w : VS} (hi : lk eV i = some v) (hv : v.rooted = true) (hw : w.rooted = true) (ht : w.t = v.t) (hp : ∀ R d, SlotP a st R d v → SlotP a st R d w) (hnm : ∀ t, w ≠ .m t) :
    EI a st eD (eV.set i (some w)) ∧ (∀ j u x, lk (eV.set i (some w)) j = some u → u.rooted = true → eD.val j = some (.ref x) → ∃ u0, lk eV j = some u0 ∧ u0.rooted = true ∧ eD.val j = some (.ref x)) ∧ (∀ x, Rt eD (eV.set i (some w)) x → Rt eD eV x) ∧ (∀ x, Rc st eD (eV.set i (some w)) x → Rc st eD eV x) ∧ ∀ j, (lk eV j).isSome = true → (lk (eV.set i (some w)) j).isSome = true := by
  have hlt := lk_lt hi
  have tag : ∀ {j : Nat} {u : VS}, lk (eV.set i (some w)) j = some u → ∃ u0, lk eV j = some u0 ∧ u0.rooted = u.rooted ∧ (j = i → u = w ∧ u0 = v) ∧ (j ≠ i → u0 = u) := fun {j u} h => by
    rcases lk_of_set h with ⟨rfl, rfl, _⟩ | ⟨h1, h2⟩
    · exact ⟨v, hi, hv.trans hw.symm, fun _ => ⟨rfl, rfl⟩, fun z => absurd rfl z⟩
    · exact ⟨u, h2, rfl, fun z => absurd z h1, fun _ => rfl⟩
  have rts : ∀ x, Rt eD (eV.set i (some w)) x → Rt eD eV x := fun x ⟨j, u, h1, h2, h3⟩ => by
    obtain ⟨u0, q1, q2, _⟩ := tag h1
    exact ⟨j, u0, q1, q2.trans h2, h3⟩
  refine ⟨⟨by simp [I.len], I.big, fun j u h => ?_, fun j k u u' x h1 h2 h3 h4 h5 h6 => ?_, fun j u hj => ?_⟩, fun j u x h1 h2 h3 => ?_, rts, fun x ⟨j, u, dd, h1, h2, h3⟩ => ?_, fun j hj => ?_⟩
  · obtain ⟨u0, q1, q2, q3, q4⟩ := tag h
    obtain ⟨dj, e1, e2, e3⟩ := I.slot j u0 q1
    by_cases hj : j = i
    · obtain ⟨rfl, rfl⟩ := q3 hj
      exact ⟨dj, e1, by rw [ht]; exact e2, hp _ _ (slotP_mono e3 fun x _ z => rts x z)⟩
    · have := q4 hj
      subst this
      exact ⟨dj, e1, e2, slotP_mono e3 fun x _ z => rts x z⟩
  · obtain ⟨u0, q1, q2, _⟩ := tag h1
    obtain ⟨u1, r1, r2, _⟩ := tag h2
    exact I.uniq j k u0 u1 x q1 r1 (q2.trans h3) (r2.trans h4) h5 h6
  · rcases lk_of_set hj with ⟨_, z, _⟩ | ⟨_, z⟩
    · exact absurd z.symm (hnm u)
    · exact I.mroot j u z
  · obtain ⟨u0, q1, q2, _⟩ := tag h1
    exact ⟨u0, q1, q2.trans h2, h3⟩
  · obtain ⟨u0, q1, _⟩ := tag h1
    exact ⟨j, u0, dd, q1, h2, h3⟩
  · by_cases h : i = j
    · subst h; rw [lk_set_self hlt]; rfl
    · rw [lk_set_ne h]; exact hj
theorem EI.lock (I : EI a st eD eV) {i : Nat} {t : T} (hi : lk eV i = some (.s t)) : EI a st eD (eV.set i (some (.l t))) ∧ Stp st eD eV st eD (eV.set i (some (.l t))) ∧ Sl eV (eV.set i (some (.l t))) ∧ (∀ l, eD.val i = some (.ref l) → ¬ Rm eD (eV.set i (some (.l t))) l) := by
  obtain ⟨q1, q0, q2, q3, q4⟩ := I.retag (w := .l t) hi rfl rfl rfl (fun _ _ h => h) (fun _ z => nomatch z)
  have mr : ∀ x, Rm eD (eV.set i (some (.l t))) x → Rm eD eV x ∧ eD.val i ≠ some (.ref x) := fun x ⟨j, v, h1, h2, h3⟩ => by
    rcases lk_of_set h1 with ⟨_, rfl, _⟩ | ⟨e1, e2⟩
    · cases h2
    · exact ⟨⟨j, v, e2, h2, h3⟩, fun z => e1 (I.uniq j i v _ x e2 hi (VS.own_rooted h2) rfl h3 z)⟩
  exact ⟨q1, ⟨Nat.le_refl _, fun _ _ _ => rfl, fun x h => .inl (mr x h).1, fun j u x h1 h2 h3 => .inl (q0 j u x h1 h2 h3), fun x h => .inl (q3 x h)⟩, ⟨q4, fun j v h1 h2 => by
    rcases lk_of_set h1 with ⟨_, rfl, _⟩ | ⟨e1, e2⟩
    · cases h2
    · exact ⟨v, e2, h2⟩⟩, fun l hl z => (mr l z).2 hl⟩
theorem lock_ok (I : EI a st eD eV) (p0 : Stp st0 eD eV0 st eD eV) (sl : Sl eV0 eV) {o : Opd} {f : T → Option (List T)} {g : D → Option Its} (ho : QO a eD st0 eV0 o d st eV)
    (hfg : ∀ t ts, Un st d t → f t = some ts → ∃ its, g d = some its ∧ Uns st its.xs ts ∧ (∀ e ∈ its.xs, Part st d e) ∧ ∀ p ∈ its.gd, st[p.1]? = some p.2 ∧ d = .ref p.1) :
    RR a eD st0 eV0 (fun w its st' eV' => QI a eD st0 eV0 w its st' eV' ∧ st' = st ∧ Stp st eD eV st' eD eV' ∧ Sl eV eV' ∧ ∀ i t, lk eV i = some (.l t) → lk eV' i = some (.l t)) (lockV eV o f) (Res.of (g d) st) := by
  have main : ∀ (t : T) (eV1 : VEn) (lks : List Nat), Un st d t → EI a st eD eV1 → Stp st eD eV st eD eV1 → Sl eV eV1 → (∀ l, d = .ref l → ¬ Rm eD eV1 l) → (∀ e, Part st d e → Src a st0 eD eV0 st eV1 e) → (∀ i ∈ lks, ∃ t, lk eV1 i = some (.l t) ∧ ∃ v0, lk eV0 i = some v0 ∧ v0.own = true) → (∀ i v, lk eV1 i = some v → v.own = true → lk eV i = some v) → (∀ i t, lk eV i = some (.l t) → lk eV1 i = some (.l t)) → ∀ r : VR ItT, (∀ ts, f t = some ts → r = .ok ⟨ts, lks⟩ eV1) → (f t = none → r = .bad) →
      RR a eD st0 eV0 (fun w its st' eV' => QI a eD st0 eV0 w its st' eV' ∧ st' = st ∧ Stp st eD eV st' eD eV' ∧ Sl eV eV' ∧ ∀ i t, lk eV i = some (.l t) → lk eV' i = some (.l t)) r (Res.of (g d) st) := by
    intro t eV1 lks u I1 p1 s1 hm hs hl ho1 hll r hr1 hr2
    cases hf : f t with
    | none => rw [hr2 hf]; trivial
    | some ts =>
      rw [hr1 ts hf]
      obtain ⟨its, g1, g2, g3, g4⟩ := hfg t ts u hf
      rw [g1]
      exact ⟨its, st, rfl, I1, p0.trans p1, sl.trans s1, ⟨g2, fun e he => hs e (g3 e he), fun p hp => ⟨(g4 p hp).1, hm p.1 (g4 p hp).2⟩, hl⟩, rfl, p1, s1, hll⟩
  have srcs : ∀ e, Part st d e → Src a st0 eD eV0 st eV e := fun e hp x hx => ⟨op_below I ho.1 hp x hx, part_pv p0 ho hp x hx⟩
  cases o with
  | v t fr =>
    refine main t eV [] ho.1.un I .refl .refl (fun l e z => ?_) srcs (fun i hi => by cases hi) (fun i v h _ => h) (fun _ _ h => h) _ (fun ts h => by simp [lockV, h, VR.of, VR.bind]) (fun h => by simp [lockV, h, VR.of, VR.bind])
    subst e
    exact (ho.1.pr l .ref).2 z.rt
  | p i =>
    obtain ⟨h1, h2⟩ := ho.1
    simp only [lockV]
    split
    · rename_i t hi
      obtain ⟨q1, q2, q3, q4⟩ := I.lock hi
      obtain ⟨d', e1, e2, e3⟩ := I.slot i _ hi
      rw [h1] at e1
      cases e1
      refine main t _ [i] e2 q1 q2 q3 (fun l e => ?_) (fun e hp x hx => ?_) (fun j hj => ?_) (fun j v hj hv => ?_) (fun j u hj => ?_) _ (fun ts h => by simp [h, VR.of, VR.bind]) (fun h => by simp [h, VR.of, VR.bind])
      · subst e; exact q4 l h1
      · have := srcs e hp x hx
        exact ⟨⟨this.1.1, fun z => (q2.roots x z).elim this.1.2 fun y => by
          have := e2.inside x (hp.1 x hx)
          omega⟩, this.2⟩
      · simp at hj
        subst hj
        exact ⟨t, lk_set_self (lk_lt hi), sl.own j _ hi rfl⟩
      · rcases lk_of_set hj with ⟨_, rfl, _⟩ | ⟨_, e2⟩
        · cases hv
        · exact e2
      · by_cases hij : i = j
        · subst hij; rw [hi] at hj; cases hj
        · rw [lk_set_ne hij]; exact hj
    · rename_i t hi
      obtain ⟨d', e1, e2, e3⟩ := I.slot i _ hi
      rw [h1] at e1
      cases e1
      refine main t eV [] e2 I .refl .refl (fun l e z => ?_) srcs (fun i hi => by cases hi) (fun i v h _ => h) (fun _ _ h => h) _ (fun ts h => by simp [h, VR.of, VR.bind]) (fun h => by simp [h, VR.of, VR.bind])
      subst e
      obtain ⟨z1, z2, _⟩ := e3 l .ref
      rcases (I.root z.rt).2 with y | y
      · omega
      · exact z2 y
    · rename_i t hi
      obtain ⟨d', e1, e2, e3⟩ := I.slot i _ hi
      rw [h1] at e1
      cases e1
      refine main t eV [] e2 I .refl .refl (fun l e z => ?_) srcs (fun i hi => by cases hi) (fun i v h _ => h) (fun _ _ h => h) _ (fun ts h => by simp [h, VR.of, VR.bind]) (fun h => by simp [h, VR.of, VR.bind])
      subst e
      obtain ⟨j, v, y1, y2, y3⟩ := z
      have := I.uniq j i v _ l y1 hi (VS.own_rooted y2) rfl y3 h1
      subst this
      rw [hi] at y1
      cases y1
      cases y2
    · trivial
/-- the locks are taken off -/
theorem unlock_ok : ∀ (lks : List Nat) {eV : VEn}, EI a st eD eV → Stp st0 eD0 eV0 st eD eV → (∀ i ∈ lks, ∀ x, eD.val i = some (.ref x) → (∃ t, lk eV i = some (.l t)) → Rm eD0 eV0 x ∨ st0.length ≤ x) → EI a st eD (unlock eV lks) ∧ Stp st0 eD0 eV0 st eD (unlock eV lks) ∧ (∀ j, (lk eV j).isSome = true → (lk (unlock eV lks) j).isSome = true) ∧ (∀ i, i ∉ lks → lk (unlock eV lks) i = lk eV i) ∧ (∀ i t, lk (unlock eV lks) i = some (.l t) → lk eV i = some (.l t)) ∧ (∀ x, Rt eD (unlock eV lks) x → Rt eD eV x)
  | [], eV, I, p0, h => ⟨I, p0, fun _ h => h, fun _ _ => rfl, fun _ _ h => h, fun _ h => h⟩
  | i :: is, eV, I, p0, h => by
    obtain ⟨I1, p1, s1, k1, k2, k3⟩ := unlock_ok is I p0 (fun j hj => h j (List.mem_cons_of_mem _ hj))
    simp only [unlock]
    split
    · rename_i t hi
      obtain ⟨q1, q0, q2, q3, q4⟩ := I1.retag (w := .s t) hi rfl rfl rfl (fun _ _ h => h) (fun _ z => nomatch z)
      refine ⟨q1, ⟨p1.len, p1.keep, fun x ⟨j, v, y1, y2, y3⟩ => ?_, fun j u x z1 z2 z3 => by obtain ⟨u0, y1, y2, y3⟩ := q0 j u x z1 z2 z3; exact p1.iroots j u0 x y1 y2 y3, fun x z => p1.reach x (q3 x z)⟩, fun j hj => q4 j (s1 j hj), fun j hj => ?_, fun j u hj => ?_, fun x z => k3 x (q2 x z)⟩
      · rcases lk_of_set y1 with ⟨rfl, rfl, _⟩ | ⟨_, e2⟩
        · exact h j List.mem_cons_self x y3 ⟨t, k2 j t hi⟩
        · exact p1.mroots x ⟨j, v, e2, y2, y3⟩
      · simp only [List.mem_cons, not_or] at hj
        rw [lk_set_ne (fun z => hj.1 z.symm)]
        exact k1 j hj.2
      · rcases lk_of_set hj with ⟨rfl, z, _⟩ | ⟨_, e2⟩
        · cases z
        · exact k2 j u e2
    · refine ⟨I1, p1, s1, fun j hj => k1 j (fun z => hj (List.mem_cons_of_mem _ z)), k2, k3⟩
end
end Ev

/-! Comprehensions. -/
namespace Ev
open PySem
theorem wipe_len (e : En) : ∀ own : List Nat, (Ev.wipe e own).length = e.length
  | [] => rfl
  | v :: vs => by simp [Ev.wipe, wipe_len e vs]
theorem wipe_get (e : En) : ∀ (own : List Nat) (i : Nat), (Ev.wipe e own)[i]? = if i ∈ own then (if i < e.length then some none else none) else e[i]?
  | [], i => by simp [Ev.wipe]
  | v :: vs, i => by
    rw [Ev.wipe]
    by_cases hv : v = i
    · subst hv
      by_cases hl : v < e.length
      · rw [List.getElem?_set_self (by rw [wipe_len]; exact hl)]
        simp [hl]
      · rw [List.getElem?_eq_none (by simp [wipe_len]; omega)]
        simp [hl]
    · rw [List.getElem?_set_ne hv, wipe_get e vs i]
      have : i ≠ v := fun z => hv z.symm
      simp [this]
theorem wipe_same {e e1 : En} {own sl : List Nat} (h : ButS sl (Ev.wipe e own) e1) (hs : ∀ i ∈ sl, i ∈ own) : Ev.wipe e1 own = Ev.wipe e own := by
  apply List.ext_getElem?
  intro i
  rw [wipe_get, wipe_get]
  have hl : e1.length = e.length := by rw [h.1, wipe_len]
  rw [hl]
  split
  · rfl
  · rename_i hi
    rw [h.2 i (fun z => hi (hs i z)), wipe_get, if_neg hi]
theorem wipeV_lk (e : VEn) : ∀ (own : List Nat) (i : Nat), lk (wipeV e own) i = if i ∈ own then none else lk e i
  | [], i => by simp [wipeV]
  | v :: vs, i => by
    rw [wipeV]
    by_cases hv : v = i
    · subst hv
      by_cases hl : v < (wipeV e vs).length
      · rw [lk_set_self hl]; simp
      · have : lk ((wipeV e vs).set v none) v = none := by
          unfold lk
          rw [List.getElem?_eq_none (by simpa using hl)]
          rfl
        rw [this]; simp
    · rw [lk_set_ne hv, wipeV_lk e vs i]
      have : i ≠ v := fun z => hv z.symm
      simp [this]
section
variable {a : Act} {st st0 st1 stB : Sto} {eD eD0 eD1 eDB : En} {eV eV0 eV1 eVB : VEn} {d e : D} {t : T}
/-- a step, what is come to left aside -/
structure Stq (st : Sto) (eD : En) (eV : VEn) (st' : Sto) (eD' : En) (eV' : VEn) : Prop where
  len : st.length ≤ st'.length
  keep : ∀ x, x < st.length → ¬ Rm eD eV x → st'[x]? = st[x]?
  mroots : ∀ x, Rm eD' eV' x → Rm eD eV x ∨ st.length ≤ x
  roots : ∀ x, Rt eD' eV' x → Rt eD eV x ∨ st.length ≤ x
theorem Stp.q (p : Stp st eD eV st1 eD1 eV1) : Stq st eD eV st1 eD1 eV1 := ⟨p.len, p.keep, p.mroots, p.roots⟩
theorem Stq.refl : Stq st eD eV st eD eV := Stp.refl.q
theorem Stq.trans {st2 : Sto} {eD2 : En} {eV2 : VEn} (p : Stq st eD eV st1 eD1 eV1) (q : Stq st1 eD1 eV1 st2 eD2 eV2) : Stq st eD eV st2 eD2 eV2 where
  len := Nat.le_trans p.len q.len
  mroots := fun x h => by
    rcases q.mroots x h with h | h
    · exact p.mroots x h
    · exact .inr (Nat.le_trans p.len h)
  keep := fun x hx hr => (q.keep x (Nat.lt_of_lt_of_le hx p.len) fun z => by
    rcases p.mroots x z with z | z
    · exact hr z
    · omega).trans (p.keep x hx hr)
  roots := fun x h => by
    rcases q.roots x h with h | h
    · exact p.roots x h
    · exact .inr (Nat.le_trans p.len h)
/-- a value waits, whoever is asked meanwhile -/
def SrcB (a : Act) (stB : Sto) (eDB : En) (eVB : VEn) (st : Sto) (eD : En) (eV : VEn) (e : D) : Prop := ∀ x, Hit st e x → (a.Pr x ∧ ¬ Rt eD eV x) ∧ (Rc stB eDB eVB x ∨ stB.length ≤ x)
theorem SrcB.wait (h : SrcB a stB eDB eVB st eD eV e) (u : Un st e t) (p : Stq st eD eV st1 eD1 eV1) : SrcB a stB eDB eVB st1 eD1 eV1 e ∧ Un st1 e t := by
  obtain ⟨u1, u2⟩ := u.stay fun x hx => p.keep x (u.inside x hx) fun z => (h x hx).1.2 z.rt
  refine ⟨fun x hx => ?_, u1⟩
  have := h x (u2 x hx)
  refine ⟨⟨this.1.1, fun z => ?_⟩, this.2⟩
  rcases p.roots x z with z | z
  · exact this.1.2 z
  · have := u.inside x (u2 x hx)
    omega
theorem srcs_wait {ds : List D} {ts : List T} (h : ∀ e ∈ ds, SrcB a stB eDB eVB st eD eV e) (us : Uns st ds ts) (p : Stq st eD eV st1 eD1 eV1) : (∀ e ∈ ds, SrcB a stB eDB eVB st1 eD1 eV1 e) ∧ Uns st1 ds ts := by
  refine ⟨fun e he => ?_, (us.stay fun d hd x hx => p.keep x (us.inside d hd x hx) fun z => (h d hd x hx).1.2 z.rt).1⟩
  obtain ⟨t, _, u⟩ := us.mem_left e he
  exact ((h e he).wait u p).1
theorem gd_wait {gd : List (Nat × O)} (h : ∀ q ∈ gd, st[q.1]? = some q.2 ∧ ¬ Rm eD eV q.1) (p : Stq st eD eV st1 eD1 eV1) : ∀ q ∈ gd, st1[q.1]? = some q.2 ∧ ¬ Rm eD1 eV1 q.1 := fun q hq => by
  obtain ⟨h1, h2⟩ := h q hq
  have hl := (List.getElem?_eq_some_iff.mp h1).1
  refine ⟨(p.keep q.1 hl h2).trans h1, fun z => ?_⟩
  rcases p.mroots _ z with z | z
  · exact h2 z
  · omega
theorem still_of {gd : List (Nat × O)} (h : ∀ q ∈ gd, st[q.1]? = some q.2 ∧ ¬ Rm eD eV q.1) : still gd st = true := by
  unfold still
  exact List.all_eq_true.mpr fun q hq => decide_eq_true (h q hq).1
/-- the slots that a comprehension has not of its own -/
def SlO (own : List Nat) (eV eV' : VEn) : Prop := (∀ i, i ∉ own → (lk eV i).isSome = true → (lk eV' i).isSome = true) ∧ ∀ i, i ∉ own → ∀ v, lk eV' i = some v → v.own = true → ∃ v0, lk eV i = some v0 ∧ v0.own = true
mutual
theorem bindV_sl : ∀ (tg : Tg) {t : T} {eV eV1 : VEn}, bindV tg t eV = some eV1 → ∀ i, i ∉ tgSlots tg → lk eV1 i = lk eV i
  | .nm j, t, eV, eV1, h, i, hi => by
    rw [bindV] at h
    rw [st_some h, lk_set_ne (fun z => hi (by simp [tgSlots, z]))]
  | .tp ts, t, eV, eV1, h, i, hi => by
    rw [bindV] at h
    split at h
    · split at h
      · exact bindVs_sl ts h i (by simpa [tgSlots] using hi)
      · cases h
    · cases h
theorem bindVs_sl : ∀ (tgs : List Tg) {ts : List T} {eV eV1 : VEn}, bindVs tgs ts eV = some eV1 → ∀ i, i ∉ tgsSlots tgs → lk eV1 i = lk eV i
  | [], ts, eV, eV1, h, i, hi => by rw [bindVs] at h; cases h; rfl
  | tg :: tgs, ts, eV, eV1, h, i, hi => by
    cases ts with
    | nil => rw [bindVs] at h; cases h
    | cons x xs =>
      rw [bindVs] at h
      obtain ⟨eV2, h1, h2⟩ := Option.bind_eq_some_iff.mp h
      simp only [tgsSlots, List.mem_append, not_or] at hi
      rw [bindVs_sl tgs h2 i hi.2, bindV_sl tg h1 i hi.1]
end
theorem loopC_ok {own : List Nat} {tg : Tg} {vt : VEn → VR Bool} {ve : VEn → VR T} {tt : En → Sto → Res Bool} {te : En → Sto → Res D} {gd : List (Nat × O)} (htg : ∀ i ∈ tgSlots tg, i ∈ own)
    (htest : ∀ st eD eV, EI a st eD eV → RR a eD st eV (fun x y _ _ => x = y) (vt eV) (tt eD st)) (helt : ∀ st eD eV, EI a st eD eV → RR a eD st eV (fun t d st' eV' => QT a eD st eV t d st' eV') (ve eV) (te eD st)) :
    ∀ (xs : List T) (ds : List D) (st : Sto) (eV : VEn), EI a st (Ev.wipe eD own) (wipeV eV own) → Stp stB eDB eVB st (Ev.wipe eD own) (wipeV eV own) → Uns st ds xs → (∀ e ∈ ds, SrcB a stB eDB eVB st (Ev.wipe eD own) (wipeV eV own) e) →
      (∀ p ∈ gd, st[p.1]? = some p.2 ∧ ¬ Rm (Ev.wipe eD own) (wipeV eV own) p.1) → match loopVC own tg vt ve xs eV with
        | .ok ys eV' => ∃ es st', loopC (fun st => bindT st tg) tt te gd (Ev.wipe eD own) ds st = .ok es st' ∧ EI a st' (Ev.wipe eD own) (wipeV eV' own) ∧ Stq st (Ev.wipe eD own) (wipeV eV own) st' (Ev.wipe eD own) (wipeV eV' own) ∧ Stp stB eDB eVB st' (Ev.wipe eD own) (wipeV eV' own) ∧
            Uns st' es ys ∧ (∀ e ∈ es, SrcB a stB eDB eVB st' (Ev.wipe eD own) (wipeV eV' own) e) ∧ SlO own eV eV'
        | _ => True := by
  intro xs
  induction xs with
  | nil =>
    intro ds st eV I p us hs hg
    cases us
    rw [loopVC]
    have nil0 : ∀ e ∈ ([] : List D), SrcB a stB eDB eVB st (Ev.wipe eD own) (wipeV eV own) e := fun e he => nomatch he
    refine ⟨[], st, ?_, I, .refl, p, .nil, nil0, fun _ _ h => h, fun i _ v h1 h2 => ⟨v, h1, h2⟩⟩
    rw [loopC, if_pos (still_of hg)]
  | cons x xs ih =>
    intro ds st eV I p us hs hg
    cases us with
    | cons u us =>
      rename_i d ds
      rw [loopVC]
      cases hb : bindV tg x (wipeV eV own) with
      | none => trivial
      | some eV1 =>
        obtain ⟨eD1, b1, I1, p1, b4, b6, b5⟩ := bindV_ok tg I p u (hs d List.mem_cons_self) hb
        have q1 : Stq st (Ev.wipe eD own) (wipeV eV own) st eD1 eV1 := ⟨Nat.le_refl _, fun _ _ _ => rfl, fun x h => .inl (b6 x h), fun x h => .inl (b4 x h)⟩
        have sl1 : SlO own eV eV1 := by
          refine ⟨fun i hi h => ?_, fun i hi v h1 h2 => ?_⟩
          · rw [bindV_sl tg hb i (fun z => hi (htg i z)), wipeV_lk, if_neg hi]; exact h
          · rw [bindV_sl tg hb i (fun z => hi (htg i z)), wipeV_lk, if_neg hi] at h1; exact ⟨v, h1, h2⟩
        -- from here to the next turn
        have next : ∀ {st3 : Sto} {eV3 : VEn}, EI a st3 eD1 eV3 → Stp st eD1 eV1 st3 eD1 eV3 → EI a st3 (Ev.wipe eD own) (wipeV eV3 own) ∧ Stp stB eDB eVB st3 (Ev.wipe eD own) (wipeV eV3 own) ∧ Stq st3 eD1 eV3 st3 (Ev.wipe eD own) (wipeV eV3 own) ∧ Uns st3 ds xs ∧ (∀ e ∈ ds, SrcB a stB eDB eVB st3 (Ev.wipe eD own) (wipeV eV3 own) e) ∧ (∀ q ∈ gd, st3[q.1]? = some q.2 ∧ ¬ Rm (Ev.wipe eD own) (wipeV eV3 own) q.1) ∧ Stq st (Ev.wipe eD own) (wipeV eV own) st3 (Ev.wipe eD own) (wipeV eV3 own) := by
          intro st3 eV3 I3 p3
          have hw : Ev.wipe eD1 own = Ev.wipe eD own := wipe_same b5 htg
          obtain ⟨I4, p4⟩ := I3.wipe (st0 := st3) (eD0 := eD1) (eV0 := eV3) .refl own
          rw [hw] at I4 p4
          have q3 : Stq st (Ev.wipe eD own) (wipeV eV own) st3 (Ev.wipe eD own) (wipeV eV3 own) := (q1.trans p3.q).trans p4.q
          obtain ⟨w1, w2⟩ := srcs_wait (fun e he => hs e (List.mem_cons_of_mem _ he)) us q3
          exact ⟨I4, (p1.trans p3).trans p4, p4.q, w2, w1, gd_wait hg q3, q3⟩
        have hb' : (fun st => bindT st tg) st d (Ev.wipe eD own) = some eD1 := b1
        have slo : ∀ {eV2 eV3 : VEn}, SlO own eV eV2 → Sl eV2 eV3 → SlO own eV eV3 := fun h1 h2 => ⟨fun i hi h => h2.is i (h1.1 i hi h), fun i hi v z1 z2 => by
          obtain ⟨v1, y1, y2⟩ := h2.own i v z1 z2
          exact h1.2 i hi v1 y1 y2⟩
        have slt : ∀ {eV2 eV3 : VEn}, SlO own eV eV2 → SlO own eV2 eV3 → SlO own eV eV3 := fun h1 h2 => ⟨fun i hi h => h2.1 i hi (h1.1 i hi h), fun i hi v z1 z2 => by
          obtain ⟨v1, y1, y2⟩ := h2.2 i hi v z1 z2
          exact h1.2 i hi v1 y1 y2⟩
        have ht := htest st eD1 eV1 I1
        simp only
        cases hr : vt eV1 with
        | bad => trivial
        | exc => trivial
        | ok b eV2 =>
          rw [hr] at ht
          obtain ⟨b', st2, e2, I2, p2, s2, rfl⟩ := ht
          simp only [VR.bind]
          cases b with
          | false =>
            obtain ⟨n1, n2, n3, n4, n5, n6, n7⟩ := next I2 p2
            have hI := ih ds st2 eV2 n1 n2 n4 n5 n6
            simp only [Bool.false_eq_true, if_false]
            cases hl : loopVC own tg vt ve xs eV2 with
            | bad => trivial
            | exc => trivial
            | ok ys eV' =>
              rw [hl] at hI
              obtain ⟨es, st', f1, f2, f3, f4, f5, f6, f7⟩ := hI
              refine ⟨es, st', ?_, f2, n7.trans f3, f4, f5, f6, slt (slo sl1 s2) f7⟩
              rw [loopC, if_pos (still_of hg), b1]
              simp only [e2, Res.bind_ok, Bool.false_eq_true, if_false]
              exact f1
          | true =>
            simp only [if_true]
            have he := helt st2 eD1 eV2 I2
            cases hq : ve eV2 with
            | bad => trivial
            | exc => trivial
            | ok y eV3 =>
              rw [hq] at he
              obtain ⟨dy, st3, e3, I3, p3, s3, qt⟩ := he
              obtain ⟨n1, n2, n3, n4, n5, n6, n7⟩ := next I3 (p2.trans p3)
              have hI := ih ds st3 eV3 n1 n2 n4 n5 n6
              simp only
              cases hl : loopVC own tg vt ve xs eV3 with
              | bad => trivial
              | exc => trivial
              | ok ys eV' =>
                rw [hl] at hI
                obtain ⟨es, st', f1, f2, f3, f4, f5, f6, f7⟩ := hI
                have sy : SrcB a stB eDB eVB st3 eD1 eV3 dy := fun x hx => ⟨qt.1.pr x hx, by
                  rcases qt.2 x hx with z | z
                  · exact (p1.trans p2).reach x z
                  · exact .inr (Nat.le_trans (p1.trans p2).len z)⟩
                obtain ⟨sy', uy'⟩ := sy.wait qt.1.un (n3.trans f3)
                refine ⟨dy :: es, st', ?_, f2, n7.trans f3, f4, .cons uy' f5, fun e he => ?_, slt (slo (slo sl1 s2) s3) f7⟩
                · rw [loopC, if_pos (still_of hg), b1]
                  simp only [e2, Res.bind_ok, if_true, e3, f1]
                · rcases List.mem_cons.mp he with rfl | he
                  · exact sy'
                  · exact f6 e he
end
end Ev

/-! All expressions. -/
namespace Ev
open PySem
inductive QTs (a : Act) (eD : En) (st0 : Sto) (eV0 : VEn) (st : Sto) (eV : VEn) : List T → List D → Prop
  | nil : QTs a eD st0 eV0 st eV [] []
  | cons {t : T} {d : D} {ts : List T} {ds : List D} : QT a eD st0 eV0 t d st eV → QTs a eD st0 eV0 st eV ts ds → QTs a eD st0 eV0 st eV (t :: ts) (d :: ds)
section
variable {a : Act} {st st0 st1 : Sto} {eD eD0 eD1 : En} {eV eV0 eV1 : VEn} {d e : D} {t : T}
theorem QTs.base (p : Stp st0 eD eV0 st1 eD eV1) : ∀ {ts : List T} {ds : List D}, QTs a eD st1 eV1 st eV ts ds → QTs a eD st0 eV0 st eV ts ds
  | _, _, .nil => .nil
  | _, _, .cons q qs => .cons (q.base p) (QTs.base p qs)
theorem QTs.uns : ∀ {ts : List T} {ds : List D}, QTs a eD st0 eV0 st eV ts ds → Uns st ds ts
  | _, _, .nil => .nil
  | _, _, .cons q qs => .cons q.1.un (QTs.uns qs)
theorem QTs.src : ∀ {ts : List T} {ds : List D}, QTs a eD st0 eV0 st eV ts ds → ∀ e ∈ ds, Src a st0 eD eV0 st eV e
  | _, _, .nil, e, h => by cases h
  | _, _, .cons q qs, e, h => by
    rcases List.mem_cons.mp h with rfl | h
    · exact QT.src q
    · exact QTs.src qs e h
theorem QOs.base (p : Stp st0 eD eV0 st1 eD eV1) : ∀ {os : List Opd} {ds : List D}, QOs a eD st1 eV1 st eV os ds → QOs a eD st0 eV0 st eV os ds
  | _, _, .nil => .nil
  | _, _, .cons q qs => .cons (q.base p) (QOs.base p qs)
theorem QO.wait {o : Opd} (h : QO a eD st0 eV0 o d st eV) (p : Stp st eD eV st1 eD eV1) (sl : Sl eV eV1) : QO a eD st0 eV0 o d st1 eV1 := by
  refine ⟨h.1.wait p sl, ?_⟩
  cases o with
  | v t fr => exact ⟨Pv.wait h.2.1 (Tmp.hits h.1 p), h.2.2⟩
  | p i => trivial
/-- the answer: a value of taken values -/
theorem RR.tup {ts : List T} {ds : List D} (I : EI a st eD eV) (p0 : Stp st0 eD eV0 st eD eV) (sl : Sl eV0 eV) (h : QTs a eD st0 eV0 st eV ts ds) : RR a eD st0 eV0 (QO a eD st0 eV0) (.ok (.v (.tup ts) false) eV) (.ok (.tup ds) st) := by
  have hh : ∀ x, Hit st (.tup ds) x → ∃ e ∈ ds, Hit st e x := fun x hx => by cases hx with | tup h1 h2 => exact ⟨_, h1, h2⟩
  refine ⟨_, _, rfl, I, p0, sl, ⟨.tup h.uns, fun x hx => ?_, fun z => nomatch z⟩, fun x hx => ?_, fun z => nomatch z⟩
  · obtain ⟨e, h1, h2⟩ := hh x hx
    exact (h.src e h1 x h2).1
  · obtain ⟨e, h1, h2⟩ := hh x hx
    exact (h.src e h1 x h2).2
theorem own_val {own : List Nat} (hw : i ∉ own) : En.val (Ev.wipe eD own) i = eD.val i := by
  unfold En.val
  rw [wipe_get, if_neg hw]
/-- behind a comprehension its own names are what they were -/
theorem backV_lk (e e' : VEn) (hl : e'.length = e.length) : ∀ (own : List Nat) (i : Nat), lk (backV e e' own) i = if i ∈ own then lk e i else lk e' i
  | [], i => by simp [backV]
  | v :: vs, i => by
    rw [backV]
    have len : (backV e e' vs).length = e.length := by
      have : ∀ vs : List Nat, (backV e e' vs).length = e'.length := by
        intro vs
        induction vs with
        | nil => rfl
        | cons w ws ih => simp [backV, ih]
      rw [this, hl]
    by_cases hv : v = i
    · subst hv
      by_cases hlt : v < (backV e e' vs).length
      · rw [lk_set_self hlt]; simp
      · have h1 : lk ((backV e e' vs).set v (lk e v)) v = none := by
          unfold lk
          rw [List.getElem?_eq_none (by simpa using hlt)]
          rfl
        have h2 : lk e v = none := by
          unfold lk
          rw [List.getElem?_eq_none (by omega)]
          rfl
        rw [h1, h2]; simp
    · rw [lk_set_ne hv, backV_lk e e' hl vs i]
      have : i ≠ v := fun z => hv z.symm
      simp [this]
theorem backV_len (e e' : VEn) : ∀ vs : List Nat, (backV e e' vs).length = e'.length
  | [] => rfl
  | w :: ws => by simp [backV, backV_len e e' ws]
theorem ownOk_at : ∀ {own : List Nat} {eV : VEn}, ownOk eV own = true → ∀ i ∈ own, ∀ v, lk eV i = some v → ∃ t, v = .b t := by
  intro own
  induction own with
  | nil => intro eV _ i hi; cases hi
  | cons w ws ih =>
    intro eV h i hi v hv
    rw [ownOk, Bool.and_eq_true] at h
    rcases List.mem_cons.mp hi with rfl | hi
    · rw [hv] at h
      cases v with
      | b t => exact ⟨t, rfl⟩
      | s t => cases h.1
      | l t => cases h.1
      | m t => cases h.1
      | r t => cases h.1
    · exact ih h.2 i hi v hv
/-- the comprehension's end -/
theorem back_ok {own : List Nat} {st' : Sto} {eV' : VEn} (I : EI a st eD eV) (ho : ownOk eV own = true) (I' : EI a st' (Ev.wipe eD own) (wipeV eV' own)) (q : Stq st (Ev.wipe eD own) (wipeV eV own) st' (Ev.wipe eD own) (wipeV eV' own)) (p : Stp st0 eD0 eV0 st' (Ev.wipe eD own) (wipeV eV' own)) (p0 : Stp st0 eD0 eV0 st eD eV) (so : SlO own eV eV') :
    EI a st' eD (backV eV eV' own) ∧ Stp st0 eD0 eV0 st' eD (backV eV eV' own) ∧ Sl eV (backV eV eV' own) ∧ (∀ x, Rt eD (backV eV eV' own) x → Rt (Ev.wipe eD own) (wipeV eV' own) x) ∧ (∀ x, Rm eD (backV eV eV' own) x → Rm (Ev.wipe eD own) (wipeV eV' own) x) := by
  have hlen : eV'.length = eV.length := by
    have h1 := I'.len
    have h2 : ∀ vs : List Nat, (wipeV eV' vs).length = eV'.length := by
      intro vs
      induction vs with
      | nil => rfl
      | cons w ws ih => simp [wipeV, ih]
    rw [wipe_len, h2] at h1
    rw [← h1, I.len]
  have at_ : ∀ {i : Nat} {v : VS}, lk (backV eV eV' own) i = some v → (i ∈ own ∧ lk eV i = some v) ∨ (i ∉ own ∧ lk (wipeV eV' own) i = some v ∧ En.val (Ev.wipe eD own) i = eD.val i) := fun {i v} h => by
    rw [backV_lk eV eV' hlen] at h
    split at h
    · rename_i hi; exact .inl ⟨hi, h⟩
    · rename_i hi; exact .inr ⟨hi, by rw [wipeV_lk, if_neg hi]; exact h, own_val hi⟩
  have rts : ∀ x, Rt eD (backV eV eV' own) x → Rt (Ev.wipe eD own) (wipeV eV' own) x := fun x ⟨i, v, h1, h2, h3⟩ => by
    rcases at_ h1 with ⟨hi, h4⟩ | ⟨hi, h4, h5⟩
    · obtain ⟨t, rfl⟩ := ownOk_at ho i hi v h4
      cases h2
    · exact ⟨i, v, h4, h2, by rw [h5]; exact h3⟩
  have mrts : ∀ x, Rm eD (backV eV eV' own) x → Rm (Ev.wipe eD own) (wipeV eV' own) x := fun x ⟨i, v, h1, h2, h3⟩ => by
    rcases at_ h1 with ⟨hi, h4⟩ | ⟨hi, h4, h5⟩
    · obtain ⟨t, rfl⟩ := ownOk_at ho i hi v h4
      cases h2
    · exact ⟨i, v, h4, h2, by rw [h5]; exact h3⟩
  -- the own names' values wait
  have wiped : ∀ x, Rt (Ev.wipe eD own) (wipeV eV own) x → Rt eD eV x := fun x ⟨i, v, h1, h2, h3⟩ => by
    rw [wipeV_lk] at h1
    split at h1
    · cases h1
    · rename_i hi
      rw [own_val hi] at h3
      exact ⟨i, v, h1, h2, h3⟩
  have waits : ∀ i ∈ own, ∀ v, lk eV i = some v → ∃ dd, eD.val i = some dd ∧ Un st' dd v.t ∧ (∀ x, Hit st' dd x → (a.Pr x ∧ ¬ Rt (Ev.wipe eD own) (wipeV eV' own) x) ∧ Hit st dd x) := fun i hi v hv => by
    obtain ⟨t, rfl⟩ := ownOk_at ho i hi v hv
    obtain ⟨dd, e1, e2, e3⟩ := I.slot i _ hv
    have s0 : SrcB a st eD eV st (Ev.wipe eD own) (wipeV eV own) dd := fun x hx => ⟨⟨(e3 x hx).1, fun z => (e3 x hx).2 (wiped x z)⟩, .inl ⟨i, _, dd, hv, e1, hx⟩⟩
    obtain ⟨s1, u1⟩ := s0.wait e2 q
    obtain ⟨_, u2⟩ := e2.stay fun x hx => q.keep x (e2.inside x hx) fun z => (s0 x hx).1.2 z.rt
    exact ⟨dd, e1, u1, fun x hx => ⟨(s1 x hx).1, u2 x hx⟩⟩
  refine ⟨⟨by rw [I.len, backV_len, hlen], I'.big, fun i v h => ?_, fun i j v w x h1 h2 h3 h4 h5 h6 => ?_, fun i u hi' => ?_⟩, ⟨p.len, p.keep, fun x h => p.mroots x (mrts x h), fun i v x h1 h2 h3 => ?_, fun x ⟨i, v, dd, h1, h2, h3⟩ => ?_⟩, ⟨fun i h => ?_, fun i v h1 h2 => ?_⟩, rts, mrts⟩
  · rcases at_ h with ⟨hi, h4⟩ | ⟨hi, h4, h5⟩
    · obtain ⟨t, rfl⟩ := ownOk_at ho i hi v h4
      obtain ⟨dd, e1, e2, e3⟩ := waits i hi _ h4
      exact ⟨dd, e1, e2, fun x hx => ⟨(e3 x hx).1.1, fun z => (e3 x hx).1.2 (rts x z)⟩⟩
    · obtain ⟨dd, e1, e2, e3⟩ := I'.slot i v h4
      exact ⟨dd, by rw [← h5]; exact e1, e2, slotP_mono e3 fun x _ z => rts x z⟩
  · rcases at_ h1 with ⟨hi, y1⟩ | ⟨hi, y1, y2⟩
    · obtain ⟨t, rfl⟩ := ownOk_at ho i hi v y1; cases h3
    · rcases at_ h2 with ⟨hj, z1⟩ | ⟨hj, z1, z2⟩
      · obtain ⟨t, rfl⟩ := ownOk_at ho j hj w z1; cases h4
      · exact I'.uniq i j v w x y1 z1 h3 h4 (by rw [y2]; exact h5) (by rw [z2]; exact h6)
  · rcases at_ hi' with ⟨hi, h4⟩ | ⟨hi, h4, h5⟩
    · exact I.mroot i u h4
    · rw [← h5]; exact I'.mroot i u h4
  · rcases at_ h1 with ⟨hi, y1⟩ | ⟨hi, y1, y2⟩
    · obtain ⟨t, rfl⟩ := ownOk_at ho i hi v y1; cases h2
    · exact p.iroots i v x y1 h2 (by rw [y2]; exact h3)
  · rcases at_ h1 with ⟨hi, y1⟩ | ⟨hi, y1, y2⟩
    · obtain ⟨d', e1, e2, e3⟩ := waits i hi v y1
      rw [h2] at e1
      cases e1
      exact p0.reach x ⟨i, v, dd, y1, h2, (e3 x h3).2⟩
    · exact p.reach x ⟨i, v, dd, y1, by rw [y2]; exact h2, h3⟩
  · rw [backV_lk eV eV' hlen]
    split
    · exact h
    · rename_i hi; exact so.1 i hi h
  · rw [backV_lk eV eV' hlen] at h1
    split at h1
    · exact ⟨v, h1, h2⟩
    · rename_i hi; exact so.2 i hi v h1 h2
end
end Ev

/-! All expressions: the theorem. -/
namespace Ev
open PySem
section
variable {a : Act} {st st0 st1 : Sto} {eD eD0 eD1 : En} {eV eV0 eV1 : VEn} {d e : D} {t : T}
/-- a part of an expression, seen from its beginning -/
theorem RR.sub {r : VR Opd} {q : Res D} (p : Stp st0 eD eV0 st eD eV) (sl : Sl eV0 eV) (h : RR a eD st eV (QO a eD st eV) r q) : RR a eD st0 eV0 (fun o d st' eV' => QO a eD st0 eV0 o d st' eV' ∧ Stp st eD eV st' eD eV' ∧ Sl eV eV') r q := by
  cases r with
  | ok z eV2 =>
    obtain ⟨w, st2, e, I2, p2, sl2, hq2⟩ := h
    exact ⟨w, st2, e, I2, p.trans p2, sl.trans sl2, hq2.base p, p2, sl2⟩
  | exc c fs eV2 =>
    obtain ⟨w, st2, e, I2, p2, hq2⟩ := h
    exact ⟨w, st2, e, I2, p.trans p2, hq2⟩
  | bad => trivial
theorem RR.subG {α β : Type} {Q : α → β → Sto → VEn → Prop} {r : VR α} {q : Res β} (p : Stp st0 eD eV0 st eD eV) (sl : Sl eV0 eV) (h : RR a eD st eV Q r q) : RR a eD st0 eV0 (fun o d st' eV' => Q o d st' eV' ∧ Stp st eD eV st' eD eV' ∧ Sl eV eV') r q := by
  cases r with
  | ok z eV2 =>
    obtain ⟨w, st2, e, I2, p2, sl2, hq2⟩ := h
    exact ⟨w, st2, e, I2, p.trans p2, sl.trans sl2, hq2, p2, sl2⟩
  | exc c fs eV2 =>
    obtain ⟨w, st2, e, I2, p2, hq2⟩ := h
    exact ⟨w, st2, e, I2, p.trans p2, hq2⟩
  | bad => trivial
theorem RR.two {γ δ : Type} {Q : γ → δ → Sto → VEn → Prop} {r1 : VR Opd} {q1 : Res D} {r2 : VEn → VR Opd} {q2 : Sto → Res D} {f : Opd → Opd → VEn → VR γ} {g : D → D → Sto → Res δ} (h1 : RR a eD st eV (QO a eD st eV) r1 q1)
    (h2 : ∀ st1 eV1, EI a st1 eD eV1 → RR a eD st1 eV1 (QO a eD st1 eV1) (r2 eV1) (q2 st1))
    (k : ∀ ox dx oy dy st2 eV2, EI a st2 eD eV2 → Stp st eD eV st2 eD eV2 → Sl eV eV2 → QO a eD st eV ox dx st2 eV2 → QO a eD st eV oy dy st2 eV2 → RR a eD st eV Q (f ox oy eV2) (g dx dy st2)) :
    RR a eD st eV Q (r1.bind fun x env => (r2 env).bind fun y env => f x y env) (q1.bind fun x st => (q2 st).bind fun y st => g x y st) := by
  refine RR.bind0 h1 fun ox dx st1 eV1 I1 p1 s1 hx => ?_
  refine RR.bind0 (RR.sub p1 s1 (h2 st1 eV1 I1)) fun oy dy st2 eV2 I2 p2 s2 hy => ?_
  exact k ox dx oy dy st2 eV2 I2 p2 s2 (hx.wait hy.2.1 hy.2.2) hy.1
theorem asBo_ok {o : Opd} {c : Bool} {eV1 : VEn} (I : EI a st eD eV) (h : OpI a st eD eV o d) (hb : asBo eV o = .ok c eV1) : d = .bl c ∧ eV1 = eV := by
  unfold asBo at hb
  split at hb
  · rename_i b hp
    cases hb
    have u := peek_ok I h hp
    cases u
    exact ⟨rfl, rfl⟩
  · cases hb
theorem asIn_ok {o : Opd} {c : Int} {eV1 : VEn} (I : EI a st eD eV) (h : OpI a st eD eV o d) (hb : asIn eV o = .ok c eV1) : d = .int c ∧ eV1 = eV := by
  unfold asIn at hb
  split at hb
  · rename_i b hp
    cases hb
    have u := peek_ok I h hp
    cases u
    exact ⟨rfl, rfl⟩
  · cases hb
theorem RR.asB {γ δ : Type} {Q : γ → δ → Sto → VEn → Prop} {o : Opd} {f : Bool → VEn → VR γ} {g : Bool → Sto → Res δ} (I : EI a st eD eV) (h : OpI a st eD eV o d) (k : ∀ b, d = .bl b → RR a eD st0 eV0 Q (f b eV) (g b st)) : RR a eD st0 eV0 Q ((asBo eV o).bind f) ((Ev.asB d st).bind g) := by
  cases hb : asBo eV o with
  | ok b eV1 =>
    obtain ⟨rfl, rfl⟩ := asBo_ok I h hb
    exact k b rfl
  | exc c fs e => unfold asBo at hb; split at hb <;> cases hb
  | bad => trivial
theorem RR.asI {γ δ : Type} {Q : γ → δ → Sto → VEn → Prop} {o : Opd} {f : Int → VEn → VR γ} {g : Int → Sto → Res δ} (I : EI a st eD eV) (h : OpI a st eD eV o d) (k : ∀ b, d = .int b → RR a eD st0 eV0 Q (f b eV) (g b st)) : RR a eD st0 eV0 Q ((asIn eV o).bind f) ((Ev.asI d st).bind g) := by
  cases hb : asIn eV o with
  | ok b eV1 =>
    obtain ⟨rfl, rfl⟩ := asIn_ok I h hb
    exact k b rfl
  | exc c fs e => unfold asIn at hb; split at hb <;> cases hb
  | bad => trivial
theorem RR.fin {r : VR Opd} {q : Res D} (p : Stp st0 eD eV0 st eD eV) (sl : Sl eV0 eV) (h : RR a eD st eV (QO a eD st0 eV0) r q) : RR a eD st0 eV0 (QO a eD st0 eV0) r q := RR.step p sl h
theorem RR.flat0 {st0 : Sto} {eV0 : VEn} (I : EI a st eD eV) (p : Stp st0 eD eV0 st eD eV) (sl : Sl eV0 eV) (u : Un st d t) (hf : ∀ x, ¬ Hit st d x) : RR a eD st0 eV0 (QO a eD st0 eV0) (.ok (.v t false) eV) (.ok d st) :=
  RR.fin p sl (RR.flatV I u hf fun _ _ _ _ z => z)
theorem kindM_un {m : Mt} {kd : Kd} (u : Un st d t) (h : kM m t = some kd) : kindM m st d = some kd := by
  unfold kM at h
  cases u <;> simp only [kT] at h <;> first | contradiction | (rename_i hl _; simp only [kindM, kindD, hl]; exact h)
theorem bl_flat {b : Bool} : ∀ x, ¬ Hit st (.bl b) x := fun x h => by cases h
end
theorem VR.bind_ok {α β : Type} (x : α) (env : VEn) (f : α → VEn → VR β) : (VR.ok x env).bind f = f x env := rfl
theorem VR.bind_bad {α β : Type} (f : α → VEn → VR β) : (VR.bad : VR α).bind f = .bad := rfl
theorem VR.calm_ok {α : Type} (x : α) (env : VEn) : (VR.ok x env).calm = .ok x env := rfl
theorem VR.bind_assoc {α β γ : Type} (r : VR α) (f : α → VEn → VR β) (g : β → VEn → VR γ) : (r.bind f).bind g = r.bind fun x env => (f x env).bind g := by cases r <;> rfl
section
variable {a : Act} {st st0 st1 : Sto} {eD eD0 eD1 : En} {eV eV0 eV1 : VEn} {d e : D} {t : T}
theorem rng_un {lo hi : Int} {xs : List T} (h : rangeT lo hi = some xs) : ∃ its, rangeD lo hi = some its ∧ QI a eD st0 eV0 ⟨xs, []⟩ its st eV := by
  unfold rangeT at h
  split at h
  · rename_i hc
    cases h
    refine ⟨⟨(List.range (hi - lo).toNat).map fun k => .int (lo + (k : Nat)), []⟩, by unfold rangeD; rw [if_pos hc], ⟨?_, fun e he x hx => ?_, fun p hp => (nomatch hp), fun i hi => (nomatch hi)⟩⟩
    · show Uns st _ _
      generalize List.range (hi - lo).toNat = l
      induction l with
      | nil => exact .nil
      | cons k l ih => exact .cons (.int _) ih
    · obtain ⟨k, _, rfl⟩ := List.mem_map.mp he
      cases hx
  · cases h
theorem zipU {f : D → D → D} {g : T → T → T} (hfg : ∀ d e t s, Un st d t → Un st e s → Un st (f d e) (g t s)) : ∀ {ds es : List D} {ts ss : List T}, Uns st ds ts → Uns st es ss → Uns st (ds.zipWith f es) (ts.zipWith g ss)
  | _, _, _, _, .nil, _ => by simp; exact .nil
  | _, _, _, _, .cons _ _, .nil => by simp; exact .nil
  | _, _, _, _, .cons u us, .cons v vs => .cons (hfg _ _ _ _ u v) (zipU hfg us vs)
theorem enum_qi {w : ItT} {its : Its} (h : QI a eD st0 eV0 w its st eV) : QI a eD st0 eV0 ⟨enumT w.xs, w.lks⟩ (enumD its) st eV := by
  refine ⟨?_, fun e he => ?_, h.gd, h.lks⟩
  · unfold enumD enumT
    simp only [h.xs.length]
    generalize List.range w.xs.length = l
    have := h.xs
    revert this
    generalize its.xs = ds
    generalize w.xs = ts
    intro us
    induction l generalizing ds ts with
    | nil => simp; exact .nil
    | cons k l ih =>
      cases us with
      | nil => simp; exact .nil
      | cons u us => exact .cons (.tup (.cons (.int _) (.cons u .nil))) (ih _ _ us)
  · unfold enumD at he
    simp only at he
    have : ∀ (l : List Nat) (ds : List D), e ∈ l.zipWith (fun k d => .tup [.int (k : Nat), d]) ds → ∃ k, ∃ d ∈ ds, e = .tup [.int (k : Nat), d] := by
      intro l
      induction l with
      | nil => intro ds h; simp at h
      | cons k l ih =>
        intro ds h
        cases ds with
        | nil => simp at h
        | cons d ds =>
          simp only [List.zipWith_cons_cons, List.mem_cons] at h
          rcases h with rfl | h
          · exact ⟨k, d, List.mem_cons_self, rfl⟩
          · obtain ⟨k', d', h1, h2⟩ := ih ds h
            exact ⟨k', d', List.mem_cons_of_mem _ h1, h2⟩
    obtain ⟨k, d, hd, rfl⟩ := this _ _ he
    intro x hx
    cases hx with
    | tup h1 h2 =>
      simp at h1
      rcases h1 with rfl | rfl
      · cases h2
      · exact h.src _ hd x h2
theorem zip_qi {eV1 : VEn} {w w' : ItT} {its its' : Its} (h : QI a eD st0 eV0 w its st eV) (h' : QI a eD st0 eV0 w' its' st eV1) (p : Stp st eD eV st eD eV1) (hl : ∀ i ∈ w.lks, ∃ t, lk eV1 i = some (.l t)) : QI a eD st0 eV0 ⟨zipT w.xs w'.xs, w.lks ++ w'.lks⟩ (zipD its its') st eV1 := by
  have hsrc : ∀ e ∈ its.xs, Src a st0 eD eV0 st eV1 e := fun e he x hx => by
    have := h.src e he x hx
    refine ⟨⟨this.1.1, fun z => ?_⟩, this.2⟩
    rcases p.roots x z with z | z
    · exact this.1.2 z
    · have := h.xs.inside e he x hx
      omega
  refine ⟨?_, fun e he => ?_, fun q hq => ?_, fun i hi => ?_⟩
  · exact zipU (fun d e t s u v => .tup (.cons u (.cons v .nil))) h.xs h'.xs
  · unfold zipD at he
    simp only at he
    have : ∀ (ds es : List D), e ∈ ds.zipWith (fun a b => .tup [a, b]) es → ∃ d ∈ ds, ∃ d' ∈ es, e = .tup [d, d'] := by
      intro ds
      induction ds with
      | nil => intro es h; simp at h
      | cons d ds ih =>
        intro es h
        cases es with
        | nil => simp at h
        | cons d' es =>
          simp only [List.zipWith_cons_cons, List.mem_cons] at h
          rcases h with rfl | h
          · exact ⟨d, List.mem_cons_self, d', List.mem_cons_self, rfl⟩
          · obtain ⟨x, h1, y, h2, h3⟩ := ih es h
            exact ⟨x, List.mem_cons_of_mem _ h1, y, List.mem_cons_of_mem _ h2, h3⟩
    obtain ⟨d, hd, d', hd', rfl⟩ := this _ _ he
    intro x hx
    cases hx with
    | tup h1 h2 =>
      simp at h1
      rcases h1 with rfl | rfl
      · exact hsrc _ hd x h2
      · exact h'.src _ hd' x h2
  · rcases List.mem_append.mp hq with hq | hq
    · obtain ⟨h1, h2⟩ := h.gd q hq
      refine ⟨h1, fun z => ?_⟩
      rcases p.mroots _ z with z | z
      · exact h2 z
      · have := (List.getElem?_eq_some_iff.mp h1).1
        omega
    · exact h'.gd q hq
  · rcases List.mem_append.mp hi with hi | hi
    · obtain ⟨t, h1, h2⟩ := h.lks i hi
      obtain ⟨t', h3⟩ := hl i hi
      exact ⟨t', h3, h2⟩
    · exact h'.lks i hi
end
variable {cl : VCl} {scl : Calls} {a : Act} (hs : ∀ f, FnSim (cl.ms f) (cl.go f) (scl f))
mutual
theorem okE (hs : ∀ f, FnSim (cl.ms f) (cl.go f) (scl f)) : ∀ (e : E) (st : Sto) (eD : En) (eV : VEn), EI a st eD eV → RR a eD st eV (QO a eD st eV) (vE cl e eV) (evalE scl e eD st)
  | .var i, st, eD, eV, I => by
    rw [vE, evalE, ldV]
    split
    · rename_i t hi
      obtain ⟨d, e1, e2, e3⟩ := I.slot i _ hi
      rw [e1]
      exact RR.ok I ⟨⟨e2, e3, fun z => nomatch z⟩, fun x hx => .inl ⟨i, _, d, hi, e1, hx⟩, fun z => nomatch z⟩
    · rename_i v hv hi
      obtain ⟨d, e1, e2, e3⟩ := I.slot i _ hi
      rw [e1]
      exact RR.ok I ⟨⟨e1, by rw [hi]; rfl⟩, trivial⟩
    · trivial
  | .cst c, st, eD, eV, I => by
    rw [vE, evalE]
    refine RR.of fun t ht => ?_
    cases c <;> simp [cstT] at ht
    · subst ht; exact RR.flatV I .non (fun x h => by cases h) fun _ _ _ _ z => z
    · subst ht; exact RR.flatV I (.bl _) (fun x h => by cases h) fun _ _ _ _ z => z
    · subst ht; exact RR.flatV I (.int _) (fun x h => by cases h) fun _ _ _ _ z => z
    · subst ht; exact RR.flatV I (.str _) (fun x h => by cases h) fun _ _ _ _ z => z
  | .tup es, st, eD, eV, I => by
    rw [vE, evalE]
    refine RR.bind0 (okTs hs es st eD eV I) fun ts ds st1 eV1 I1 p1 s1 hq => ?_
    rw [hq.uns.length]
    split
    · exact RR.tup I1 p1 s1 hq
    · trivial
  | .lst es, st, eD, eV, I => by
    rw [vE, evalE]
    refine RR.bind0 (okTs hs es st eD eV I) fun ts ds st1 eV1 I1 p1 s1 hq => ?_
    refine RR.of0 fun q hl => ?_
    exact RR.fin p1 s1 (RR.newOk I1 p1 hq.uns (fun e he x hx => (hq.src e he x hx).1) (fun e he x hx => (hq.src e he x hx).2) (fun _ _ _ _ z => z) hl)
  | .dct0, st, eD, eV, I => by
    rw [vE, evalE]
    have hl : (st ++ [O.dct []])[st.length]? = some (.dct []) := by simp
    have low : ∀ x, ¬ Low (st ++ [O.dct []]) st.length x := fun x ⟨o, d, h1, h2, h3⟩ => by
      rw [hl] at h1; cases h1; cases h2
    obtain ⟨q1, q2, q3⟩ := I.fresh (o := .dct []) (.dct hl .nil) fun x hx => absurd hx (low x)
    exact ⟨.ref st.length, st ++ [O.dct []], rfl, q1, q2, .refl, q3, fun x hx => by
      rcases hx.low with rfl | hx
      · exact .inr (Nat.le_refl _)
      · exact absurd hx (low x), fun _ => ⟨_, rfl, Nat.le_refl _⟩⟩
  | .dct1 k v, st, eD, eV, I => by
    rw [vE, evalE]
    refine RR.bind0 (okE hs k st eD eV I) fun ok dk st1 eV1 I1 p1 s1 hk => ?_
    refine RR.take0 I1 p1 s1 hk fun tk eV2 I2 p2 p12 s2 hqk => ?_
    refine RR.bind0 (RR.sub p2 s2 (okE hs v st1 eD eV2 I2)) fun ov dv st3 eV3 I3 p3 s3 hv => ?_
    have hqk3 := hqk.wait hv.2.1
    refine RR.take0 I3 p3 s3 hv.1 fun tv eV4 I4 p4 p34 s4 hqv => ?_
    have hqk4 := hqk3.wait p34
    have ek : isKeyT tk = isKey dk := isKey_un hqk4.1.un
    rw [ek]
    split
    · rename_i hkey
      have hl : (st3 ++ [O.dct [(dk, dv)]])[st3.length]? = some (.dct [(dk, dv)]) := by simp
      have gr := grown (o := .dct [(dk, dv)]) (st0 := st3) (st := st3) (ds := [dk, dv]) (.cons hqk4.1.un (.cons hqv.1.un .nil))
      obtain ⟨g1, g2⟩ := gr
      have uk : Unk (st3 ++ [O.dct [(dk, dv)]]) [(dk, dv)] [(tk, tv)] := by
        cases g1 with
        | cons u1 us => cases us with | cons u2 us => exact .cons u1 hkey u2 .nil
      have low : ∀ x, Low (st3 ++ [O.dct [(dk, dv)]]) st3.length x → Hit st3 dv x := fun x ⟨o, d, h1, h2, h3⟩ => by
        rw [hl] at h1
        cases h1
        simp [objVals] at h2
        subst h2
        exact g2 _ (by simp) x h3
      obtain ⟨q1, q2, q3⟩ := I4.fresh (o := .dct [(dk, dv)]) (.dct hl uk) fun x hx => hqv.1.pr x (low x hx)
      exact ⟨.ref st3.length, st3 ++ [O.dct [(dk, dv)]], rfl, q1, p4.trans q2, s4, q3, fun x hx => by
        rcases hx.low with rfl | hx
        · exact .inr p4.len
        · exact hqv.2 x (low x hx), fun _ => ⟨_, rfl, p4.len⟩⟩
    · trivial
  | .bin op x y, st, eD, eV, I => by
    rw [vE, evalE]
    refine RR.two (okE hs x st eD eV I) (fun st1 eV1 I1 => okE hs y st1 eD eV1 I1) fun ox dx oy dy st2 eV2 I2 p2 s2 hx hy => ?_
    refine RR.of0 fun tx htx => RR.of0 fun ty hty => RR.of0 fun q hq => ?_
    exact RR.fin p2 s2 (bin_rr I2 p2 hx hy (peek_ok I2 hx.1 htx) (peek_ok I2 hy.1 hty) hq)
  | .neg x, st, eD, eV, I => by
    rw [vE, evalE]
    refine RR.bind0 (okE hs x st eD eV I) fun o d st1 eV1 I1 p1 s1 h1 => ?_
    exact RR.asI I1 h1.1 fun i _ => RR.flat0 I1 p1 s1 (.int _) int_flat
  | .not x, st, eD, eV, I => by
    rw [vE, evalE]
    refine RR.bind0 (okE hs x st eD eV I) fun o d st1 eV1 I1 p1 s1 h1 => ?_
    exact RR.asB I1 h1.1 fun i _ => RR.flat0 I1 p1 s1 (.bl _) bl_flat
  | .cmp op x y, st, eD, eV, I => by
    rw [vE, evalE]
    refine RR.two (okE hs x st eD eV I) (fun st1 eV1 I1 => okE hs y st1 eD eV1 I1) fun ox dx oy dy st2 eV2 I2 p2 s2 hx hy => ?_
    refine RR.of0 fun tx htx => RR.of0 fun ty hty => RR.of0 fun b hb => ?_
    rw [cmp_un (peek_ok I2 hx.1 htx) (peek_ok I2 hy.1 hty) hb]
    exact RR.flat0 I2 p2 s2 (.bl _) bl_flat
  | .chn op op' x y z, st, eD, eV, I => by
    rw [vE, evalE]
    refine RR.two (okE hs x st eD eV I) (fun st1 eV1 I1 => okE hs y st1 eD eV1 I1) fun ox dx oy dy st2 eV2 I2 p2 s2 hx hy => ?_
    refine RR.of0 fun tx htx => RR.of0 fun ty hty => RR.of0 fun b hb => ?_
    rw [cmp_un (peek_ok I2 hx.1 htx) (peek_ok I2 hy.1 hty) hb]
    show RR a eD st eV _ _ (if b = true then _ else _)
    cases b with
    | false => exact RR.flat0 I2 p2 s2 (.bl _) bl_flat
    | true =>
      simp only [if_true]
      refine RR.bind0 (RR.sub p2 s2 (okE hs z st2 eD eV2 I2)) fun oz dz st3 eV3 I3 p3 s3 hz => ?_
      have hy3 := hy.wait hz.2.1 hz.2.2
      refine RR.of0 fun ty' hty' => RR.of0 fun tz htz => RR.of0 fun b' hb' => ?_
      rw [cmp_un (peek_ok I3 hy3.1 hty') (peek_ok I3 hz.1.1 htz) hb']
      exact RR.flat0 I3 p3 s3 (.bl _) bl_flat
  | .bop op es, st, eD, eV, I => by
    rw [vE, evalE]
    exact okB hs op es st eD eV I
  | .ite c x y, st, eD, eV, I => by
    rw [vE, evalE]
    refine RR.bind0 (okE hs c st eD eV I) fun o d st1 eV1 I1 p1 s1 h1 => ?_
    refine RR.asB I1 h1.1 fun b _ => ?_
    cases b with
    | true => exact (RR.sub p1 s1 (okE hs x st1 eD eV1 I1)).mono fun _ _ _ _ _ _ z => z.1
    | false => exact (RR.sub p1 s1 (okE hs y st1 eD eV1 I1)).mono fun _ _ _ _ _ _ z => z.1
  | .fn f es, st, eD, eV, I => by
    rw [vE, evalE]
    refine RR.bind0 (okA hs (cl.ms f) es st eD eV I) fun gs ds st1 eV1 I1 p1 s1 h1 => ?_
    exact call_rr I1 p1 s1 (hs f) h1
  | .bi f es, st, eD, eV, I => by
    rw [evalE]
    have two : ∀ (f : Bi), (f = .min2 ∨ f = .max2) → RR a eD st eV (QO a eD st eV) ((vTs cl es eV).bind fun ts env => (VR.of (biT f ts) env).bind fun q env => .ok (.v q.1 q.2) env) ((evalEs scl es eD st).bind fun ds st => bi f ds st) := by
      intro f hf
      refine RR.bind0 (okTs hs es st eD eV I) fun ts ds st1 eV1 I1 p1 s1 hq => ?_
      refine RR.of0 fun q hb => ?_
      have key : ∀ {x y : T} {dx dy : D} (b : Bool), QT a eD st eV x dx st1 eV1 → QT a eD st eV y dy st1 eV1 → RR a eD st eV (QO a eD st eV) (.ok (.v (if b = true then y else x) false) eV1) (.ok (if b = true then dy else dx) st1) := by
        intro x y dx dy b hx hy
        refine ⟨_, _, rfl, I1, p1, s1, ?_⟩
        cases b with
        | true => exact ⟨hy.1, hy.2, fun z => nomatch z⟩
        | false => exact ⟨hx.1, hx.2, fun z => nomatch z⟩
      rcases hf with rfl | rfl
      · unfold biT at hb
        split at hb <;> first | contradiction | skip
        rename_i _ x y _
        cases hq with
        | cons qx qs =>
          cases qs with
          | cons qy qs =>
            cases qs
            obtain ⟨b, hb1, rfl⟩ := Option.map_eq_some_iff.mp hb
            have e : ∀ dx dy, Un st1 dx x → Un st1 dy y → bi .min2 [dx, dy] st1 = .ok (if b = true then dy else dx) st1 := fun dx dy ux uy => by simp [bi, lt_un uy ux hb1]
            rw [e _ _ qx.1.un qy.1.un]
            exact key b qx qy
      · unfold biT at hb
        split at hb <;> first | contradiction | skip
        rename_i _ x y _
        cases hq with
        | cons qx qs =>
          cases qs with
          | cons qy qs =>
            cases qs
            obtain ⟨b, hb1, rfl⟩ := Option.map_eq_some_iff.mp hb
            have e : ∀ dx dy, Un st1 dx x → Un st1 dy y → bi .max2 [dx, dy] st1 = .ok (if b = true then dy else dx) st1 := fun dx dy ux uy => by simp [bi, lt_un ux uy hb1]
            rw [e _ _ qx.1.un qy.1.un]
            exact key b qx qy
    have one : ∀ (f : Bi), f ≠ .min2 ∧ f ≠ .max2 → RR a eD st eV (QO a eD st eV) ((vPs cl es eV).bind fun os env => (VR.of (os.mapM (peek env)) env).bind fun ts env => (VR.of (biT f ts) env).bind fun q env => .ok (.v q.1 q.2) env) ((evalEs scl es eD st).bind fun ds st => bi f ds st) := by
      intro f hf
      refine RR.bind0 (okPs hs es st eD eV I) fun os ds st1 eV1 I1 p1 s1 hq => ?_
      refine RR.of0 fun ts hts => RR.of0 fun q hb => ?_
      exact RR.fin p1 s1 (bi_rr I1 p1 hf hq (hq.uns I1 hts) hb)
    cases f <;> rw [vE] <;> first | exact two _ (.inl rfl) | exact two _ (.inr rfl) | (intro h; cases h; done) | (refine one _ ⟨?_, ?_⟩ <;> decide)
  | .mt m o es, st, eD, eV, I => by
    rw [vE, evalE]
    split
    · rename_i hm
      cases o with
      | var i =>
        simp only [isVar]
        refine RR.of0 fun x0 hx0 => RR.of0 fun w0 hw0 => ?_
        obtain ⟨hr, _, _⟩ := mut_some hw0
        obtain ⟨d, e1, e2, e3⟩ := I.slot i x0 hx0
        have hd : ∃ l, d = .ref l := by
          cases x0 with
          | s t => obtain ⟨l, e, _⟩ := e3; exact ⟨l, e⟩
          | m t => obtain ⟨l, e, _⟩ := e3; exact ⟨l, e⟩
          | l t => cases hw0
          | r t => cases hw0
          | b t => cases hw0
        obtain ⟨l, rfl⟩ := hd
        rw [evalE, e1]
        show RR a eD st eV _ _ ((Res.of (kindM m st (.ref l)) st).bind fun k st => (evalEs scl es eD st).bind fun ds st => mt k m (.ref l) ds st)
        refine RR.of0 fun kd hkd => ?_
        rw [kindM_un e2 hkd, Res.of_some, Res.bind_ok]
        refine RR.bind0 (okTs hs es st eD eV I) fun ts ds st1 eV1 I1 p1 s1 hq => ?_
        refine RR.of0 fun x hx => ?_
        split
        · rename_i hk
          refine RR.of0 fun q hmt => RR.of0 fun y hy => ?_
          obtain ⟨kd', ⟨k1, k2⟩, k3⟩ := mt_rr I1 p1 s1 hm hx e1 hq.uns hq.src hmt hy
          obtain ⟨dd, f1, f2, f3⟩ := I1.slot i x hx
          rw [e1] at f1
          cases f1
          have k4 := kindM_un f2 hk
          have : kd' = kd := by
            unfold kindM at k4
            rw [k1] at k4
            simp only [k2, if_true, Option.some.injEq] at k4
            exact k4
          subst this
          exact k3
        · trivial
      | _ => trivial
    · rename_i hm
      refine RR.bind0 (okE hs o st eD eV I) fun ox dx st1 eV1 I1 p1 s1 hx => ?_
      refine RR.of0 fun t0 ht0 => RR.of0 fun kd hkd => ?_
      rw [kindM_un (peek_ok I1 hx.1 ht0) hkd, Res.of_some, Res.bind_ok]
      refine RR.bind0 (RR.subG p1 s1 (okTs hs es st1 eD eV1 I1)) fun ts ds st2 eV2 I2 p2 s2 hq => ?_
      have hx2 := hx.wait hq.2.1 hq.2.2
      have hq2 := hq.1.base p1
      refine RR.of0 fun tt htt => ?_
      split
      · rename_i hkm
        refine RR.of0 fun q hmt => ?_
        have ux := peek_ok I2 hx2.1 htt
        unfold mtT at hmt
        split at hmt <;> first | contradiction | (simp [mtMut] at hm; done) | skip
        · rename_i _ _ kvs k _
          obtain ⟨l, ks, rfl, h1, h2, us⟩ := dct_un ux rfl
          cases hq2 with
          | cons qk qs =>
            cases qs
            split at hmt
            · rename_i hk
              cases hmt
              have hk' := (isKey_un qk.1.un).symm.trans hk
              have ekd : kd = .d := by
                simp [kM, kT, mtOk] at hkm
                exact hkm.symm
              subst ekd
              rcases get_un us qk.1.un hk' with ⟨z, zz⟩ | ⟨v, tv, z1, z2, z3, kv, z4, z5⟩
              · have e : ∀ k', isKey k' = true → dGet ks k' = none → mt .d .get1 (.ref l) [k'] st2 = .ok .non st2 := fun k' h' z => by simp [mt, h1, mtD, h', z]
                rw [e _ hk' zz, z]
                exact RR.flat0 I2 p2 s2 .non (fun x h => by cases h)
              · have e : ∀ k', isKey k' = true → dGet ks k' = some v → mt .d .get1 (.ref l) [k'] st2 = .ok v st2 := fun k' h' z => by simp [mt, h1, mtD, h', z]
                rw [e _ hk' z2, z1]
                subst z5
                exact RR.fin p2 s2 (RR.part I2 p2 hx2 (.dct h1 z4) z3)
            · cases hmt
        · rename_i _ _ kvs k y _
          obtain ⟨l, ks, rfl, h1, h2, us⟩ := dct_un ux rfl
          cases hq2 with
          | cons qk qs =>
            cases qs with
            | cons qy qs =>
              cases qs
              split at hmt
              · rename_i hk
                cases hmt
                have hk' := (isKey_un qk.1.un).symm.trans hk
                have ekd : kd = .d := by
                  simp [kM, kT, mtOk] at hkm
                  exact hkm.symm
                subst ekd
                rcases get_un us qk.1.un hk' with ⟨z, zz⟩ | ⟨v, tv, z1, z2, z3, kv, z4, z5⟩
                · have e : ∀ k' y', isKey k' = true → dGet ks k' = none → mt .d .get2 (.ref l) [k', y'] st2 = .ok y' st2 := fun k' y' h' z => by simp [mt, h1, mtD, h', z]
                  rw [e _ _ hk' zz, z]
                  exact ⟨_, _, rfl, I2, p2, s2, qy.1, qy.2, fun z => nomatch z⟩
                · have e : ∀ k' y', isKey k' = true → dGet ks k' = some v → mt .d .get2 (.ref l) [k', y'] st2 = .ok v st2 := fun k' y' h' z => by simp [mt, h1, mtD, h', z]
                  rw [e _ _ hk' z2, z1]
                  subst z5
                  exact RR.fin p2 s2 (RR.part I2 p2 hx2 (.dct h1 z4) z3)
              · cases hmt
      · trivial
  | .ix x y, st, eD, eV, I => by
    rw [vE, evalE]
    refine RR.two (okE hs x st eD eV I) (fun st1 eV1 I1 => okE hs y st1 eD eV1 I1) fun ox dx oy dy st2 eV2 I2 p2 s2 hx hy => ?_
    refine RR.of0 fun tx htx => RR.of0 fun ty hty => RR.of0 fun r hr => ?_
    exact RR.fin p2 s2 (ix_rr (oy := oy) I2 p2 hx (peek_ok I2 hx.1 htx) (peek_ok I2 hy.1 hty) hr)
  | .sl x lo hi, st, eD, eV, I => by
    rw [vE, evalE]
    refine RR.bind0 (okE hs x st eD eV I) fun ox dx st1 eV1 I1 p1 s1 hx => ?_
    refine RR.bind0 (RR.subG p1 s1 (okO hs lo st1 eD eV1 I1)) fun l l' st2 eV2 I2 p2 s2 hl => ?_
    obtain ⟨rfl, q2, t2⟩ := hl
    refine RR.bind0 (RR.subG p2 s2 (okO hs hi st2 eD eV2 I2)) fun h h' st3 eV3 I3 p3 s3 hh => ?_
    obtain ⟨rfl, q3, t3⟩ := hh
    have hx3 := (hx.wait q2 t2).wait q3 t3
    refine RR.of0 fun tx htx => RR.of0 fun r hr => ?_
    exact RR.fin p3 s3 (sl_rr I3 p3 hx3 (peek_ok I3 hx3.1 htx) hr)
  | .isi x ty, st, eD, eV, I => by
    rw [vE, evalE]
    refine RR.bind0 (okE hs x st eD eV I) fun o d st1 eV1 I1 p1 s1 h1 => ?_
    refine RR.of0 fun tx htx => RR.of0 fun b hb => ?_
    rw [isi_un (peek_ok I1 h1.1 htx) hb]
    exact RR.flat0 I1 p1 s1 (.bl _) bl_flat
  | .lc own tg it ifs elt, st, eD, eV, I => by
    rw [vE, evalE]
    have hI := okI hs it st eD eV I
    cases hw : vI cl it eV with
    | bad => trivial
    | exc c fs eV1 =>
      rw [hw] at hI
      obtain ⟨fsD, st1, e1, I1, p1, hf⟩ := hI
      rw [e1]
      exact ⟨fsD, st1, rfl, I1, p1, hf⟩
    | ok w eV1 =>
      rw [hw] at hI
      obtain ⟨its, st1, e1, I1, p1, s1, qi⟩ := hI
      rw [e1, VR.bind_ok]
      split
      · trivial
      · rename_i hc
        simp only [Bool.not_eq_true', Bool.not_eq_false, Bool.and_eq_true] at hc
        obtain ⟨hown, htg⟩ := hc
        have htg' : ∀ i ∈ tgSlots tg, i ∈ own := fun i hi => by
          have := List.all_eq_true.mp htg i hi
          simpa using this
        obtain ⟨Iw, pw⟩ := I1.wipe p1 own
        have wiped : ∀ x, Rt (Ev.wipe eD own) (wipeV eV1 own) x → Rt eD eV1 x := fun x ⟨i, v, h1, h2, h3⟩ => by
          rw [wipeV_lk] at h1
          split at h1
          · cases h1
          · rename_i hi
            rw [own_val hi] at h3
            exact ⟨i, v, h1, h2, h3⟩
        have wipedM : ∀ x, Rm (Ev.wipe eD own) (wipeV eV1 own) x → Rm eD eV1 x := fun x ⟨i, v, h1, h2, h3⟩ => by
          rw [wipeV_lk] at h1
          split at h1
          · cases h1
          · rename_i hi
            rw [own_val hi] at h3
            exact ⟨i, v, h1, h2, h3⟩
        have hl := loopC_ok (a := a) (eD := eD) (stB := st) (eDB := eD) (eVB := eV) (gd := its.gd) (tt := fun env st => evalTs scl ifs env st) (te := fun env st => evalE scl elt env st) (vt := fun env => vTest cl ifs env) (ve := fun env => (vE cl elt env).bind fun o env => take env o) htg'
          (fun st eD eV I => okTest hs ifs st eD eV I)
          (fun st eD eV I => by
            have h := okE hs elt st eD eV I
            cases hr : vE cl elt eV with
            | bad => trivial
            | exc c fs eV1 =>
              rw [hr] at h
              exact h
            | ok o eV1 =>
              rw [hr] at h
              obtain ⟨d, st1, f1, f2, f3, f4, f5⟩ := h
              rw [f1]
              show RR a eD st eV _ (take eV1 o) _
              have h2 := RR.take0 (Q := fun t d st' eV' => QT a eD st eV t d st' eV') (f := fun t env => .ok t env) (q := .ok d st1) f2 f3 f4 f5 fun t eV2 I2 p2 _ s2 hq => ⟨d, st1, rfl, I2, p2, s2, hq⟩
              have e0 : (take eV1 o).bind (fun t env => .ok t env) = take eV1 o := by cases take eV1 o <;> rfl
              rw [e0] at h2
              exact h2)
          w.xs its.xs st1 eV1 Iw pw qi.xs (fun e he x hx => ⟨⟨(qi.src e he x hx).1.1, fun z => (qi.src e he x hx).1.2 (wiped x z)⟩, (qi.src e he x hx).2⟩) (fun q hq => ⟨(qi.gd q hq).1, fun z => (qi.gd q hq).2 (wipedM _ z)⟩)
        cases hr : loopVC own tg (fun env => vTest cl ifs env) (fun env => (vE cl elt env).bind fun o env => take env o) w.xs eV1 with
        | bad => rw [show (VR.bad : VR (List T)).calm = .bad from rfl, VR.bind_bad]; trivial
        | exc c fs eV2 => rw [show (VR.exc c fs eV2 : VR (List T)).calm = .bad from rfl, VR.bind_bad]; trivial
        | ok ys eV2 =>
          rw [hr] at hl
          obtain ⟨es, st2, f1, f2, f3, f4, f5, f6, f7⟩ := hl
          have f1' : loopC (fun st => bindT st tg) (fun env st => evalTs scl ifs env st) (fun env st => evalE scl elt env st) its.gd (Ev.wipe eD own) its.xs st1 = .ok es st2 := f1
          rw [VR.calm_ok, VR.bind_ok]
          simp only [f1']
          obtain ⟨I3, p3, s3, r3, m3⟩ := back_ok I1 hown f2 f3 f4 p1 f7
          obtain ⟨I4, p4, s4, k4, k5, k6⟩ := unlock_ok w.lks I3 p3 (fun i hi x hx ht => by
            obtain ⟨t, _, v0, h1, h2⟩ := qi.lks i hi
            exact .inl ⟨i, v0, h1, h2, hx⟩)
          have sl4 : Sl eV (unlock (backV eV1 eV2 own) w.lks) := ⟨fun i h => s4 i (s3.is i (s1.is i h)), fun i v h1 h2 => by
            by_cases hi : i ∈ w.lks
            · obtain ⟨t, _, v0, z1, z2⟩ := qi.lks i hi
              exact ⟨v0, z1, z2⟩
            · rw [k4 i hi] at h1
              obtain ⟨v1, z1, z2⟩ := s3.own i v h1 h2
              exact s1.own i v1 z1 z2⟩
          refine RR.of0 fun q hq => ?_
          exact RR.fin p4 sl4 (RR.newOk I4 p4 f5 (fun e he x hx => ⟨(f6 e he x hx).1.1, fun z => (f6 e he x hx).1.2 (r3 x (k6 x z))⟩) (fun e he x hx => (f6 e he x hx).2) (fun _ _ _ _ z => z) hq)
theorem okTs (hs : ∀ f, FnSim (cl.ms f) (cl.go f) (scl f)) : ∀ (es : List E) (st : Sto) (eD : En) (eV : VEn), EI a st eD eV → RR a eD st eV (fun ts ds st' eV' => QTs a eD st eV st' eV' ts ds) (vTs cl es eV) (evalEs scl es eD st)
  | [], st, eD, eV, I => by
    rw [vTs, evalEs]
    exact RR.ok I .nil
  | e :: es, st, eD, eV, I => by
    rw [vTs, evalEs]
    refine RR.bind0 (okE hs e st eD eV I) fun o d st1 eV1 I1 p1 s1 h1 => ?_
    refine RR.take0 I1 p1 s1 h1 fun t eV2 I2 p2 p12 s2 hq => ?_
    refine RR.bind0 (RR.subG p2 s2 (okTs hs es st1 eD eV2 I2)) fun ts ds st3 eV3 I3 p3 s3 h3 => ?_
    exact ⟨_, _, rfl, I3, p3, s3, .cons (hq.wait h3.2.1) (h3.1.base p2)⟩
theorem okPs (hs : ∀ f, FnSim (cl.ms f) (cl.go f) (scl f)) : ∀ (es : List E) (st : Sto) (eD : En) (eV : VEn), EI a st eD eV → RR a eD st eV (fun os ds st' eV' => QOs a eD st eV st' eV' os ds) (vPs cl es eV) (evalEs scl es eD st)
  | [], st, eD, eV, I => by
    rw [vPs, evalEs]
    exact RR.ok I .nil
  | e :: es, st, eD, eV, I => by
    rw [vPs, evalEs]
    refine RR.bind0 (okE hs e st eD eV I) fun o d st1 eV1 I1 p1 s1 h1 => ?_
    refine RR.bind0 (RR.subG p1 s1 (okPs hs es st1 eD eV1 I1)) fun os ds st3 eV3 I3 p3 s3 h3 => ?_
    exact ⟨_, _, rfl, I3, p3, s3, .cons (h1.wait h3.2.1 h3.2.2) (h3.1.base p1)⟩
theorem okA (hs : ∀ f, FnSim (cl.ms f) (cl.go f) (scl f)) : ∀ (ms : List Mode) (es : List E) (st : Sto) (eD : En) (eV : VEn), EI a st eD eV → RR a eD st eV (fun gs ds st' eV' => AIs a eD st eV st' eV' gs ds) (vA cl ms es eV) (evalEs scl es eD st)
  | [], [], st, eD, eV, I => by
    rw [vA, evalEs]
    exact RR.ok I .nil
  | m :: ms, [], st, eD, eV, I => by
    simp only [vA]
    trivial
  | [], e :: es, st, eD, eV, I => by
    simp only [vA]
    trivial
  | m :: ms, e :: es, st, eD, eV, I => by
    rw [vA, evalEs]
    refine RR.bind0 (okE hs e st eD eV I) fun o d st1 eV1 I1 p1 s1 h1 => ?_
    have rest : ∀ (g : Arg) (eV2 : VEn), EI a st1 eD eV2 → Stp st eD eV st1 eD eV2 → Sl eV eV2 → AI a eD st eV st1 eV2 g d → RR a eD st eV (fun gs ds st' eV' => AIs a eD st eV st' eV' gs ds) ((vA cl ms es eV2).bind fun as env => .ok (g :: as) env) ((evalEs scl es eD st1).bind fun xs st => .ok (d :: xs) st) := by
      intro g eV2 I2 p2 s2 hg
      refine RR.bind0 (RR.subG p2 s2 (okA hs ms es st1 eD eV2 I2)) fun gs ds st3 eV3 I3 p3 s3 h3 => ?_
      exact ⟨_, _, rfl, I3, p3, s3, AIs.cons' hg I2 p2 h3.2.1 h3.2.2 h3.1⟩
    cases m with
    | sh =>
      simp only [argV, VR.bind_assoc]
      exact RR.take0 I1 p1 s1 h1 fun t eV2 I2 p2 _ s2 hq => rest (.v t) eV2 I2 p2 s2 hq
    | rd =>
      cases o with
      | v t fr => exact rest (.v t) eV1 I1 p1 s1 ⟨⟨h1.1.un, h1.1.pr, fun z => nomatch z⟩, h1.2.1⟩
      | p i => exact rest (.p i) eV1 I1 p1 s1 h1.1
    | io =>
      cases o with
      | v t fr =>
        simp only [argV]
        cases fr with
        | true => exact rest (.n t) eV1 I1 p1 s1 ⟨h1.1, h1.2.1, h1.2.2 rfl⟩
        | false => trivial
      | p i =>
        simp only [argV]
        split
        · exact rest (.p i) eV1 I1 p1 s1 h1.1
        · exact rest (.p i) eV1 I1 p1 s1 h1.1
        · trivial
theorem okO (hs : ∀ f, FnSim (cl.ms f) (cl.go f) (scl f)) : ∀ (o : Option E) (st : Sto) (eD : En) (eV : VEn), EI a st eD eV → RR a eD st eV (fun x y _ _ => x = y) (vO cl o eV) (evalO scl o eD st)
  | none, st, eD, eV, I => by
    rw [vO, evalO]
    exact RR.ok I rfl
  | some e, st, eD, eV, I => by
    rw [vO, evalO]
    refine RR.bind0 (okE hs e st eD eV I) fun o d st1 eV1 I1 p1 s1 h1 => ?_
    exact RR.asI I1 h1.1 fun i _ => ⟨_, _, rfl, I1, p1, s1, rfl⟩
theorem okB (hs : ∀ f, FnSim (cl.ms f) (cl.go f) (scl f)) : ∀ (op : BoolOp) (es : List E) (st : Sto) (eD : En) (eV : VEn), EI a st eD eV → RR a eD st eV (QO a eD st eV) (vB cl op es eV) (evalB scl op es eD st)
  | op, [], st, eD, eV, I => by
    rw [vB]
    trivial
  | op, [e], st, eD, eV, I => by
    rw [vB, evalB]
    refine RR.bind0 (okE hs e st eD eV I) fun o d st1 eV1 I1 p1 s1 h1 => ?_
    exact RR.asB I1 h1.1 fun b _ => RR.flat0 I1 p1 s1 (.bl _) bl_flat
  | .And, e :: e2 :: es, st, eD, eV, I => by
    rw [vB, evalB]
    refine RR.bind0 (okE hs e st eD eV I) fun o d st1 eV1 I1 p1 s1 h1 => ?_
    refine RR.asB I1 h1.1 fun b _ => ?_
    cases b with
    | true => exact (RR.sub p1 s1 (okB hs .And (e2 :: es) st1 eD eV1 I1)).mono fun _ _ _ _ _ _ z => z.1
    | false => exact RR.flat0 I1 p1 s1 (.bl _) bl_flat
  | .Or, e :: e2 :: es, st, eD, eV, I => by
    rw [vB, evalB]
    refine RR.bind0 (okE hs e st eD eV I) fun o d st1 eV1 I1 p1 s1 h1 => ?_
    refine RR.asB I1 h1.1 fun b _ => ?_
    cases b with
    | false => exact (RR.sub p1 s1 (okB hs .Or (e2 :: es) st1 eD eV1 I1)).mono fun _ _ _ _ _ _ z => z.1
    | true => exact RR.flat0 I1 p1 s1 (.bl _) bl_flat
theorem okTest (hs : ∀ f, FnSim (cl.ms f) (cl.go f) (scl f)) : ∀ (es : List E) (st : Sto) (eD : En) (eV : VEn), EI a st eD eV → RR a eD st eV (fun x y _ _ => x = y) (vTest cl es eV) (evalTs scl es eD st)
  | [], st, eD, eV, I => by
    rw [vTest, evalTs]
    exact RR.ok I rfl
  | [e], st, eD, eV, I => by
    rw [vTest, evalTs]
    refine RR.bind0 (okE hs e st eD eV I) fun o d st1 eV1 I1 p1 s1 h1 => ?_
    have h := RR.asB (Q := fun x y _ _ => x = y) (f := fun b env => .ok b env) (g := fun b st => .ok b st) (st0 := st) (eV0 := eV) I1 h1.1 fun b _ => ⟨b, _, rfl, I1, p1, s1, rfl⟩
    have e1 : (asBo eV1 o).bind (fun b env => .ok b env) = asBo eV1 o := by cases asBo eV1 o <;> rfl
    have e2 : (Ev.asB d st1).bind (fun b st => .ok b st) = Ev.asB d st1 := by cases Ev.asB d st1 <;> rfl
    rw [e1, e2] at h
    exact h
  | _ :: _ :: _, st, eD, eV, I => by
    simp only [vTest]
    trivial
theorem okI (hs : ∀ f, FnSim (cl.ms f) (cl.go f) (scl f)) : ∀ (it : I) (st : Sto) (eD : En) (eV : VEn), EI a st eD eV → RR a eD st eV (fun w its st' eV' => QI a eD st eV w its st' eV') (vI cl it eV) (evalI scl it eD st)
  | .seq e, st, eD, eV, I => by
    rw [vI, evalI]
    refine RR.bind0 (okE hs e st eD eV I) fun o d st1 eV1 I1 p1 s1 h1 => ?_
    exact (lock_ok I1 p1 s1 h1 (g := fun d => walkD st1 d) fun t ts u h => walk_un u h).mono fun _ _ _ _ _ _ z => z.1
  | .rng1 e, st, eD, eV, I => by
    rw [vI, evalI]
    refine RR.bind0 (okE hs e st eD eV I) fun o d st1 eV1 I1 p1 s1 h1 => ?_
    refine RR.asI I1 h1.1 fun i _ => RR.of0 fun xs hx => ?_
    obtain ⟨its, g1, g2⟩ := rng_un (a := a) (st0 := st) (eV0 := eV) (st := st1) (eD := eD) (eV := eV1) hx
    rw [g1]
    exact ⟨its, st1, rfl, I1, p1, s1, g2⟩
  | .rng2 e f, st, eD, eV, I => by
    rw [vI, evalI]
    refine RR.two (okE hs e st eD eV I) (fun st1 eV1 I1 => okE hs f st1 eD eV1 I1) fun ox dx oy dy st2 eV2 I2 p2 s2 hx hy => ?_
    refine RR.asI I2 hx.1 fun i _ => RR.asI I2 hy.1 fun j _ => RR.of0 fun xs hx => ?_
    obtain ⟨its, g1, g2⟩ := rng_un (a := a) (st0 := st) (eV0 := eV) (st := st2) (eD := eD) (eV := eV2) hx
    rw [g1]
    exact ⟨its, st2, rfl, I2, p2, s2, g2⟩
  | .enm e, st, eD, eV, I => by
    rw [vI, evalI]
    refine RR.bind0 (okE hs e st eD eV I) fun o d st1 eV1 I1 p1 s1 h1 => ?_
    refine RR.bind0 (lock_ok I1 p1 s1 h1 (g := fun d => walkL st1 d) fun t ts u h => walkL_un u h) fun w its st2 eV2 I2 p2 s2 hq => ?_
    exact ⟨_, _, rfl, I2, p2, s2, enum_qi hq.1⟩
  | .zip e f, st, eD, eV, I => by
    rw [vI, evalI]
    refine RR.two (okE hs e st eD eV I) (fun st1 eV1 I1 => okE hs f st1 eD eV1 I1) fun ox dx oy dy st2 eV2 I2 p2 s2 hx hy => ?_
    refine RR.bind0 (lock_ok I2 p2 s2 hx (g := fun d => walkL st2 d) fun t ts u h => walkL_un u h) fun w its st3 eV3 I3 p3 s3 hq => ?_
    obtain ⟨hq, rfl, hp, hsl, _⟩ := hq
    have hy3 := hy.wait hp hsl
    refine RR.bind0 (lock_ok I3 p3 s3 hy3 (g := fun d => walkL st3 d) fun t ts u h => walkL_un u h) fun w' its' st4 eV4 I4 p4 s4 hq' => ?_
    obtain ⟨hq', rfl, hp', hsl', hll⟩ := hq'
    exact ⟨_, _, rfl, I4, p4, s4, zip_qi hq hq' hp' fun i hi => by
      obtain ⟨t, h1, _⟩ := hq.lks i hi
      exact ⟨t, hll i t h1⟩⟩
  | .itm e, st, eD, eV, I => by
    rw [vI]
    trivial
end
end Ev

/-! All statements. -/
namespace Ev
open PySem
def RF (a : Act) (st : Sto) (eD : En) (eV : VEn) (r : VFl) (q : Fl) : Prop := match r with
  | .nx eV' => ∃ eD' st', q = .nx eD' st' ∧ EI a st' eD' eV' ∧ Stp st eD eV st' eD' eV'
  | .ct eV' => ∃ eD' st', q = .ct eD' st' ∧ EI a st' eD' eV' ∧ Stp st eD eV st' eD' eV'
  | .rt t fr eV' => ∃ d st' eD', q = .rt d st' ∧ EI a st' eD' eV' ∧ Stp st eD eV st' eD' eV' ∧ Tmp a st' eD' eV' d t fr
  | .exc c fs eV' => ∃ fsD eD' st', q = .exc c fsD eD' st' ∧ EI a st' eD' eV' ∧ Stp st eD eV st' eD' eV' ∧ FsI fs fsD
  | .bad => True
section
variable {a : Act} {st st0 st1 : Sto} {eD eD0 eD1 : En} {eV eV0 eV1 : VEn} {d e : D} {t : T} {α β : Type}
theorem RF.step {r : VFl} {q : Fl} (p : Stp st0 eD0 eV0 st eD eV) (h : RF a st eD eV r q) : RF a st0 eD0 eV0 r q := by
  cases r with
  | nx eV' => obtain ⟨eD', st', e, I, s⟩ := h; exact ⟨eD', st', e, I, p.trans s⟩
  | ct eV' => obtain ⟨eD', st', e, I, s⟩ := h; exact ⟨eD', st', e, I, p.trans s⟩
  | rt t fr eV' => obtain ⟨d, st', eD', e, I, s, x⟩ := h; exact ⟨d, st', eD', e, I, p.trans s, x⟩
  | exc c fs eV' => obtain ⟨fsD, eD', st', e, I, s, x⟩ := h; exact ⟨fsD, eD', st', e, I, p.trans s, x⟩
  | bad => trivial
theorem RF.fl {Q : α → β → Sto → VEn → Prop} {r : VR α} {q : Res β} {f : α → VEn → VFl} {g : β → Sto → Fl} (h : RR a eD st eV Q r q)
    (k : ∀ x y st1 eV1, EI a st1 eD eV1 → Stp st eD eV st1 eD eV1 → Sl eV eV1 → Q x y st1 eV1 → RF a st eD eV (f x eV1) (g y st1)) : RF a st eD eV (r.fl f) (q.fl eD g) := by
  cases r with
  | ok x eV1 =>
    obtain ⟨y, st1, rfl, I, p, sl, hq⟩ := h
    exact k x y st1 eV1 I p sl hq
  | exc c fs eV1 =>
    obtain ⟨w, st2, rfl, I2, p2, hq2⟩ := h
    exact ⟨w, eD, st2, rfl, I2, p2, hq2⟩
  | bad => trivial
theorem RF.andThen {r : VFl} {q : Fl} {f : VEn → VFl} {g : En → Sto → Fl} (h : RF a st eD eV r q) (k : ∀ eD1 st1 eV1, EI a st1 eD1 eV1 → Stp st eD eV st1 eD1 eV1 → RF a st eD eV (f eV1) (g eD1 st1)) : RF a st eD eV (r.andThen f) (q.andThen g) := by
  cases r with
  | nx eV' => obtain ⟨eD', st', rfl, I, s⟩ := h; exact k eD' st' eV' I s
  | ct eV' => obtain ⟨eD', st', rfl, I, s⟩ := h; exact ⟨eD', st', rfl, I, s⟩
  | rt t fr eV' => obtain ⟨d, st', eD', rfl, I, s, x⟩ := h; exact ⟨d, st', eD', rfl, I, s, x⟩
  | exc c fs eV' => obtain ⟨fsD, eD', st', rfl, I, s, x⟩ := h; exact ⟨fsD, eD', st', rfl, I, s, x⟩
  | bad => trivial
theorem RF.turn {r : VFl} {q : Fl} {f : VEn → VFl} {g : En → Sto → Fl} (h : RF a st eD eV r q) (k : ∀ eD1 st1 eV1, EI a st1 eD1 eV1 → Stp st eD eV st1 eD1 eV1 → RF a st eD eV (f eV1) (g eD1 st1)) : RF a st eD eV (r.turn f) (q.turn g) := by
  cases r with
  | nx eV' => obtain ⟨eD', st', rfl, I, s⟩ := h; exact k eD' st' eV' I s
  | ct eV' => obtain ⟨eD', st', rfl, I, s⟩ := h; exact k eD' st' eV' I s
  | rt t fr eV' => obtain ⟨d, st', eD', rfl, I, s, x⟩ := h; exact ⟨d, st', eD', rfl, I, s, x⟩
  | exc c fs eV' => obtain ⟨fsD, eD', st', rfl, I, s, x⟩ := h; exact ⟨fsD, eD', st', rfl, I, s, x⟩
  | bad => trivial
theorem RF.of {o : Option α} {f : α → VEn → VFl} {q : Fl} {eV1 : VEn} (h : ∀ x, o = some x → RF a st eD eV (f x eV1) q) : RF a st eD eV ((VR.of o eV1).fl f) q := by
  cases o with
  | none => trivial
  | some x => exact h x rfl
theorem RF.take {o : Opd} {f : T → VEn → VFl} {q : Fl} (I : EI a st eD eV) (p0 : Stp st0 eD eV0 st eD eV) (sl : Sl eV0 eV) (h : QO a eD st0 eV0 o d st eV)
    (k : ∀ t eV1, EI a st eD eV1 → Stp st0 eD eV0 st eD eV1 → Stp st eD eV st eD eV1 → Sl eV0 eV1 → QT a eD st0 eV0 t d st eV1 → RF a st0 eD eV0 (f t eV1) q) : RF a st0 eD eV0 ((Ev.take eV o).fl f) q := by
  cases ht : Ev.take eV o with
  | ok t eV1 =>
    obtain ⟨I1, p1, s1, tm⟩ := take_ok I h.1 ht
    refine k t eV1 I1 (p0.trans p1) p1 (sl.trans s1) ⟨tm, ?_⟩
    cases o with
    | v t' fr => exact h.2.1
    | p i =>
      rcases op_reach h.1 with z | ⟨_, _, z⟩
      · exact fun x hx => p0.reach x (z x hx)
      · cases z
  | exc c fs eV1 => exact absurd ht take_no
  | bad => trivial
/-- x = a value -/
theorem RF.set {i : Nat} (I : EI a st eD eV) (p0 : Stp st0 eD0 eV0 st eD eV) {fr : Bool} (hd : Tmp a st eD eV d t fr) (hp : ∀ x, Hit st d x → Rc st0 eD0 eV0 x ∨ st0.length ≤ x) (hf : fr = true → ∃ l, d = .ref l ∧ st0.length ≤ l) :
    RF a st0 eD0 eV0 (match stV eV i (if fr = true then .s t else .b t) with | some env' => .nx env' | none => .bad) (.nx (eD.set i (some d)) st) := by
  cases h : stV eV i (if fr = true then .s t else .b t) with
  | none => trivial
  | some eV1 =>
    have e := st_some h
    subst e
    obtain ⟨I1, p1⟩ := I.assign (i := i) p0 hd hp hf
    exact ⟨_, _, rfl, I1, p1⟩
/-- a walk's turns -/
theorem loopF_ok {tg : Tg} {vb : VEn → VFl} {sb : En → Sto → Fl} {gd : List (Nat × O)} {stB : Sto} {eDB : En} {eVB : VEn} (hb : ∀ st eD eV, EI a st eD eV → RF a st eD eV (vb eV) (sb eD st)) :
    ∀ (xs : List T) (ds : List D) (st : Sto) (eD : En) (eV : VEn), EI a st eD eV → Stp stB eDB eVB st eD eV → Uns st ds xs → (∀ e ∈ ds, SrcB a stB eDB eVB st eD eV e) → (∀ p ∈ gd, st[p.1]? = some p.2 ∧ ¬ Rm eD eV p.1) → RF a stB eDB eVB (loopV tg vb xs eV) (loopF (fun st => bindT st tg) sb gd ds eD st) := by
  intro xs
  induction xs with
  | nil =>
    intro ds st eD eV I p us hs hg
    cases us
    rw [loopV, loopF, if_pos (still_of hg)]
    exact ⟨_, _, rfl, I, p⟩
  | cons x xs ih =>
    intro ds st eD eV I p us hs hg
    cases us with
    | cons u us =>
      rename_i d ds
      rw [loopV, loopF_cons, if_pos (still_of hg)]
      cases hbd : bindV tg x eV with
      | none => trivial
      | some eV1 =>
        obtain ⟨eD1, b1, I1, p1, b4, b6, b5⟩ := bindV_ok tg I p u (hs d List.mem_cons_self) hbd
        rw [b1]
        have q1 : Stq st eD eV st eD1 eV1 := ⟨Nat.le_refl _, fun _ _ _ => rfl, fun x h => .inl (b6 x h), fun x h => .inl (b4 x h)⟩
        simp only
        have hbody := hb st eD1 eV1 I1
        -- the turn, then the others
        cases hr : vb eV1 with
        | bad => trivial
        | rt t fr eV2 =>
          rw [hr] at hbody
          obtain ⟨dd, st', eD', e, I2, s, x⟩ := hbody
          rw [e]
          exact ⟨dd, st', eD', rfl, I2, p1.trans s, x⟩
        | exc c fs eV2 =>
          rw [hr] at hbody
          obtain ⟨fsD, eD', st', e, I2, s, x⟩ := hbody
          rw [e]
          exact ⟨fsD, eD', st', rfl, I2, p1.trans s, x⟩
        | nx eV2 =>
          rw [hr] at hbody
          obtain ⟨eD2, st2, e, I2, s⟩ := hbody
          rw [e]
          obtain ⟨w1, w2⟩ := srcs_wait (fun e he => hs e (List.mem_cons_of_mem _ he)) us (q1.trans s.q)
          exact ih ds st2 eD2 eV2 I2 (p1.trans s) w2 w1 (gd_wait hg (q1.trans s.q))
        | ct eV2 =>
          rw [hr] at hbody
          obtain ⟨eD2, st2, e, I2, s⟩ := hbody
          rw [e]
          obtain ⟨w1, w2⟩ := srcs_wait (fun e he => hs e (List.mem_cons_of_mem _ he)) us (q1.trans s.q)
          exact ih ds st2 eD2 eV2 I2 (p1.trans s) w2 w1 (gd_wait hg (q1.trans s.q))
theorem loopW_ok {vt : VEn → VR Bool} {vb : VEn → VFl} {tt : En → Sto → Res Bool} {sb : En → Sto → Fl} (ht : ∀ st eD eV, EI a st eD eV → RR a eD st eV (fun x y _ _ => x = y) (vt eV) (tt eD st)) (hb : ∀ st eD eV, EI a st eD eV → RF a st eD eV (vb eV) (sb eD st)) :
    ∀ (n : Nat) (st : Sto) (eD : En) (eV : VEn), EI a st eD eV → RF a st eD eV (loopVW vt vb n eV) (loopW tt sb n eD st) := by
  intro n
  induction n with
  | zero => intro st eD eV I; rw [loopVW]; trivial
  | succ n ih =>
    intro st eD eV I
    rw [loopVW, loopW_succ]
    refine RF.fl (ht st eD eV I) fun b b' st1 eV1 I1 p1 s1 e => ?_
    subst e
    cases b with
    | false => exact ⟨_, _, rfl, I1, p1⟩
    | true =>
      simp only [if_true]
      exact RF.step p1 (RF.turn (hb st1 eD eV1 I1) fun eD2 st2 eV2 I2 p2 => RF.step p2 (ih st2 eD2 eV2 I2))
/-! ### errors -/
theorem qV_ok (I : EI a st eD eV) {c : Nat} : ∀ (q : QE) {t : T}, qV c eV q = some t → ∃ d, qE c eD q = some d ∧ Un st d t ∧ ∀ x, ¬ Hit st d x
  | .int i, t, h => by cases h; exact ⟨_, rfl, .int i, fun x h => by cases h⟩
  | .bl i, t, h => by cases h; exact ⟨_, rfl, .bl i, fun x h => by cases h⟩
  | .var i, t, h => by
    simp only [qV] at h
    split at h
    · rename_i t' hi
      split at h
      · rename_i hf
        cases h
        obtain ⟨d, e1, e2, _⟩ := I.slot i _ hi
        exact ⟨d, e1, e2, e2.flat_hit hf⟩
      · cases h
    · cases h
  | .isx cs, t, h => by cases h; exact ⟨_, rfl, .bl _, fun x h => by cases h⟩
  | .toI q, t, h => by
    simp only [qV] at h
    split at h
    · rename_i b hb
      cases h
      obtain ⟨d, e1, e2, _⟩ := qV_ok I q hb
      cases e2
      exact ⟨.int _, by simp only [qE, e1], .int _, fun x h => by cases h⟩
    · cases h
  | .add q r, t, h => by
    simp only [qV] at h
    split at h
    · rename_i i j hi hj
      cases h
      obtain ⟨d, e1, e2, _⟩ := qV_ok I q hi
      obtain ⟨d', f1, f2, _⟩ := qV_ok I r hj
      cases e2
      cases f2
      exact ⟨.int _, by simp only [qE, e1, f1], .int _, fun x h => by cases h⟩
    · cases h
  | .mul q r, t, h => by
    simp only [qV] at h
    split at h
    · rename_i i j hi hj
      split at h
      · rename_i hm
        cases h
        obtain ⟨d, e1, e2, _⟩ := qV_ok I q hi
        obtain ⟨d', f1, f2, _⟩ := qV_ok I r hj
        cases e2
        cases f2
        exact ⟨.int _, by simp only [qE, e1, f1, hm, if_true], .int _, fun x h => by cases h⟩
      · cases h
    · cases h
  | .or q r, t, h => by
    simp only [qV] at h
    split at h
    · rename_i i j hi hj
      cases h
      obtain ⟨d, e1, e2, _⟩ := qV_ok I q hi
      obtain ⟨d', f1, f2, _⟩ := qV_ok I r hj
      cases e2
      cases f2
      exact ⟨.bl _, by simp only [qE, e1, f1], .bl _, fun x h => by cases h⟩
    · cases h
mutual
theorem qVS_ok {c : Nat} : ∀ (s : QS) (st : Sto) (eD : En) (eV : VEn), EI a st eD eV → RF a st eD eV (qVS c s eV) (qS c s eD st)
  | .asg i e, st, eD, eV, I => by
    rw [qVS, qS]
    cases h : qV c eV e with
    | none => trivial
    | some t =>
      obtain ⟨d, e1, e2, e3⟩ := qV_ok I e h
      rw [e1]
      exact RF.set (fr := false) I .refl (flat_tmp e2 e3) (fun x hx => absurd hx (e3 x)) (fun z => nomatch z)
  | .ite t b, st, eD, eV, I => by
    rw [qVS, qS]
    split
    · rename_i b' h
      obtain ⟨d, e1, e2, e3⟩ := qV_ok I t h
      cases e2
      rw [e1]
      cases b' with
      | true => exact qVSs_ok b st eD eV I
      | false => exact ⟨_, _, rfl, I, .refl⟩
    · trivial
  | .ret e, st, eD, eV, I => by
    rw [qVS, qS]
    cases h : qV c eV e with
    | none => trivial
    | some t =>
      obtain ⟨d, e1, e2, e3⟩ := qV_ok I e h
      rw [e1]
      exact ⟨d, st, eD, rfl, I, .refl, flat_tmp e2 e3⟩
  | .retN, st, eD, eV, I => by
    rw [qVS, qS]
    exact ⟨.non, st, eD, rfl, I, .refl, flat_tmp .non fun x h => by cases h⟩
theorem qVSs_ok {c : Nat} : ∀ (ss : List QS) (st : Sto) (eD : En) (eV : VEn), EI a st eD eV → RF a st eD eV (qVSs c ss eV) (qSs c ss eD st)
  | [], st, eD, eV, I => by
    rw [qVSs, qSs]
    exact ⟨_, _, rfl, I, .refl⟩
  | s :: ss, st, eD, eV, I => by
    have e : qSs c (s :: ss) eD st = (qS c s eD st).andThen (qSs c ss) := by rw [qSs]; rfl
    rw [qVSs, e]
    exact RF.andThen (qVS_ok s st eD eV I) fun eD1 st1 eV1 I1 p1 => RF.step p1 (qVSs_ok ss st1 eD1 eV1 I1)
end
theorem wipeO_ok (I : EI a st eD eV) {n : Option Nat} (h : wipeOV eV n = some eV1) : inR eD n = true ∧ EI a st (wipeO eD n) eV1 ∧ Stp st eD eV st (wipeO eD n) eV1 := by
  cases n with
  | none => cases h; exact ⟨rfl, I, .refl⟩
  | some i =>
    simp only [wipeOV] at h
    split at h
    · cases h
    · split at h
      · rename_i hi
        cases h
        obtain ⟨q1, q2⟩ := I.forget .refl i none
        exact ⟨by simp only [inR, decide_eq_true_eq, I.len]; exact hi, q1, q2⟩
      · cases h
theorem handle_okV {c : Nat} {fs : List T} {fsD : List D} (hf : FsI fs fsD) (I : EI a st eD eV) : ∀ hs : List Hd, RF a st eD eV (handleV c fs eV hs) (handle c fsD eD st hs)
  | [] => by
    rw [handleV, handle]
    exact ⟨fsD, eD, st, rfl, I, .refl, hf⟩
  | h :: hs => by
    rw [handleV, handle]
    split
    · cases hw : wipeOV eV h.n with
      | none => trivial
      | some eV1 =>
        obtain ⟨w1, w2, w3⟩ := wipeO_ok I hw
        rw [if_pos w1]
        have hb := qVSs_ok (c := c) h.b st (wipeO eD h.n) eV1 w2
        simp only
        cases hr : qVSs c h.b eV1 with
        | nx eV2 =>
          rw [hr] at hb
          obtain ⟨eD2, st2, e, I2, s⟩ := hb
          rw [e]
          simp only [VFl.gone, Fl.gone]
          cases hw2 : wipeOV eV2 h.n with
          | none => trivial
          | some eV3 =>
            obtain ⟨y1, y2, y3⟩ := wipeO_ok I2 hw2
            exact ⟨_, _, rfl, y2, (w3.trans s).trans y3⟩
        | rt t fr eV2 =>
          rw [hr] at hb
          obtain ⟨d, st2, eD2, e, I2, s, x⟩ := hb
          rw [e]
          exact ⟨d, st2, eD2, rfl, I2, w3.trans s, x⟩
        | ct => trivial
        | exc => trivial
        | bad => trivial
    · exact handle_okV hf I hs
end
variable {cl : VCl} {scl : Calls} {a : Act}
mutual
theorem okS (w : Nat) (hs : ∀ f, FnSim (cl.ms f) (cl.go f) (scl f)) : ∀ (s : S) (st : Sto) (eD : En) (eV : VEn), EI a st eD eV → RF a st eD eV (vS cl w s eV) (execS scl w s eD st)
  | .asg (.nm i) e, st, eD, eV, I => by
    rw [vS, execS]
    refine RF.fl (okE hs e st eD eV I) fun o d st1 eV1 I1 p1 s1 hq => ?_
    simp only [bind_nm, asgV]
    cases o with
    | v t fr => exact RF.set I1 p1 hq.1 hq.2.1 hq.2.2
    | p j => exact RF.take I1 p1 s1 hq fun t eV2 I2 p2 _ s2 hq2 => RF.set (fr := false) I2 p2 hq2.1 hq2.2 (fun z => nomatch z)
  | .asg (.tp ts) e, st, eD, eV, I => by
    rw [vS, execS]
    refine RF.fl (okE hs e st eD eV I) fun o d st1 eV1 I1 p1 s1 hq => ?_
    refine RF.of fun x hx => ?_
    have u := peek_ok I1 hq.1 hx
    cases hb : bindV (.tp ts) x eV1 with
    | none => trivial
    | some eV2 =>
      rw [bindV] at hb
      split at hb
      · rename_i xs hxs
        split at hb
        · rename_i hl
          obtain ⟨ds, e1, us, ps⟩ := seq_un u hxs
          obtain ⟨eD1, q1, q2, q3, _⟩ := bindVs_ok ts I1 p1 us (fun e he x hx => ⟨op_below I1 hq.1 (ps e he) x hx, part_pv p1 hq (ps e he) x hx⟩) hb
          have : bindT st1 (.tp ts) d eD = some eD1 := by
            rw [bindT]
            simp only [e1]
            rw [if_pos (by rw [us.length]; exact hl)]
            exact q1
          rw [this]
          exact ⟨_, _, rfl, q2, q3⟩
        · cases hb
      · cases hb
  | .par i j x y, st, eD, eV, I => by
    rw [vS, execS]
    refine RF.fl (okE hs x st eD eV I) fun ox dx st1 eV1 I1 p1 s1 hx => ?_
    refine RF.take I1 p1 s1 hx fun tx eV2 I2 p2 _ s2 hqx => ?_
    refine RF.fl (RR.sub p2 s2 (okE hs y st1 eD eV2 I2)) fun oy dy st3 eV3 I3 p3 s3 hy => ?_
    have hqx3 := hqx.wait hy.2.1
    refine RF.take I3 p3 s3 hy.1 fun ty eV4 I4 p4 p34 s4 hqy => ?_
    have hqx4 := hqx3.wait p34
    cases h1 : stV eV4 i (.b tx) with
    | none => trivial
    | some eV5 =>
      simp only [Option.bind_some]
      have e5 := st_some h1
      subst e5
      obtain ⟨I5, p5⟩ := I4.assign (i := i) (fr := false) p4 hqx4.1 hqx4.2 (fun z => nomatch z)
      have rt5 : ∀ z, Rt (eD.set i (some dx)) (eV4.set i (some (.b tx))) z → Rt eD eV4 z := fun z ⟨k, v, y1, y2, y3⟩ => by
        rcases lk_of_set y1 with ⟨rfl, e2, _⟩ | ⟨e1, e2⟩
        · subst e2; cases y2
        · rw [val_set_ne (fun z => e1 z.symm)] at y3
          exact ⟨k, v, e2, y2, y3⟩
      exact RF.set (fr := false) I5 p5 ⟨hqy.1.un, fun z hz => ⟨(hqy.1.pr z hz).1, fun q => (hqy.1.pr z hz).2 (rt5 z q)⟩, fun z => nomatch z⟩ hqy.2 (fun z => nomatch z)
  | .put o i e, st, eD, eV, I => by
    rw [vS, execS]
    refine RF.fl (okE hs e st eD eV I) fun ov dv st1 eV1 I1 p1 s1 hv => ?_
    refine RF.take I1 p1 s1 hv fun tv eV2 I2 p2 _ s2 hqv => ?_
    cases o with
    | var j =>
      simp only [isVar]
      rw [evalE]
      refine RF.of fun x0 hx0 => ?_
      obtain ⟨dj, hj, _, _⟩ := I2.slot j x0 hx0
      rw [hj]
      cases hz : (some dj : Option D) with
      | none => cases hz
      | some dj' =>
        cases hz
        simp only [Res.of_some, Res.fl_ok]
        refine RF.fl (RR.sub p2 s2 (okE hs i st1 eD eV2 I2)) fun ok dk st3 eV3 I3 p3 s3 hk => ?_
        have hqv3 := hqv.wait hk.2.1
        refine RF.take I3 p3 s3 hk.1 fun tk eV4 I4 p4 p34 s4 hqk => ?_
        have hqv4 := hqv3.wait p34
        refine RF.of fun x hx => RF.of fun t ht => RF.of fun y hy => ?_
        obtain ⟨d', f1, f2, f3⟩ := I4.slot j x hx
        rw [hj] at f1
        cases f1
        have hd : ∃ l, dj = .ref l := by
          cases x with
          | s t => obtain ⟨l, e, _⟩ := f3; exact ⟨l, e⟩
          | m t => obtain ⟨l, e, _⟩ := f3; exact ⟨l, e⟩
          | l t => cases hy
          | r t => cases hy
          | b t => cases hy
        obtain ⟨l, rfl⟩ := hd
        obtain ⟨st', e1, I5, p5, _⟩ := put_rr I4 p4 s4 hx hj hqk.1.un hqv4.1.un hqv4.src ht hy
        rw [e1]
        exact ⟨_, _, rfl, I5, p5⟩
    | _ => trivial
  | .aug i op e, st, eD, eV, I => by
    rw [vS, execS]
    have h0 := okE hs (.var i) st eD eV I
    rw [vE, evalE] at h0
    refine RF.fl h0 fun ox dx st1 eV1 I1 p1 s1 hx => ?_
    refine RF.fl (RR.sub p1 s1 (okE hs e st1 eD eV1 I1)) fun oy dy st2 eV2 I2 p2 s2 hy => ?_
    have hx2 := hx.wait hy.2.1 hy.2.2
    cases ha : asIn eV2 ox with
    | bad => trivial
    | exc => unfold asIn at ha; split at ha <;> cases ha
    | ok b eV3 =>
      obtain ⟨rfl, rfl⟩ := asIn_ok I2 hx2.1 ha
      show RF a st eD eV ((asIn eV3 oy).fl _) _
      cases hb : asIn eV3 oy with
      | bad => trivial
      | exc => unfold asIn at hb; split at hb <;> cases hb
      | ok c eV4 =>
        obtain ⟨rfl, rfl⟩ := asIn_ok I2 hy.1.1 hb
        show RF a st eD eV (match op, stV eV4 i (.b (.int (b + c))) with | .Add, some env' => .nx env' | _, _ => .bad) _
        cases op with
        | Add =>
          have := RF.set (i := i) (fr := false) (d := .int (b + c)) (t := .int (b + c)) I2 p2 (flat_tmp (.int _) int_flat) (fun x hx => absurd hx (int_flat x)) (fun z => nomatch z)
          simp only [Bool.false_eq_true, if_false] at this
          cases hst : stV eV4 i (.b (.int (b + c))) with
          | none => trivial
          | some env' =>
            rw [hst] at this
            exact this
        | _ => trivial
  | .exp e, st, eD, eV, I => by
    rw [vS, execS]
    exact RF.fl (okE hs e st eD eV I) fun o d st1 eV1 I1 p1 s1 hq => ⟨_, _, rfl, I1, p1⟩
  | .ite c x y, st, eD, eV, I => by
    rw [vS, execS]
    have h := okTest hs [c] st eD eV I
    rw [vTest, evalTs] at h
    refine RF.fl h fun b b' st1 eV1 I1 p1 s1 e => ?_
    subst e
    cases b with
    | true => exact RF.step p1 (okSs w hs x st1 eD eV1 I1)
    | false => exact RF.step p1 (okSs w hs y st1 eD eV1 I1)
  | .fo t it b, st, eD, eV, I => by
    rw [vS, execS]
    refine RF.fl (okI hs it st eD eV I) fun wi its st1 eV1 I1 p1 s1 qi => ?_
    have hl := loopF_ok (a := a) (tg := t) (gd := its.gd) (stB := st) (eDB := eD) (eVB := eV) (vb := fun env => vSs cl w b env) (sb := fun env st => execSs scl w b env st) (fun st eD eV I => okSs w hs b st eD eV I) wi.xs its.xs st1 eD eV1 I1 p1 qi.xs qi.src qi.gd
    have hl2 := RF.andThen (f := fun env => .nx (unlock env wi.lks)) (g := fun eD st => .nx eD st) hl fun eD2 st2 eV2 I2 p2 => by
      obtain ⟨I4, p4, _⟩ := unlock_ok wi.lks I2 p2 (fun i hi x hx ht => by
        obtain ⟨t, ht⟩ := ht
        obtain ⟨_, _, v0, z1, z2⟩ := qi.lks i hi
        rcases p2.iroots i _ x ht rfl hx with ⟨v1, y1, y2, y3⟩ | y
        · exact .inl ⟨i, v0, z1, z2, y3⟩
        · exact .inr y)
      exact ⟨_, _, rfl, I4, p4⟩
    have e0 : ∀ q : Fl, q.andThen (fun eD st => .nx eD st) = q := fun q => by cases q <;> rfl
    rw [e0] at hl2
    exact hl2
  | .wh c b, st, eD, eV, I => by
    rw [vS, execS]
    refine loopW_ok (fun st eD eV I => ?_) (fun st eD eV I => okSs w hs b st eD eV I) w st eD eV I
    have h := okTest hs [c] st eD eV I
    rw [vTest, evalTs] at h
    exact h
  | .ret e, st, eD, eV, I => by
    rw [vS, execS]
    refine RF.fl (okE hs e st eD eV I) fun o d st1 eV1 I1 p1 s1 hq => ?_
    cases o with
    | v t fr => exact ⟨d, st1, eD, rfl, I1, p1, hq.1⟩
    | p i =>
      simp only [retV]
      split
      · rename_i t hi
        obtain ⟨h1, h2⟩ := hq.1
        obtain ⟨I2, p2⟩ := I1.forget p1 i (eD.val i)
        obtain ⟨d', e1, e2, l, rfl, e4, e5⟩ := I1.slot i _ hi
        rw [h1] at e1
        cases e1
        have hset : eD.set i (eD.val i) = eD.set i (some (.ref l)) := by rw [h1]
        have rts : ∀ x, Rt (eD.set i (eD.val i)) (eV1.set i none) x → Rt eD eV1 x ∧ x ≠ l := fun x ⟨j, v, y1, y2, y3⟩ => by
          by_cases hij : i = j
          · subst hij
            rw [lk_set_self (lk_lt hi)] at y1
            cases y1
          · rw [lk_set_ne hij] at y1
            rw [val_set_ne hij] at y3
            exact ⟨⟨j, v, y1, y2, y3⟩, fun z => by subst z; exact hij (I1.uniq i j _ v x hi y1 rfl y2 h1 y3)⟩
        refine ⟨.ref l, st1, eD.set i (eD.val i), rfl, I2, p2, e2, fun x hx => ?_, fun _ => ⟨l, rfl, e4, fun ⟨j, v, dd, y1, y2, y3⟩ => ?_⟩⟩
        · rcases hx.low with rfl | hx
          · exact ⟨.inr e4, fun z => (rts x z).2 rfl⟩
          · exact ⟨(e5 x hx).1, fun z => (e5 x hx).2 (rts x z).1⟩
        · by_cases hij : i = j
          · subst hij
            rw [lk_set_self (lk_lt hi)] at y1
            cases y1
          · rw [lk_set_ne hij] at y1
            rw [val_set_ne hij] at y2
            obtain ⟨d2, f1, f2, f3⟩ := I1.slot j v y1
            rw [y2] at f1
            cases f1
            have hrt : Rt eD eV1 l := ⟨i, _, hi, rfl, h1⟩
            cases v with
            | s t =>
              obtain ⟨l2, rfl, _, q⟩ := f3
              rcases y3.low with rfl | y3
              · exact hij (I1.uniq i j _ _ l hi y1 rfl rfl h1 y2)
              · exact (q l y3).2 hrt
            | l t =>
              obtain ⟨l2, rfl, _, q⟩ := f3
              rcases y3.low with rfl | y3
              · exact hij (I1.uniq i j _ _ l hi y1 rfl rfl h1 y2)
              · exact (q l y3).2 hrt
            | m t =>
              obtain ⟨l2, rfl, _, q⟩ := f3
              rcases y3.low with rfl | y3
              · exact hij (I1.uniq i j _ _ l hi y1 rfl rfl h1 y2)
              · exact (q l y3).2 hrt
            | b t => exact (f3 l y3).2 hrt
            | r t =>
              have := (f3 l y3).1
              omega
      · rename_i t hi
        split
        · rename_i hf
          obtain ⟨h1, h2⟩ := hq.1
          obtain ⟨d', e1, e2, e3⟩ := I1.slot i _ hi
          rw [h1] at e1
          cases e1
          exact ⟨d, st1, eD, rfl, I1, p1, flat_tmp e2 (e2.flat_hit hf)⟩
        · trivial
      · trivial
  | .retN, st, eD, eV, I => by
    rw [vS, execS]
    exact ⟨.non, st, eD, rfl, I, .refl, flat_tmp .non fun x h => by cases h⟩
  | .con, st, eD, eV, I => by
    rw [vS, execS]
    exact ⟨_, _, rfl, I, .refl⟩
  | .pas, st, eD, eV, I => by
    rw [vS, execS]
    exact ⟨_, _, rfl, I, .refl⟩
  | .rai c es, st, eD, eV, I => by
    cases es with
    | nil =>
      rw [vS, execS, evalEs]
      exact ⟨[], eD, st, rfl, I, .refl, [], rfl, rfl⟩
    | cons e es => simp only [vS]; trivial
  | .tri rz b hh, st, eD, eV, I => by
    rw [vS, execS]
    have hb := okSs w hs b st eD eV I
    cases hr : vSs cl w b eV with
    | exc c fs eV1 =>
      rw [hr] at hb
      obtain ⟨fsD, eD1, st1, e, I1, s, hf⟩ := hb
      rw [e]
      obtain ⟨is, f1, f2⟩ := id hf
      simp only [VFl.catch, Fl.catch]
      have : fs.isEmpty = fsD.isEmpty := by rw [f1, f2]; cases is <;> rfl
      rw [this]
      split
      · exact RF.step s (handle_okV hf I1 hh)
      · trivial
    | nx eV1 => rw [hr] at hb; obtain ⟨eD', st', e, I1, s⟩ := hb; rw [e]; exact ⟨_, _, rfl, I1, s⟩
    | ct eV1 => rw [hr] at hb; obtain ⟨eD', st', e, I1, s⟩ := hb; rw [e]; exact ⟨_, _, rfl, I1, s⟩
    | rt t fr eV1 => rw [hr] at hb; obtain ⟨d, st', eD', e, I1, s, x⟩ := hb; rw [e]; exact ⟨d, _, _, rfl, I1, s, x⟩
    | bad => trivial
theorem okSs (w : Nat) (hs : ∀ f, FnSim (cl.ms f) (cl.go f) (scl f)) : ∀ (ss : List S) (st : Sto) (eD : En) (eV : VEn), EI a st eD eV → RF a st eD eV (vSs cl w ss eV) (execSs scl w ss eD st)
  | [], st, eD, eV, I => by
    rw [vSs, execSs]
    exact ⟨_, _, rfl, I, .refl⟩
  | s :: ss, st, eD, eV, I => by
    rw [vSs, execSs_cons]
    exact RF.andThen (okS w hs s st eD eV I) fun eD1 st1 eV1 I1 p1 => RF.step p1 (okSs w hs ss st1 eD1 eV1 I1)
end
end Ev

/-! Defs: what a def does with trees it does in the store. -/
namespace Ev
open PySem
theorem io_ix {x : Nat} : ∀ {ms : List Mode} {ds : List D}, Io x ms ds → ∃ i : Nat, ms[i]? = some .io ∧ ds[i]? = some (.ref x)
  | _, _, .here => ⟨0, rfl, rfl⟩
  | _, _, .next h => let ⟨i, h1, h2⟩ := io_ix h; ⟨i + 1, by simpa using h1, by simpa using h2⟩
theorem ix_io {x : Nat} : ∀ {ms : List Mode} {ds : List D} {i : Nat}, ms[i]? = some .io → ds[i]? = some (.ref x) → Io x ms ds
  | [], _, _, h, _ => by simp at h
  | _ :: _, [], _, _, h => by simp at h
  | m :: ms, d :: ds, 0, h1, h2 => by
    simp only [List.getElem?_cons_zero, Option.some.injEq] at h1 h2
    subst h1 h2
    exact .here
  | m :: ms, d :: ds, i + 1, h1, h2 => .next (ix_io (by simpa using h1) (by simpa using h2))
theorem outs_ok {P : Nat → T → Prop} : ∀ {ms : List Mode} {ds : List D} {eV : VEn} {os : List T}, ms.length = ds.length → outsM ms eV = some os → (∀ i t l, lk eV i = some (.m t) → ms[i]? = some .io → ds[i]? = some (.ref l) → P l t) → (∀ i : Nat, ms[i]? = some .io → ∃ l, ds[i]? = some (.ref l)) → Outs P ms ds os
  | [], [], eV, os, _, h, _, _ => by
    simp only [outsM] at h
    cases h
    exact .nil
  | [], _ :: _, _, _, hl, _, _, _ => by simp at hl
  | _ :: _, [], _, _, hl, _, _, _ => by simp at hl
  | m :: ms, d :: ds, eV, os, hl, h, hp, hr => by
    have hl' : ms.length = ds.length := by simpa using hl
    have rest : ∀ {eV' : VEn} {v} {os'}, eV = v :: eV' → outsM ms eV' = some os' → Outs P ms ds os' := fun e h => outs_ok hl' h (fun i t l h1 h2 h3 => hp (i + 1) t l (by subst e; exact h1) (by simpa using h2) (by simpa using h3)) (fun i h1 => by
      obtain ⟨l, hl⟩ := hr (i + 1) (by simpa using h1)
      exact ⟨l, by simpa using hl⟩)
    cases eV with
    | nil => cases m <;> simp [outsM] at h
    | cons v eV =>
      cases m with
      | sh =>
        simp only [outsM] at h
        exact .no (by simp) (rest rfl h)
      | rd =>
        simp only [outsM] at h
        exact .no (by simp) (rest rfl h)
      | io =>
        obtain ⟨l, e⟩ := hr 0 rfl
        simp only [List.getElem?_cons_zero, Option.some.injEq] at e
        subst e
        cases v with
        | none => simp [outsM] at h
        | some v =>
          cases v with
          | m t =>
            simp only [outsM, Option.map_eq_some_iff] at h
            obtain ⟨os', h1, rfl⟩ := h
            exact .io (hp 0 t l rfl rfl rfl) (rest rfl h1)
          | _ => simp [outsM] at h
theorem outs_all : ∀ {ms : List Mode} {eV : VEn} {os : List T}, outsM ms eV = some os → ∀ i : Nat, ms[i]? = some .io → ∃ t, lk eV i = some (.m t)
  | [], _, _, _, i, h => by simp at h
  | m :: ms, [], _, h, i, hi => by cases m <;> simp [outsM] at h
  | m :: ms, v :: eV, os, h, 0, hi => by
    simp only [List.getElem?_cons_zero, Option.some.injEq] at hi
    subst hi
    cases v with
    | none => simp [outsM] at h
    | some v =>
      cases v with
      | m t => exact ⟨t, rfl⟩
      | _ => simp [outsM] at h
  | m :: ms, v :: eV, os, h, i + 1, hi => by
    have hi : ms[i]? = some .io := by simpa using hi
    have : ∃ os', outsM ms eV = some os' := by
      cases m with
      | sh => exact ⟨os, by simpa [outsM] using h⟩
      | rd => exact ⟨os, by simpa [outsM] using h⟩
      | io =>
        cases v with
        | none => simp [outsM] at h
        | some v =>
          cases v with
          | m t =>
            simp only [outsM, Option.map_eq_some_iff] at h
            obtain ⟨os', h1, _⟩ := h
            exact ⟨os', h1⟩
          | _ => simp [outsM] at h
    obtain ⟨os', h'⟩ := this
    obtain ⟨t, ht⟩ := outs_all h' i hi
    exact ⟨t, ht⟩
/-- at the door -/
def At (st : Sto) (ms : List Mode) (ds : List D) (bs : List Bool) (i : Nat) (d : D) : VS → Prop
  | .b t => Un st d t ∧ ∀ x, Hit st d x → Ft st x ds bs
  | .r t => Un st d t ∧ ∀ x, Hit st d x → Ft st x ds bs ∨ (d = .ref x ∧ Ft st x ds bs ∨ d = .ref x ∧ Tr x ds bs ∧ ¬ Io x ms ds)
  | .m t => Un st d t ∧ ∃ l, d = .ref l ∧ ms[i]? = some .io ∧ ∀ x, Low st l x → Ft st x ds bs
  | _ => False
theorem args_len {st : Sto} : ∀ {ms : List Mode} {ds : List D} {ts : List T} {bs : List Bool}, Args st ms ds ts bs → ms.length = ds.length ∧ ts.length = ds.length
  | _, _, _, _, .nil => ⟨rfl, rfl⟩
  | _, _, _, _, .sh _ r => by have := args_len r; simp [this.1, this.2]
  | _, _, _, _, .rdU _ r => by have := args_len r; simp [this.1, this.2]
  | _, _, _, _, .rdT _ r => by have := args_len r; simp [this.1, this.2]
  | _, _, _, _, .io _ r => by have := args_len r; simp [this.1, this.2]
theorem lk_none_rep {k i : Nat} : lk (List.replicate k (none : Option VS)) i = none := by
  unfold lk
  rw [List.getElem?_replicate]
  split <;> rfl
theorem args_at {st : Sto} {k : Nat} : ∀ {ms : List Mode} {ds : List D} {ts : List T} {bs : List Bool}, Args st ms ds ts bs → Once ms ds bs → ∀ i v, lk (enterM ms ts ++ List.replicate k none) i = some v → ∃ d, ds[i]? = some d ∧ At st ms ds bs i d v
  | _, _, _, _, .nil, _, i, v, h => by
    simp only [enterM, List.nil_append] at h
    rw [lk_none_rep] at h
    cases h
  | _, _, _, _, .sh (d := d) u r, o, 0, v, h => by
    simp only [enterM] at h
    cases h
    exact ⟨d, rfl, u, fun x hx => .un hx⟩
  | _, _, _, _, .rdU (d := d) u r, o, 0, v, h => by
    simp only [enterM] at h
    cases h
    exact ⟨d, rfl, u, fun x hx => .inl (.un hx)⟩
  | _, _, _, _, .rdT (l := l) u r, o, 0, v, h => by
    simp only [enterM] at h
    cases h
    refine ⟨.ref l, rfl, u, fun x hx => ?_⟩
    cases o with
    | rdT n o =>
    rcases hx.low with rfl | hx
    · refine .inr (.inr ⟨rfl, .here, fun z => ?_⟩)
      cases z with
      | next z => exact n z
    · exact .inl (.tr hx)
  | _, _, _, _, .io (l := l) u r, o, 0, v, h => by
    simp only [enterM] at h
    cases h
    exact ⟨.ref l, rfl, u, l, rfl, rfl, fun x hx => .tr hx⟩
  | _, _, _, _, .sh (ms := ms) (ts := ts) u r, o, i + 1, v, h => by
    simp only [enterM] at h
    have h' : lk (enterM ms ts ++ List.replicate k none) i = some v := h
    cases o with
    | un o =>
    obtain ⟨d, h1, h2⟩ := args_at r o i v h'
    refine ⟨d, by simpa using h1, ?_⟩
    cases v with
    | b t => exact ⟨h2.1, fun x hx => .next (h2.2 x hx)⟩
    | r t =>
      refine ⟨h2.1, fun x hx => ?_⟩
      rcases h2.2 x hx with y | ⟨y1, y2⟩ | ⟨y1, y2, y3⟩
      · exact .inl (.next y)
      · exact .inl (.next y2)
      · exact .inr (.inr ⟨y1, .next y2, fun z => by
          cases z with
          | next z => exact y3 z⟩)
    | m t => obtain ⟨u', l, e, q1, q2⟩ := h2; exact ⟨u', l, e, by simpa using q1, fun x hx => .next (q2 x hx)⟩
    | s t => exact h2.elim
    | l t => exact h2.elim
  | _, _, _, _, .rdU (ms := ms) (ts := ts) u r, o, i + 1, v, h => by
    simp only [enterM] at h
    have h' : lk (enterM ms ts ++ List.replicate k none) i = some v := h
    cases o with
    | un o =>
    obtain ⟨d, h1, h2⟩ := args_at r o i v h'
    refine ⟨d, by simpa using h1, ?_⟩
    cases v with
    | b t => exact ⟨h2.1, fun x hx => .next (h2.2 x hx)⟩
    | r t =>
      refine ⟨h2.1, fun x hx => ?_⟩
      rcases h2.2 x hx with y | ⟨y1, y2⟩ | ⟨y1, y2, y3⟩
      · exact .inl (.next y)
      · exact .inl (.next y2)
      · exact .inr (.inr ⟨y1, .next y2, fun z => by
          cases z with
          | next z => exact y3 z⟩)
    | m t => obtain ⟨u', l, e, q1, q2⟩ := h2; exact ⟨u', l, e, by simpa using q1, fun x hx => .next (q2 x hx)⟩
    | s t => exact h2.elim
    | l t => exact h2.elim
  | _, _, _, _, .rdT (ms := ms) (ts := ts) u r, o, i + 1, v, h => by
    simp only [enterM] at h
    have h' : lk (enterM ms ts ++ List.replicate k none) i = some v := h
    cases o with
    | rdT n o =>
    obtain ⟨d, h1, h2⟩ := args_at r o i v h'
    refine ⟨d, by simpa using h1, ?_⟩
    cases v with
    | b t => exact ⟨h2.1, fun x hx => .next (h2.2 x hx)⟩
    | r t =>
      refine ⟨h2.1, fun x hx => ?_⟩
      rcases h2.2 x hx with y | ⟨y1, y2⟩ | ⟨y1, y2, y3⟩
      · exact .inl (.next y)
      · exact .inl (.next y2)
      · exact .inr (.inr ⟨y1, .next y2, fun z => by
          cases z with
          | next z => exact y3 z⟩)
    | m t => obtain ⟨u', l, e, q1, q2⟩ := h2; exact ⟨u', l, e, by simpa using q1, fun x hx => .next (q2 x hx)⟩
    | s t => exact h2.elim
    | l t => exact h2.elim
  | _, _, _, _, .io (ms := ms) (ts := ts) (l := l0) u r, o, i + 1, v, h => by
    simp only [enterM] at h
    have h' : lk (enterM ms ts ++ List.replicate k none) i = some v := h
    cases o with
    | io n o =>
    obtain ⟨d, h1, h2⟩ := args_at r o i v h'
    refine ⟨d, by simpa using h1, ?_⟩
    cases v with
    | b t => exact ⟨h2.1, fun x hx => .next (h2.2 x hx)⟩
    | r t =>
      refine ⟨h2.1, fun x hx => ?_⟩
      rcases h2.2 x hx with y | ⟨y1, y2⟩ | ⟨y1, y2, y3⟩
      · exact .inl (.next y)
      · exact .inl (.next y2)
      · refine .inr (.inr ⟨y1, .next y2, fun z => ?_⟩)
        cases z with
        | here => exact n y2
        | next z => exact y3 z
    | m t => obtain ⟨u', l, e, q1, q2⟩ := h2; exact ⟨u', l, e, by simpa using q1, fun x hx => .next (q2 x hx)⟩
    | s t => exact h2.elim
    | l t => exact h2.elim
theorem ft_in {st : Sto} {x : Nat} : ∀ {ms : List Mode} {ds : List D} {ts : List T} {bs : List Bool}, Args st ms ds ts bs → Ft st x ds bs → x < st.length
  | _, _, _, _, .nil, h => by cases h
  | _, _, _, _, .sh u r, h => by
    cases h with
    | un h => exact u.inside x h
    | next h => exact ft_in r h
  | _, _, _, _, .rdU u r, h => by
    cases h with
    | un h => exact u.inside x h
    | next h => exact ft_in r h
  | _, _, _, _, .rdT u r, h => by
    cases h with
    | tr h => exact u.inside x h.hit
    | next h => exact ft_in r h
  | _, _, _, _, .io u r, h => by
    cases h with
    | tr h => exact u.inside x h.hit
    | next h => exact ft_in r h
theorem io_in {st : Sto} {x : Nat} : ∀ {ms : List Mode} {ds : List D} {ts : List T} {bs : List Bool}, Args st ms ds ts bs → Io x ms ds → x < st.length
  | _, _, _, _, .nil, h => by cases h
  | _, _, _, _, .sh u r, h => by
    cases h with
    | next h => exact io_in r h
  | _, _, _, _, .rdU u r, h => by
    cases h with
    | next h => exact io_in r h
  | _, _, _, _, .rdT u r, h => by
    cases h with
    | next h => exact io_in r h
  | _, _, _, _, .io u r, h => by
    cases h with
    | here => exact u.inside x .ref
    | next h => exact io_in r h
theorem tr_in {st : Sto} {x : Nat} : ∀ {ms : List Mode} {ds : List D} {ts : List T} {bs : List Bool}, Args st ms ds ts bs → Tr x ds bs → x < st.length
  | _, _, _, _, .nil, h => by cases h
  | _, _, _, _, .sh u r, h => by
    cases h with
    | next h => exact tr_in r h
  | _, _, _, _, .rdU u r, h => by
    cases h with
    | next h => exact tr_in r h
  | _, _, _, _, .rdT u r, h => by
    cases h with
    | here => exact u.inside x .ref
    | next h => exact tr_in r h
  | _, _, _, _, .io u r, h => by
    cases h with
    | here => exact u.inside x .ref
    | next h => exact tr_in r h
theorem ix_tr {st : Sto} {x : Nat} : ∀ {ms : List Mode} {ds : List D} {ts : List T} {bs : List Bool}, Args st ms ds ts bs → ∀ {i : Nat}, ms[i]? = some .io → ds[i]? = some (.ref x) → Tr x ds bs
  | _, _, _, _, .nil, i, h, _ => by simp at h
  | _, _, _, _, .sh u r, 0, h, _ => by simp at h
  | _, _, _, _, .rdU u r, 0, h, _ => by simp at h
  | _, _, _, _, .rdT u r, 0, h, _ => by simp at h
  | _, _, _, _, .io u r, 0, h, h2 => by
    simp only [List.getElem?_cons_zero, Option.some.injEq] at h2
    cases h2
    exact .here
  | _, _, _, _, .sh u r, i + 1, h, h2 => .next (ix_tr r (by simpa using h) (by simpa using h2))
  | _, _, _, _, .rdU u r, i + 1, h, h2 => .next (ix_tr r (by simpa using h) (by simpa using h2))
  | _, _, _, _, .rdT u r, i + 1, h, h2 => .next (ix_tr r (by simpa using h) (by simpa using h2))
  | _, _, _, _, .io u r, i + 1, h, h2 => .next (ix_tr r (by simpa using h) (by simpa using h2))
theorem io_once {st : Sto} {x : Nat} : ∀ {ms : List Mode} {ds : List D} {ts : List T} {bs : List Bool}, Args st ms ds ts bs → Once ms ds bs → ∀ {i j : Nat}, ms[i]? = some .io → ds[i]? = some (.ref x) → ms[j]? = some .io → ds[j]? = some (.ref x) → i = j
  | _, _, _, _, .nil, _, i, j, h, _, _, _ => by simp at h
  | _, _, _, _, .sh u r, .un o, 0, _, h, _, _, _ => by simp at h
  | _, _, _, _, .sh u r, .un o, _, 0, _, _, h, _ => by simp at h
  | _, _, _, _, .sh u r, .un o, i + 1, j + 1, h1, h2, h3, h4 => congrArg (· + 1) (io_once r o (by simpa using h1) (by simpa using h2) (by simpa using h3) (by simpa using h4))
  | _, _, _, _, .rdU u r, .un o, 0, _, h, _, _, _ => by simp at h
  | _, _, _, _, .rdU u r, .un o, _, 0, _, _, h, _ => by simp at h
  | _, _, _, _, .rdU u r, .un o, i + 1, j + 1, h1, h2, h3, h4 => congrArg (· + 1) (io_once r o (by simpa using h1) (by simpa using h2) (by simpa using h3) (by simpa using h4))
  | _, _, _, _, .rdT u r, .rdT _ o, 0, _, h, _, _, _ => by simp at h
  | _, _, _, _, .rdT u r, .rdT _ o, _, 0, _, _, h, _ => by simp at h
  | _, _, _, _, .rdT u r, .rdT _ o, i + 1, j + 1, h1, h2, h3, h4 => congrArg (· + 1) (io_once r o (by simpa using h1) (by simpa using h2) (by simpa using h3) (by simpa using h4))
  | _, _, _, _, .io u r, .io n o, 0, 0, _, _, _, _ => rfl
  | _, _, _, _, .io u r, .io n o, 0, j + 1, _, h2, h3, h4 => by
    simp only [List.getElem?_cons_zero, Option.some.injEq] at h2
    cases h2
    exact absurd (ix_tr r (by simpa using h3) (by simpa using h4)) n
  | _, _, _, _, .io u r, .io n o, i + 1, 0, h1, h2, _, h4 => by
    simp only [List.getElem?_cons_zero, Option.some.injEq] at h4
    cases h4
    exact absurd (ix_tr r (by simpa using h1) (by simpa using h2)) n
  | _, _, _, _, .io u r, .io n o, i + 1, j + 1, h1, h2, h3, h4 => congrArg (· + 1) (io_once r o (by simpa using h1) (by simpa using h2) (by simpa using h3) (by simpa using h4))
theorem enter_val {F : Fn} {ds : List D} {i : Nat} {d : D} (h : ds[i]? = some d) : (enter F ds).val i = some d := by
  unfold enter En.val
  have hi : i < ds.length := by
    rcases Nat.lt_or_ge i ds.length with h' | h'
    · exact h'
    · rw [List.getElem?_eq_none h'] at h; cases h
  rw [List.getElem?_append_left (by simpa using hi), List.getElem?_map, h]
  rfl
theorem enterM_len {st : Sto} : ∀ {ms : List Mode} {ds : List D} {ts : List T} {bs : List Bool}, Args st ms ds ts bs → (enterM ms ts).length = ds.length
  | _, _, _, _, .nil => rfl
  | _, _, _, _, .sh _ r => by simp [enterM, enterM_len r]
  | _, _, _, _, .rdU _ r => by simp [enterM, enterM_len r]
  | _, _, _, _, .rdT _ r => by simp [enterM, enterM_len r]
  | _, _, _, _, .io _ r => by simp [enterM, enterM_len r]
section
variable {st : Sto} {ms : List Mode} {ds : List D} {ts : List T} {bs : List Bool}
def mrOf (ms : List Mode) (ds : List D) (i : Nat) : Option Nat := match ms[i]?, ds[i]? with
  | some .io, some (.ref l) => some l
  | _, _ => none
def doorAct (h : Args st ms ds ts bs) (hx : ∀ x, Io x ms ds → ¬ Ft st x ds bs) : Act where
  n0 := st.length
  P := fun x => Ft st x ds bs
  A := fun x => Io x ms ds
  mr := mrOf ms ds
  hP := fun x hp => ⟨ft_in h hp, fun z => hx x z hp⟩
  hA := fun x hp => io_in h hp
theorem door_rt {F : Fn} (h : Args st ms ds ts bs) (o : Once ms ds bs) {k x : Nat} (hr : Rt (enter F ds) (enterM ms ts ++ List.replicate k none) x) : Io x ms ds := by
  obtain ⟨i, v, h1, h2, h3⟩ := hr
  obtain ⟨d, e1, e2⟩ := args_at h o i v h1
  rw [enter_val e1] at h3
  cases h3
  cases v with
  | m t =>
    obtain ⟨_, l, e, q1, q2⟩ := e2
    cases e
    exact ix_io q1 e1
  | s t => exact e2.elim
  | l t => exact e2.elim
  | r t => cases h2
  | b t => cases h2
theorem door {F : Fn} (h : Args st ms ds ts bs) (hx : ∀ x, Io x ms ds → ¬ Ft st x ds bs) (o : Once ms ds bs) : EI (doorAct h hx) st (enter F ds) (enterM ms ts ++ List.replicate (F.ns - ts.length) none) where
  len := by simp [enter, enterM_len h, (args_len h).2]
  big := Nat.le_refl _
  slot := fun i v hv => by
    obtain ⟨d, e1, e2⟩ := args_at h o i v hv
    refine ⟨d, enter_val e1, ?_⟩
    cases v with
    | b t => exact ⟨e2.1, fun x hh => ⟨.inl (e2.2 x hh), fun z => hx x (door_rt h o z) (e2.2 x hh)⟩⟩
    | r t =>
      refine ⟨e2.1, fun x hh => ?_⟩
      rcases e2.2 x hh with y | ⟨y1, y2⟩ | ⟨y1, y2, y3⟩
      · exact ⟨ft_in h y, fun z => hx x z y, .inr y⟩
      · exact ⟨ft_in h y2, fun z => hx x z y2, .inr y2⟩
      · exact ⟨tr_in h y2, y3, .inl y1⟩
    | m t =>
      obtain ⟨u, l, rfl, q1, q2⟩ := e2
      exact ⟨u, l, rfl, ix_io q1 e1, fun x hh => ⟨.inl (q2 x hh), fun z => hx x (door_rt h o z) (q2 x hh)⟩⟩
    | s t => exact e2.elim
    | l t => exact e2.elim
  uniq := fun i j v w x h1 h2 h3 h4 h5 h6 => by
    obtain ⟨d, e1, e2⟩ := args_at h o i v h1
    obtain ⟨d', f1, f2⟩ := args_at h o j w h2
    rw [enter_val e1] at h5
    rw [enter_val f1] at h6
    cases h5
    cases h6
    have g : ∀ {i : Nat} {v : VS}, v.rooted = true → At st ms ds bs i (.ref x) v → ms[i]? = some .io := fun {i v} hr ha => by
      cases v with
      | m t => exact ha.2.choose_spec.2.1
      | s t => exact ha.elim
      | l t => exact ha.elim
      | r t => cases hr
      | b t => cases hr
    exact io_once h o (g h3 e2) e1 (g h4 f2) f1
  mroot := fun i t hi => by
    obtain ⟨d, e1, u, l, rfl, q1, q2⟩ := args_at h o i _ hi
    rw [enter_val e1]
    show _ = (mrOf ms ds i).map D.ref
    unfold mrOf
    rw [q1, e1]
    rfl
/-- on the way out -/
theorem leave {F : Fn} {k : Nat} (h : Args st ms ds ts bs) (hx : ∀ x, Io x ms ds → ¬ Ft st x ds bs) (o : Once ms ds bs) {st' : Sto} {eD' : En} {eV' : VEn} {os : List T} (I : EI (doorAct h hx) st' eD' eV') (p : Stp st (enter F ds) (enterM ms ts ++ List.replicate k none) st' eD' eV') (ho : outsM ms eV' = some os) :
    CallP st st' ms ds bs os ∧ ∀ r, Io r ms ds → ∃ i t, lk eV' i = some (.m t) ∧ eD'.val i = some (.ref r) := by
  have key : ∀ (i : Nat) (l : Nat), ms[i]? = some .io → ds[i]? = some (.ref l) → ∀ t, lk eV' i = some (.m t) → eD'.val i = some (.ref l) := fun i l h1 h2 t ht => by
    rw [I.mroot i t ht]
    show (mrOf ms ds i).map D.ref = _
    unfold mrOf
    rw [h1, h2]
    rfl
  refine ⟨⟨p.len, fun x hl hi => p.keep x hl fun z => hi (door_rt h o z.rt), outs_ok (args_len h).1 ho (fun i t l h1 h2 h3 => ?_) (fun i hi => ?_)⟩, fun r hr => ?_⟩
  · obtain ⟨d, e1, e2, l', rfl, e4, e5⟩ := I.slot i _ h1
    rw [key i l h2 h3 t h1] at e1
    cases e1
    exact ⟨e2, fun x hl => (e5 x hl).1⟩
  · have : ∀ {ms : List Mode} {ds : List D} {ts : List T} {bs : List Bool}, Args st ms ds ts bs → ∀ i : Nat, ms[i]? = some .io → ∃ l, ds[i]? = some (.ref l) := by
      intro ms ds ts bs h
      induction h with
      | nil => intro i hi; simp at hi
      | sh u r ih => intro i hi; cases i with
        | zero => simp at hi
        | succ i => simpa using ih i (by simpa using hi)
      | rdU u r ih => intro i hi; cases i with
        | zero => simp at hi
        | succ i => simpa using ih i (by simpa using hi)
      | rdT u r ih => intro i hi; cases i with
        | zero => simp at hi
        | succ i => simpa using ih i (by simpa using hi)
      | @io l _ _ _ _ _ u r ih => intro i hi; cases i with
        | zero => exact ⟨l, rfl⟩
        | succ i => simpa using ih i (by simpa using hi)
    exact this h i hi
  · obtain ⟨i, h1, h2⟩ := io_ix hr
    obtain ⟨t, ht⟩ := outs_all ho i h1
    exact ⟨i, t, ht, key i r h1 h2 t ht⟩
end
/-- every def -/
theorem run_sim (Tb : List Fn) (M : List (List Mode)) (w : Nat) : ∀ (k f : Nat), FnSim (M.getD f []) (vrun Tb M w k f) (run Tb w k f) := by
  intro k
  induction k with
  | zero => intro f st ds ts bs h hx o; trivial
  | succ k ih =>
    intro f st ds ts bs h hx o
    rw [vrun, run]
    simp only
    cases hf : Tb[f]? with
    | none => trivial
    | some F =>
      simp only
      have hl := args_len h
      by_cases hc : ts.length = F.ps ∧ (M.getD f []).length = F.ps
      · rw [if_pos hc, if_pos (by rw [← hl.2]; exact hc.1)]
        have hb := okSs (a := doorAct h hx) (cl := ⟨fun f => M.getD f [], vrun Tb M w k⟩) (scl := run Tb w k) w ih F.body st (enter F ds) _ (door (F := F) h hx o)
        cases hr : vSs ⟨fun f => M.getD f [], vrun Tb M w k⟩ w F.body (enterM (M.getD f []) ts ++ List.replicate (F.ns - ts.length) none) with
        | nx eV' =>
          rw [hr] at hb
          obtain ⟨eD', st', e, I, p⟩ := hb
          rw [e]
          simp only [VFl.out, Fl.out]
          cases ho : outsM (M.getD f []) eV' with
          | none => trivial
          | some os =>
            obtain ⟨c, _⟩ := leave h hx o I p ho
            exact ⟨.non, st', rfl, c, .non, (fun x hh => by cases hh), fun z => by cases z⟩
        | rt t fr eV' =>
          rw [hr] at hb
          obtain ⟨d, st', eD', e, I, p, tm⟩ := hb
          rw [e]
          simp only [VFl.out, Fl.out]
          cases ho : outsM (M.getD f []) eV' with
          | none => trivial
          | some os =>
            obtain ⟨c, c2⟩ := leave h hx o I p ho
            refine ⟨d, st', rfl, c, tm.un, fun x hh => (tm.pr x hh).1, fun hfr => ?_⟩
            obtain ⟨l, e1, e2, e3⟩ := tm.new hfr
            refine ⟨l, e1, e2, fun r hr hh => ?_⟩
            obtain ⟨i, t', q1, q2⟩ := c2 r hr
            exact e3 ⟨i, _, _, q1, q2, hh⟩
        | exc c fs eV' =>
          rw [hr] at hb
          obtain ⟨fsD, eD', st', e, I, p, hq⟩ := hb
          rw [e]
          simp only [VFl.out, Fl.out]
          cases ho : outsM (M.getD f []) eV' with
          | none => trivial
          | some os =>
            obtain ⟨cc, _⟩ := leave h hx o I p ho
            exact ⟨fsD, st', rfl, cc, hq⟩
        | ct => trivial
        | bad => trivial
      · rw [if_neg hc]; trivial
/-- a law that trees say -/
theorem law_of_trees {Tb : List Fn} {M : List (List Mode)} {w k f : Nat} {ns : List Int} (hm : M.getD f [] = [.sh]) {b : Bool} {fr : Bool} {os : List T} (h : vrun Tb M w k f [.scr ns] = .ok (.bl b) fr os) : ∃ st, run Tb w k f [.scr ns] [] = .ok (.bl b) st := by
  have hs := run_sim Tb M w k f [] [.scr ns] [.scr ns] [false] (by rw [hm]; exact .sh (.scr ns) .nil) (fun x hx => by
    rw [hm] at hx
    cases hx with
    | next hx => cases hx) (by rw [hm]; exact .un .nil)
  rw [h] at hs
  obtain ⟨d, st', e, _, u, _⟩ := hs
  cases u
  exact ⟨st', e⟩
end Ev

/-! At the top of a law: lists below a value are changed; what might share them is forgotten. -/
namespace Ev
open PySem
def calmT : T → Bool
  | .scr _ => true
  | t => flat t
/-- a slot that no change below another one touches -/
def simpS : VS → Bool
  | .b t => calmT t
  | .s (.lst ts) => flats ts
  | _ => false
/-- the slots that are kept -/
def forget (ks : List Nat) (eV : VEn) : VEn := eV.mapIdx fun i o => if ks.contains i then o else none
def keepOk (ks : List Nat) (eV : VEn) : Bool := ks.all fun k => match lk eV k with
  | some v => simpS v
  | none => true
theorem forget_len {ks : List Nat} {eV : VEn} : (forget ks eV).length = eV.length := by simp [forget]
theorem lk_forget {ks : List Nat} {eV : VEn} {i : Nat} {v : VS} (hk : keepOk ks eV = true) (h : lk (forget ks eV) i = some v) : lk eV i = some v ∧ simpS v = true := by
  unfold lk forget at h
  rw [List.getElem?_mapIdx] at h
  cases he : eV[i]? with
  | none => rw [he] at h; cases h
  | some o =>
    rw [he] at h
    by_cases hc : ks.contains i = true
    · simp only [Option.map_some, hc, if_true] at h
      have h' : o = some v := h
      subst h'
      have e : lk eV i = some v := by unfold lk; rw [he]; rfl
      refine ⟨e, ?_⟩
      have := List.all_eq_true.mp hk i (by simpa using hc)
      rw [e] at this
      exact this
    · simp only [Option.map_some, hc] at h
      cases h
theorem calm_hit {st : Sto} {d : D} {t : T} (u : Un st d t) (h : calmT t = true) : ∀ x, ¬ Hit st d x := by
  intro x hx
  cases u with
  | scr ns => cases hx
  | non => cases hx
  | bl b => cases hx
  | int i => cases hx
  | str y => cases hx
  | tup u => exact (Un.tup u).flat_hit (by simpa [calmT] using h) x hx
  | lst h1 h2 => simp [calmT, flat] at h
  | dct h1 h2 => simp [calmT, flat] at h
section
variable {a : Act} {st st' : Sto} {eD eD' : En} {eV eV' : VEn}
theorem EI.after (I : EI a st eD eV) (h0 : a.n0 = 0) (hl : eD'.length = eV'.length) (i0 : Nat) (v0 : VS)
    (hs : ∀ i v, lk eV' i = some v → (lk eV i = some v ∧ simpS v = true ∧ eD'.val i = eD.val i ∧ i ≠ i0) ∨ (i = i0 ∧ v = v0))
    (hr : ∀ x, Rt eD eV x → st'[x]? = st[x]?)
    {d0 : D} (hd : eD'.val i0 = some d0) (hu : Un st' d0 v0.t)
    (hv : (∃ t, v0 = .b t ∧ ∀ x, Hit st' d0 x → ¬ Rt eD eV x) ∨ (∃ t t1 l, v0 = .s t ∧ d0 = .ref l ∧ lk eV i0 = some (.s t1) ∧ eD.val i0 = some (.ref l) ∧ ∀ x, Low st' l x → ¬ Rt eD eV x)) : EI a st' eD' eV' := by
  have pr : ∀ x, a.Pr x := fun x => .inr (by rw [h0]; exact Nat.zero_le _)
  have rt : ∀ x, Rt eD' eV' x → Rt eD eV x := by
    rintro x ⟨i, v, h1, h2, h3⟩
    rcases hs i v h1 with ⟨g1, g2, g3, -⟩ | ⟨rfl, rfl⟩
    · exact ⟨i, v, g1, h2, by rw [← g3]; exact h3⟩
    · rcases hv with ⟨t, rfl, -⟩ | ⟨t, t1, l, rfl, rfl, g1, g2, -⟩
      · cases h2
      · rw [hd] at h3; cases h3
        exact ⟨i, _, g1, rfl, g2⟩
  refine ⟨hl, by rw [h0]; exact Nat.zero_le _, ?_, ?_, ?_⟩
  · intro i v h1
    rcases hs i v h1 with ⟨g1, g2, g3, -⟩ | ⟨rfl, rfl⟩
    · obtain ⟨d, e1, e2, e3⟩ := I.slot i v g1
      refine ⟨d, by rw [g3]; exact e1, ?_⟩
      cases v with
      | b t =>
        have hn := calm_hit e2 g2
        have hs' := e2.stay (st' := st') (fun x hx => absurd hx (hn x))
        exact ⟨hs'.1, fun x hx => absurd (hs'.2 x hx) (hn x)⟩
      | s t =>
        cases t with
        | lst ts =>
          obtain ⟨l, rfl, -, e4⟩ := e3
          have hroot : Rt eD eV l := ⟨i, _, g1, rfl, e1⟩
          have hst := hr l hroot
          cases e2 with
          | lst k1 k2 =>
            have hn := k2.flat_hit g2
            have hs' := k2.stay (st' := st') (fun d hd x hx => absurd hx (hn d hd x))
            have k1' := hst.trans k1
            refine ⟨.lst k1' hs'.1, l, rfl, by rw [h0]; exact Nat.zero_le _, ?_⟩
            rintro x ⟨o, d, m1, m2, m3⟩
            rw [k1'] at m1
            cases m1
            exact absurd (hs'.2 d m2 x m3) (hn d m2 x)
        | _ => simp [simpS] at g2
      | l t => simp [simpS] at g2
      | m t => simp [simpS] at g2
      | r t => simp [simpS] at g2
    · refine ⟨d0, hd, hu, ?_⟩
      rcases hv with ⟨t, rfl, h⟩ | ⟨t, t1, l, rfl, rfl, g1, g2, h⟩
      · exact fun x hx => ⟨pr x, fun z => h x hx (rt x z)⟩
      · exact ⟨l, rfl, by rw [h0]; exact Nat.zero_le _, fun x hx => ⟨pr x, fun z => h x hx (rt x z)⟩⟩
  · intro i j v w x hi hj hv' hw' ei ej
    have f : ∀ i v, lk eV' i = some v → v.rooted = true → eD'.val i = some (.ref x) → ∃ v1, lk eV i = some v1 ∧ v1.rooted = true ∧ eD.val i = some (.ref x) := by
      intro i v h1 h2 h3
      rcases hs i v h1 with ⟨g1, g2, g3, -⟩ | ⟨rfl, rfl⟩
      · exact ⟨v, g1, h2, by rw [← g3]; exact h3⟩
      · rcases hv with ⟨t, rfl, -⟩ | ⟨t, t1, l, rfl, rfl, g1, g2, -⟩
        · cases h2
        · rw [hd] at h3; cases h3
          exact ⟨_, g1, rfl, g2⟩
    obtain ⟨v1, a1, a2, a3⟩ := f i v hi hv' ei
    obtain ⟨w1, b1, b2, b3⟩ := f j w hj hw' ej
    exact I.uniq i j v1 w1 x a1 b1 a2 b2 a3 b3
  · intro i t h1
    rcases hs i _ h1 with ⟨g1, g2, -, -⟩ | ⟨rfl, e⟩
    · simp [simpS] at g2
    · rcases hv with ⟨t, rfl, -⟩ | ⟨t, t1, l, rfl, -⟩ <;> cases e
end
/-! ### path statements -/
inductive Pth where
  /-- for x in y: x.clear() -/
  | fclr (j i : Nat) (ks : List Nat)
  /-- y[c].clear() -/
  | clr (i c : Nat) (ks : List Nat)
  /-- y[c].append(None) -/
  | apn (i c : Nat) (ks : List Nat)
def Pth.toS : Pth → S
  | .fclr j i _ => .fo (.nm j) (.seq (.var i)) [.exp (.mt .clear (.var j) [])]
  | .clr i c _ => .exp (.mt .clear (.ix (.var i) (.cst (.int c))) [])
  | .apn i c _ => .exp (.mt .append (.ix (.var i) (.cst (.int c))) [.cst .non])
def isLst : T → Bool
  | .lst _ => true
  | _ => false
def pV : Pth → VEn → Option VEn
  | .fclr j i ks, eV => match lk eV i with
    | some (.s (.lst ts)) => if i ≠ j ∧ (ts.all isLst) = true ∧ j < eV.length ∧ i < eV.length ∧ keepOk ks eV = true then some (((forget ks eV).set i (some (.s (.lst (ts.map fun _ => .lst []))))).set j none) else none
    | _ => none
  | .clr i c ks, eV => match lk eV i with
    | some (.b (.tup ts)) => match ts[c]? with
      | some (.lst _) => if flats (ts.set c .non) = true ∧ i < eV.length ∧ keepOk ks eV = true then some ((forget ks eV).set i (some (.b (.tup (ts.set c (.lst [])))))) else none
      | _ => none
    | _ => none
  | .apn i c ks, eV => match lk eV i with
    | some (.b (.tup ts)) => match ts[c]? with
      | some (.lst xs) => if flats (ts.set c .non) = true ∧ i < eV.length ∧ keepOk ks eV = true ∧ xs.length < line then some ((forget ks eV).set i (some (.b (.tup (ts.set c (.lst (xs ++ [.non]))))))) else none
      | _ => none
    | _ => none
theorem flats_set_hit {st : Sto} {ds : List D} {ts : List T} {c : Nat} (u : Uns st ds ts) (h : flats (ts.set c .non) = true) : ∀ k d, ds[k]? = some d → k ≠ c → ∀ x, ¬ Hit st d x := by
  intro k d hk hkc
  have u2 : Uns st (ds.set c .non) (ts.set c .non) := Uns.set .non c u
  have : d ∈ ds.set c .non := by
    apply List.mem_of_getElem? (i := k)
    rw [List.getElem?_set_ne (fun z => hkc z.symm)]; exact hk
  exact u2.flat_hit h d this
theorem get_set_self {st : Sto} {l : Nat} {o o' : O} (h : st[l]? = some o) : (st.set l o')[l]? = some o' := by
  have hl : l < st.length := by
    apply Classical.byContradiction
    intro hn
    rw [List.getElem?_eq_none (by omega)] at h; cases h
  rw [List.getElem?_set_self hl]
theorem get_set_ne {st : Sto} {l x : Nat} {o' : O} (h : x ≠ l) : (st.set l o')[x]? = st[x]? := List.getElem?_set_ne (fun z => h z.symm)
theorem tup_chg {a : Act} {st : Sto} {eD : En} {eV : VEn} (I : EI a st eD eV) (h0 : a.n0 = 0) {ks : List Nat} (hks : keepOk ks eV = true) {i c : Nat} {ts xs xs' : List T} (hi : lk eV i = some (.b (.tup ts))) (hc : ts[c]? = some (.lst xs)) (hf : flats (ts.set c .non) = true) (hil : i < eV.length) :
    ∃ ds l es, eD.val i = some (.tup ds) ∧ ds[c]? = some (.ref l) ∧ st[l]? = some (.lst es) ∧ es.length = xs.length ∧ ∀ es', Uns st es' xs' → (∀ e ∈ es', ∀ x, Hit st e x → Hit st (.ref l) x ∧ x ≠ l) → EI a (st.set l (.lst es')) eD ((forget ks eV).set i (some (.b (.tup (ts.set c (.lst xs')))))) := by
  obtain ⟨d, e1, e2, e3⟩ := I.slot i _ hi
  simp only [VS.t] at e2
  cases e2 with
  | tup u =>
    rename_i ds
    obtain ⟨dc, g1, g2⟩ := u.get hc
    cases g2 with
    | lst k1 k2 =>
      rename_i l es
      refine ⟨ds, l, es, e1, g1, k1, k2.length, ?_⟩
      intro es' u' hlow
      have hnr : ¬ Rt eD eV l := (e3 l (.tup (List.mem_of_getElem? g1) .ref)).2
      refine I.after h0 (by rw [I.len, List.length_set, forget_len]) i (.b (.tup (ts.set c (.lst xs')))) ?_ ?_ e1 ?_ ?_
      · intro k v hk
        by_cases hki : k = i
        · right
          subst hki
          unfold lk at hk
          rw [List.getElem?_set_self (by rw [forget_len]; exact hil)] at hk
          cases hk; exact ⟨rfl, rfl⟩
        · left
          unfold lk at hk
          rw [List.getElem?_set_ne (fun z => hki z.symm)] at hk
          obtain ⟨q1, q2⟩ := lk_forget hks hk
          exact ⟨q1, q2, rfl, hki⟩
      · intro x hx
        exact get_set_ne (fun z => hnr (z ▸ hx))
      · -- the tree
        have hstay : ∀ e t, Un st e t → (∀ x, Hit st e x → x ≠ l) → Un (st.set l (.lst es')) e t := fun e t ue hne => (ue.stay (fun x hx => get_set_ne (hne x hx))).1
        have hes : Uns (st.set l (.lst es')) es' xs' := (u'.stay (fun e he x hx => get_set_ne (hlow e he x hx).2)).1
        refine .tup ?_
        have hset : ds = ds.set c (.ref l) := by
          apply List.ext_getElem?
          intro k
          by_cases hk : k = c
          · subst hk
            have hkl : k < ds.length := by
              apply Classical.byContradiction
              intro hn
              rw [List.getElem?_eq_none (by omega)] at g1; cases g1
            rw [List.getElem?_set_self hkl]; exact g1
          · rw [List.getElem?_set_ne (fun z => hk z.symm)]
        -- by items
        have gen : ∀ (ds : List D) (ts : List T) (k : Nat), Uns st ds ts → (∀ q d, ds[q]? = some d → q + k ≠ c → ∀ x, ¬ Hit st d x) → (∀ q d, ds[q]? = some d → q + k = c → d = .ref l) → Uns (st.set l (.lst es')) ds (if k ≤ c then ts.set (c - k) (.lst xs') else ts) := by
          intro ds
          induction ds with
          | nil => intro ts k u h1 h2; cases u; simp; exact .nil
          | cons d ds ih =>
            intro ts k u h1 h2
            cases u with
            | cons ud us =>
              rename_i t ts
              have ihh := ih ts (k + 1) us (fun q d hq hne => h1 (q + 1) d (by simpa using hq) (by omega)) (fun q d hq he => h2 (q + 1) d (by simpa using hq) (by omega))
              by_cases hk : k = c
              · subst hk
                rw [if_pos (Nat.le_refl _), Nat.sub_self, List.set_cons_zero]
                rw [if_neg (by omega)] at ihh
                have hd := h2 0 d rfl (by omega)
                subst hd
                exact .cons (.lst (get_set_self k1) hes) ihh
              · have hno := h1 0 d rfl (by omega)
                have hd' := hstay d t ud (fun x hx => absurd hx (hno x))
                by_cases hkc : k ≤ c
                · rw [if_pos hkc]
                  rw [if_pos (by omega)] at ihh
                  have : c - k = (c - (k + 1)) + 1 := by omega
                  rw [this, List.set_cons_succ]
                  exact .cons hd' ihh
                · rw [if_neg hkc]
                  rw [if_neg (by omega)] at ihh
                  exact .cons hd' ihh
        have := gen ds ts 0 u (fun q d hq hne => flats_set_hit u hf q d hq (by omega)) (fun q d hq he => by
          have : q = c := by omega
          subst this
          rw [g1] at hq; exact (Option.some.inj hq).symm)
        rw [if_pos (Nat.zero_le _), Nat.sub_zero] at this
        exact this
      · left
        refine ⟨_, rfl, ?_⟩
        intro x hx hroot
        -- what is come to was come to before
        have : Hit st (.tup ds) x := by
          cases hx with
          | tup hm hh =>
            rename_i dd
            obtain ⟨q, hq⟩ := List.getElem?_of_mem hm
            by_cases hqc : q = c
            · subst hqc
              rw [g1] at hq
              have := Option.some.inj hq
              subst this
              cases hh with
              | ref => exact .tup hm .ref
              | lst m1 m2 m3 =>
                rw [get_set_self k1] at m1
                cases m1
                rename_i e
                have hst := (u'.stay (st' := st.set l (.lst es')) (fun e he x hx => get_set_ne (hlow e he x hx).2)).2 e m2 x m3
                exact .tup hm (hlow e m2 x hst).1
              | dct m1 m2 m3 => rw [get_set_self k1] at m1; cases m1
            · have hno := flats_set_hit u hf q dd hq hqc
              obtain ⟨t', -, ut⟩ := u.mem_left dd (List.mem_of_getElem? hq)
              have hst := (ut.stay (st' := st.set l (.lst es')) (fun x hx => absurd hx (hno x))).2 x hh
              exact absurd hst (hno x)
        exact (e3 x this).2 hroot
end Ev

namespace Ev
open PySem
section
variable {a : Act} {st : Sto} {eD : En} {eV eV' : VEn} {scl : Calls} {w : Nat}
theorem ev_ixc {i c : Nat} {ds : List D} {l : Nat} (h1 : eD.val i = some (.tup ds)) (h2 : ds[c]? = some (.ref l)) : evalE scl (.ix (.var i) (.cst (.int c))) eD st = .ok (.ref l) st := by
  rw [evalE, evalE, h1]
  simp only [Res.of_some, Res.bind_ok, evalE]
  have hc : c < ds.length := by
    apply Classical.byContradiction
    intro hn
    rw [List.getElem?_eq_none (by omega)] at h2; cases h2
  have : ixD (.tup ds) (.int c) st = some (.ref l) := by
    show (seqOf st (.tup ds)).bind (fun xs => item xs c) = _
    show item ds c = _
    unfold item place
    rw [if_pos (by omega), if_pos (by omega)]
    simpa using h2
  rw [this]; rfl
theorem clr_ok (I : EI a st eD eV) (h0 : a.n0 = 0) {i c : Nat} {ks : List Nat} (h : pV (.clr i c ks) eV = some eV') : ∃ st', execS scl w (Pth.clr i c ks).toS eD st = .nx eD st' ∧ EI a st' eD eV' := by
  simp only [pV] at h
  split at h
  · rename_i ts hi
    split at h
    · rename_i xs hc
      split at h
      · rename_i hcond
        cases h
        obtain ⟨ds, l, es, e1, e2, e3, -, k⟩ := tup_chg I h0 hcond.2.2 (xs' := []) hi hc hcond.1 hcond.2.1
        refine ⟨st.set l (.lst []), ?_, k [] .nil (fun e he => by cases he)⟩
        show execS scl w (.exp (.mt .clear (.ix (.var i) (.cst (.int c))) [])) eD st = _
        rw [execS, evalE, ev_ixc e1 e2]
        have hk : kindM .clear st (.ref l) = some .l := by simp [kindM, kindD, e3, mtOk]
        simp only [Res.bind_ok, hk, Res.of_some, evalEs]
        simp [mt, e3, mtL]
      · cases h
    · cases h
  · cases h
theorem apn_ok (I : EI a st eD eV) (h0 : a.n0 = 0) {i c : Nat} {ks : List Nat} (h : pV (.apn i c ks) eV = some eV') : ∃ st', execS scl w (Pth.apn i c ks).toS eD st = .nx eD st' ∧ EI a st' eD eV' := by
  simp only [pV] at h
  split at h
  · rename_i ts hi
    split at h
    · rename_i xs hc
      split at h
      · rename_i hcond
        cases h
        obtain ⟨ds, l, es, e1, e2, e3, e4, k⟩ := tup_chg I h0 hcond.2.2.1 (xs' := xs ++ [.non]) hi hc hcond.1 hcond.2.1
        obtain ⟨d, f1, f2, f3⟩ := I.slot i _ hi
        rw [e1] at f1
        cases f1
        simp only [VS.t] at f2
        cases f2 with
        | tup u =>
          obtain ⟨dc, g1, g2⟩ := u.get hc
          rw [e2] at g1
          cases g1
          have hll := g2.loopless
          cases g2 with
          | lst k1 k2 =>
            rw [e3] at k1
            cases k1
            refine ⟨st.set l (.lst (es ++ [.non])), ?_, k _ (k2.append (.cons .non .nil)) ?_⟩
            · show execS scl w (.exp (.mt .append (.ix (.var i) (.cst (.int c))) [.cst .non])) eD st = _
              rw [execS, evalE, ev_ixc e1 e2]
              have hk : kindM .append st (.ref l) = some .l := by simp [kindM, kindD, e3, mtOk]
              simp only [Res.bind_ok, hk, Res.of_some, evalEs, evalE]
              have hl : es.length < line := by rw [e4]; exact hcond.2.2.2
              have hl' : es.length < 16777216 := hl
              simp [mt, e3, mtL, hl', line]
            · intro e he x hx
              rcases List.mem_append.mp he with he | he
              · refine ⟨.lst e3 he hx, ?_⟩
                rintro rfl
                exact hll ⟨_, _, e3, he, hx⟩
              · simp at he; subst he; cases hx
      · cases h
    · cases h
  · cases h
/-- all lists of a list, emptied -/
theorem fclr_ok (I : EI a st eD eV) (h0 : a.n0 = 0) {j i : Nat} {ks : List Nat} (h : pV (.fclr j i ks) eV = some eV') : ∃ eD' st', execS scl w (Pth.fclr j i ks).toS eD st = .nx eD' st' ∧ EI a st' eD' eV' := by
  simp only [pV] at h
  split at h
  · rename_i ts hi
    split at h
    · rename_i hcond
      cases h
      obtain ⟨hij, hall, hj, hil, hks⟩ := hcond
      obtain ⟨d, e1, e2, e3⟩ := I.slot i _ hi
      obtain ⟨l, rfl, -, elow⟩ := e3
      simp only [VS.t] at e2
      cases e2 with
      | lst k1 k2 =>
        rename_i ds
        have hroot : Rt eD eV l := ⟨i, _, hi, rfl, e1⟩
        -- items are lists, none a root
        have hits : ∀ d ∈ ds, ∃ x es, d = .ref x ∧ st[x]? = some (.lst es) ∧ ¬ Rt eD eV x := by
          intro d hd
          obtain ⟨t, ht, ut⟩ := k2.mem_left d hd
          have hl := List.all_eq_true.mp hall t ht
          cases ut with
          | lst q1 q2 => exact ⟨_, _, rfl, q1, (elow _ ⟨_, _, k1, hd, .ref⟩).2⟩
          | _ => simp [isLst] at hl
        have loop : ∀ (n : Nat) (rest : List D) (e : En) (s : Sto), (∀ d ∈ rest, d ∈ ds) → e.length = eD.length → (∀ k, k ≠ j → e.val k = eD.val k) → (∀ x, Rt eD eV x → s[x]? = st[x]?) → s.length = st.length → (∀ d ∈ ds, ∃ x es, d = .ref x ∧ s[x]? = some (.lst es)) →
            (∀ d ∈ ds, d ∈ rest ∨ ∃ x, d = .ref x ∧ s[x]? = some (.lst [])) →
            ∃ e' s', loopF (fun st => bindT st (.nm j)) (fun env st => execSs scl w [.exp (.mt .clear (.var j) [])] env st) [(l, .lst ds)] rest e s = .nx e' s' ∧ e'.length = eD.length ∧ (∀ k, k ≠ j → e'.val k = eD.val k) ∧ (∀ x, Rt eD eV x → s'[x]? = st[x]?) ∧ s'.length = st.length ∧ (∀ d ∈ ds, ∃ x, d = .ref x ∧ s'[x]? = some (.lst [])) := by
          intro n rest
          induction rest with
          | nil =>
            intro e s hsub hel hev hrt hsl hls hdone
            have hstill : still [(l, .lst ds)] s = true := by simp [still, hrt l hroot, k1]
            rw [loopF, if_pos hstill]
            refine ⟨e, s, rfl, hel, hev, hrt, hsl, fun d hd => ?_⟩
            rcases hdone d hd with h | h
            · cases h
            · exact h
          | cons d rest ih =>
            intro e s hsub hel hev hrt hsl hls hdone
            have hstill : still [(l, .lst ds)] s = true := by simp [still, hrt l hroot, k1]
            obtain ⟨x, es, rfl, hx⟩ := hls d (hsub d List.mem_cons_self)
            have hnr : ¬ Rt eD eV x := by
              obtain ⟨x', es', e', -, hn⟩ := hits (.ref x) (hsub _ List.mem_cons_self)
              cases e'; exact hn
            rw [loopF, if_pos hstill]
            have hb : bindT s (.nm j) (.ref x) e = some (e.set j (some (.ref x))) := by rw [bindT]
            simp only [hb]
            have hv : En.val (e.set j (some (D.ref x))) j = some (D.ref x) := by
              unfold En.val
              rw [List.getElem?_set_self (by rw [hel, I.len]; exact hj)]; rfl
            have hbody : execSs scl w [.exp (.mt .clear (.var j) [])] (e.set j (some (.ref x))) s = .nx (e.set j (some (.ref x))) (s.set x (.lst [])) := by
              rw [execSs, execS, evalE, evalE, hv]
              have hk : kindM .clear s (.ref x) = some .l := by simp [kindM, kindD, hx, mtOk]
              simp only [Res.of_some, Res.bind_ok, hk, evalEs]
              simp [mt, hx, mtL, execSs]
            simp only [hbody]
            refine ih (e.set j (some (.ref x))) (s.set x (.lst [])) (fun d hd => hsub d (List.mem_cons_of_mem _ hd)) (by rw [List.length_set]; exact hel) ?_ ?_ (by rw [List.length_set]; exact hsl) ?_ ?_
            · intro k hk
              unfold En.val
              rw [List.getElem?_set_ne (fun z => hk z.symm)]
              exact hev k hk
            · intro y hy
              have hyx : y ≠ x := fun z => hnr (z ▸ hy)
              rw [get_set_ne hyx]; exact hrt y hy
            · intro d hd
              obtain ⟨y, es', rfl, hy⟩ := hls d hd
              by_cases hyx : y = x
              · subst hyx; exact ⟨y, [], rfl, get_set_self hx⟩
              · exact ⟨y, es', rfl, by rw [get_set_ne hyx]; exact hy⟩
            · intro d hd
              rcases hdone d hd with h | ⟨y, rfl, hy⟩
              · rcases List.mem_cons.mp h with h | h
                · exact .inr ⟨x, h, get_set_self hx⟩
                · exact .inl h
              · right
                by_cases hyx : y = x
                · subst hyx; exact ⟨y, rfl, get_set_self hx⟩
                · exact ⟨y, rfl, by rw [get_set_ne hyx]; exact hy⟩
        obtain ⟨e', s', q1, q2, q3, q4, q5, q6⟩ := loop 0 ds eD st (fun d hd => hd) rfl (fun _ _ => rfl) (fun _ _ => rfl) rfl (fun d hd => by
          obtain ⟨x, es, h1, h2, -⟩ := hits d hd
          exact ⟨x, es, h1, h2⟩) (fun d hd => .inl hd)
        refine ⟨e', s', ?_, ?_⟩
        · show execS scl w (.fo (.nm j) (.seq (.var i)) [.exp (.mt .clear (.var j) [])]) eD st = _
          rw [execS, evalI, evalE, e1]
          have hw : walkD st (.ref l) = some ⟨ds, [(l, .lst ds)]⟩ := by simp [walkD, k1]
          simp only [Res.of_some, Res.bind_ok, hw, Res.fl_ok]
          exact q1
        · have k1' : s'[l]? = some (.lst ds) := by rw [q4 l hroot]; exact k1
          refine I.after h0 (by rw [q2, I.len]; simp [forget_len]) i (.s (.lst (ts.map fun _ => .lst []))) ?_ q4 (d0 := .ref l) (by rw [q3 i hij]; exact e1) ?_ ?_
          · intro k v hk
            have hkj : k ≠ j := by
              rintro rfl
              unfold lk at hk
              rw [List.getElem?_set_self (by simp [forget_len]; exact hj)] at hk
              cases hk
            unfold lk at hk
            rw [List.getElem?_set_ne (fun z => hkj z.symm)] at hk
            by_cases hki : k = i
            · right
              subst hki
              rw [List.getElem?_set_self (by simp [forget_len]; exact hil)] at hk
              cases hk; exact ⟨rfl, rfl⟩
            · left
              rw [List.getElem?_set_ne (fun z => hki z.symm)] at hk
              obtain ⟨p1, p2⟩ := lk_forget hks hk
              exact ⟨p1, p2, q3 k hkj, hki⟩
          · simp only [VS.t]
            refine .lst k1' ?_
            have gen : ∀ (ds : List D) (ts : List T), ds.length = ts.length → (∀ d ∈ ds, ∃ x, d = .ref x ∧ s'[x]? = some (.lst [])) → Uns s' ds (ts.map fun _ => .lst []) := by
              intro ds
              induction ds with
              | nil => intro ts hl _; cases ts with | nil => exact .nil | cons => cases hl
              | cons d ds ih =>
                intro ts hl hd
                cases ts with
                | nil => cases hl
                | cons t ts =>
                  obtain ⟨x, rfl, hx⟩ := hd d List.mem_cons_self
                  exact .cons (.lst hx .nil) (ih ts (by simpa using hl) (fun d hd' => hd d (List.mem_cons_of_mem _ hd')))
            exact gen ds ts k2.length q6
          · right
            refine ⟨_, .lst ts, l, rfl, rfl, hi, e1, ?_⟩
            intro x hx
            obtain ⟨o, dd, m1, m2, m3⟩ := hx
            rw [k1'] at m1
            cases m1
            obtain ⟨y, rfl, hy⟩ := q6 dd m2
            obtain ⟨y', es', e', -, hn⟩ := hits _ m2
            cases e'
            cases m3 with
            | ref => exact hn
            | lst n1 n2 n3 => rw [hy] at n1; cases n1; cases n2
            | dct n1 n2 n3 => rw [hy] at n1; cases n1
    · cases h
  · cases h
end
theorem pth_ok {a : Act} {st : Sto} {eD : En} {eV eV' : VEn} {scl : Calls} {w : Nat} (I : EI a st eD eV) (h0 : a.n0 = 0) {p : Pth} (h : pV p eV = some eV') : ∃ eD' st', execS scl w p.toS eD st = .nx eD' st' ∧ EI a st' eD' eV' := by
  cases p with
  | fclr j i ks => exact fclr_ok I h0 h
  | clr i c ks => obtain ⟨st', h1, h2⟩ := clr_ok (scl := scl) (w := w) I h0 h; exact ⟨eD, st', h1, h2⟩
  | apn i c ks => obtain ⟨st', h1, h2⟩ := apn_ok (scl := scl) (w := w) I h0 h; exact ⟨eD, st', h1, h2⟩
/-! ### the top -/
inductive Seg where
  | st (ss : List S) | pt (p : Pth)
def segS : List Seg → List S
  | [] => []
  | .st ss :: r => ss ++ segS r
  | .pt p :: r => p.toS :: segS r
def vTop (cl : VCl) (w : Nat) : List Seg → VEn → VFl
  | [], env => .nx env
  | .st ss :: r, env => (vSs cl w ss env).andThen (vTop cl w r)
  | .pt p :: r, env => match pV p env with
    | some env' => vTop cl w r env'
    | none => .bad
theorem top_ok {a : Act} {cl : VCl} {scl : Calls} {w : Nat} (hs : ∀ f, FnSim (cl.ms f) (cl.go f) (scl f)) (h0 : a.n0 = 0) : ∀ (g : List Seg) (st : Sto) (eD : En) (eV : VEn), EI a st eD eV → ∀ {t : T} {fr : Bool} {e : VEn}, vTop cl w g eV = .rt t fr e → ∃ d st', execSs scl w (segS g) eD st = .rt d st' ∧ Un st' d t
  | [], st, eD, eV, I, t, fr, e, h => by cases h
  | .st ss :: r, st, eD, eV, I, t, fr, e, h => by
    rw [vTop] at h
    rw [segS, execSs_app]
    have hb := okSs (a := a) (cl := cl) (scl := scl) w hs ss st eD eV I
    cases hr : vSs cl w ss eV with
    | nx eV1 =>
      rw [hr] at hb h
      obtain ⟨eD1, st1, e1, I1, -⟩ := hb
      rw [e1]
      exact top_ok hs h0 r st1 eD1 eV1 I1 h
    | rt t' fr' e' =>
      rw [hr] at hb h
      cases h
      obtain ⟨d, st', eD', e1, -, -, tm⟩ := hb
      rw [e1]
      exact ⟨d, st', rfl, tm.un⟩
    | ct => rw [hr] at h; cases h
    | exc => rw [hr] at h; cases h
    | bad => rw [hr] at h; cases h
  | .pt p :: r, st, eD, eV, I, t, fr, e, h => by
    rw [vTop] at h
    cases hp : pV p eV with
    | none => rw [hp] at h; cases h
    | some eV1 =>
      rw [hp] at h
      obtain ⟨eD1, st1, e1, I1⟩ := pth_ok (scl := scl) (w := w) I h0 hp
      rw [segS, execSs, e1]
      exact top_ok hs h0 r st1 eD1 eV1 I1 h
theorem law_of_top {Tb : List Fn} {M : List (List Mode)} {w k f : Nat} {ns : List Int} {F : Fn} {g : List Seg} (hF : Tb[f]? = some F) (hp : F.ps = 1) (hg : segS g = F.body) {b fr : Bool} {e : VEn} (h : vTop ⟨fun f => M.getD f [], vrun Tb M w k⟩ w g (some (.b (.scr ns)) :: List.replicate (F.ns - 1) none) = .rt (.bl b) fr e) : ∃ st, run Tb w (k + 1) f [.scr ns] [] = .ok (.bl b) st := by
  have hA : Args [] [.sh] [D.scr ns] [T.scr ns] [false] := .sh (.scr ns) .nil
  have hx : ∀ x, Io x [.sh] [D.scr ns] → ¬ Ft [] x [D.scr ns] [false] := fun x hx => by
    cases hx with
    | next hx => cases hx
  have hO : Once [.sh] [D.scr ns] [false] := .un .nil
  have I := door (F := F) hA hx hO
  obtain ⟨d, st', e1, u⟩ := top_ok (a := doorAct hA hx) (cl := ⟨fun f => M.getD f [], vrun Tb M w k⟩) (scl := run Tb w k) (w := w) (run_sim Tb M w k) rfl g [] (enter F [.scr ns]) _ I h
  refine ⟨st', ?_⟩
  rw [run]
  simp only [hF]
  rw [if_pos (by simp [hp]), ← hg, e1]
  cases u
  rfl
end Ev

/-! Plain laws of the evaluator over trees. -/
namespace Ev
open PySem
/-! ### results -/
section
variable {α β : Type} {env : VEn} {f : α → VEn → VR β} {g : α → VEn → VFl} {a : α}
@[simp] theorem vr_ok : (VR.ok a env).bind f = f a env := (rfl)
@[simp] theorem vr_bad : (VR.bad : VR α).bind f = .bad := (rfl)
@[simp] theorem vr_exc {c : Nat} {fs : List T} : (VR.exc c fs env : VR α).bind f = .exc c fs env := (rfl)
@[simp] theorem vr_of_some : VR.of (some a) env = .ok a env := (rfl)
@[simp] theorem vr_of_none : VR.of (none : Option α) env = .bad := (rfl)
@[simp] theorem vf_ok : (VR.ok a env).fl g = g a env := (rfl)
@[simp] theorem vf_bad : (VR.bad : VR α).fl g = .bad := (rfl)
@[simp] theorem vf_exc {c : Nat} {fs : List T} : (VR.exc c fs env : VR α).fl g = .exc c fs env := (rfl)
@[simp] theorem vr_ite {c : Prop} [Decidable c] {x y : VR α} : (if c then x else y).bind f = if c then x.bind f else y.bind f := by split <;> rfl
@[simp] theorem vf_ite {c : Prop} [Decidable c] {x y : VR α} : (if c then x else y).fl g = if c then x.fl g else y.fl g := by split <;> rfl
variable {k : VEn → VFl}
@[simp] theorem vfl_nx : (VFl.nx env).andThen k = k env := (rfl)
@[simp] theorem vfl_ct : (VFl.ct env).andThen k = .ct env := (rfl)
@[simp] theorem vfl_rt {t : T} {fr : Bool} : (VFl.rt t fr env).andThen k = .rt t fr env := (rfl)
@[simp] theorem vfl_exc {c : Nat} {fs : List T} : (VFl.exc c fs env).andThen k = .exc c fs env := (rfl)
@[simp] theorem vfl_bad : VFl.bad.andThen k = .bad := (rfl)
@[simp] theorem vft_nx : (VFl.nx env).turn k = k env := (rfl)
@[simp] theorem vft_ct : (VFl.ct env).turn k = k env := (rfl)
@[simp] theorem vft_rt {t : T} {fr : Bool} : (VFl.rt t fr env).turn k = .rt t fr env := (rfl)
@[simp] theorem vft_exc {c : Nat} {fs : List T} : (VFl.exc c fs env).turn k = .exc c fs env := (rfl)
@[simp] theorem vft_bad : VFl.bad.turn k = .bad := (rfl)
@[simp] theorem vfl_ite {c : Prop} [Decidable c] {x y : VFl} : (if c then x else y).andThen k = if c then x.andThen k else y.andThen k := by split <;> rfl
@[simp] theorem vft_ite {c : Prop} [Decidable c] {x y : VFl} : (if c then x else y).turn k = if c then x.turn k else y.turn k := by split <;> rfl
@[simp] theorem vo_nx {ms : List Mode} : (VFl.nx env).out ms = match outsM ms env with | some os => .ok .non false os | none => .bad := (rfl)
@[simp] theorem vo_rt {ms : List Mode} {t : T} {fr : Bool} : (VFl.rt t fr env).out ms = match outsM ms env with | some os => .ok t fr os | none => .bad := (rfl)
@[simp] theorem vo_exc {ms : List Mode} {c : Nat} {fs : List T} : (VFl.exc c fs env).out ms = match outsM ms env with | some os => .exc c fs os | none => .bad := (rfl)
@[simp] theorem vo_ite {ms : List Mode} {c : Prop} [Decidable c] {x y : VFl} : (if c then x else y).out ms = if c then x.out ms else y.out ms := by split <;> rfl
end
/-! ### slots -/
section
variable {env : VEn} {i j : Nat} {t : T} {v : VS}
@[simp] theorem lk_is : lk env i = (env[i]?).join := (rfl)
@[simp] theorem ldV_is : ldV env i = match (env[i]?).join with | some (.b t) => .ok (.v t false) env | some _ => .ok (.p i) env | none => .bad := (rfl)
@[simp] theorem peek_v {fr : Bool} : peek env (.v t fr) = some t := (rfl)
@[simp] theorem peek_p : peek env (.p i) = ((env[i]?).join).map VS.t := (rfl)
@[simp] theorem take_v {fr : Bool} : take env (.v t fr) = .ok t env := (rfl)
@[simp] theorem take_p : take env (.p i) = match (env[i]?).join with
    | some (.s t) => .ok t (env.set i (some (.b t)))
    | some (.r t) => if flat t then .ok t env else .bad
    | _ => .bad := (rfl)
/-- lent to be changed? -/
def isM : Option VS → Bool
  | some (.m _) => true
  | _ => false
@[simp] theorem isM_none : isM none = false := (rfl)
@[simp] theorem isM_s : isM (some (.s t)) = false := (rfl)
@[simp] theorem isM_l : isM (some (.l t)) = false := (rfl)
@[simp] theorem isM_r : isM (some (.r t)) = false := (rfl)
@[simp] theorem isM_b : isM (some (.b t)) = false := (rfl)
@[simp] theorem isM_m : isM (some (.m t)) = true := (rfl)
/-- a shared value, or none -/
def ob (o : Option T) : Option VS := o.map .b
@[simp] theorem isM_ob {o : Option T} : isM (ob o) = false := by cases o <;> rfl
theorem ob_some : some (.b t) = ob (some t) := (rfl)
theorem ob_none : none = ob none := (rfl)
@[simp] theorem stV_is : stV env i v = if isM ((env[i]?).join) = true then none else some (env.set i (some v)) := by
  unfold stV
  rw [lk_is]
  cases (env[i]?).join with
  | none => rfl
  | some x => cases x <;> rfl
@[simp] theorem t_s : (VS.s t).t = t := (rfl)
@[simp] theorem t_l : (VS.l t).t = t := (rfl)
@[simp] theorem t_m : (VS.m t).t = t := (rfl)
@[simp] theorem t_r : (VS.r t).t = t := (rfl)
@[simp] theorem t_b : (VS.b t).t = t := (rfl)
variable {u : T}
@[simp] theorem mut_s : (VS.s t).mut u = some (.s u) := (rfl)
@[simp] theorem mut_m : (VS.m t).mut u = some (.m u) := (rfl)
@[simp] theorem mut_l : (VS.l t).mut u = none := (rfl)
@[simp] theorem mut_r : (VS.r t).mut u = none := (rfl)
@[simp] theorem mut_b : (VS.b t).mut u = none := (rfl)
@[simp] theorem flat_tup {ts : List T} : flat (.tup ts) = flats ts := by rw [flat]
@[simp] theorem flat_int {i : Int} : flat (.int i) = true := by simp [flat]
@[simp] theorem flat_bl {b : Bool} : flat (.bl b) = true := by simp [flat]
@[simp] theorem flat_str {x : Str} : flat (.str x) = true := by simp [flat]
@[simp] theorem flat_non : flat .non = true := by simp [flat]
@[simp] theorem flat_lst {ts : List T} : flat (.lst ts) = false := by rw [flat]
@[simp] theorem flat_dct {ts : List (T × T)} : flat (.dct ts) = false := by rw [flat]
@[simp] theorem flat_scr {ns : List Int} : flat (.scr ns) = false := by rw [flat]
@[simp] theorem flats_nil : flats [] = true := by rw [flats]
@[simp] theorem flats_cons {ts : List T} : flats (t :: ts) = (flat t && flats ts) := by rw [flats]
@[simp] theorem bindV_nm : bindV (.nm i) t env = stV env i (.b t) := by rw [bindV]
theorem bindV_tp {ts : List Tg} {xs : List T} (h : seqT t = some xs) (hl : xs.length = ts.length) : bindV (.tp ts) t env = bindVs ts xs env := by rw [bindV, h]; simp [hl]
@[simp] theorem bindV_tup {ts : List Tg} {xs : List T} (hl : xs.length = ts.length) : bindV (.tp ts) (.tup xs) env = bindVs ts xs env := bindV_tp rfl hl
@[simp] theorem bindV_lst {ts : List Tg} {xs : List T} (hl : xs.length = ts.length) : bindV (.tp ts) (.lst xs) env = bindVs ts xs env := bindV_tp rfl hl
@[simp] theorem bindVs_nil {xs : List T} : bindVs [] xs env = some env := by rw [bindVs]
@[simp] theorem bindVs_cons {tg : Tg} {ts : List Tg} {xs : List T} : bindVs (tg :: ts) (t :: xs) env = (bindV tg t env).bind (bindVs ts xs) := by rw [bindVs]
@[simp] theorem wipeV_nil : wipeV env [] = env := by rw [wipeV]
@[simp] theorem wipeV_cons {vs : List Nat} : wipeV env (i :: vs) = (wipeV env vs).set i none := by rw [wipeV]
@[simp] theorem unlock_nil : unlock env [] = env := (rfl)
end
/-! ### expressions -/
section
variable {cl : VCl} {w : Nat} {env : VEn}
@[simp] theorem ve_var {i : Nat} : vE cl (.var i) env = ldV env i := by rw [vE]
@[simp] theorem ve_cst {c : D} : vE cl (.cst c) env = (VR.of (cstT c) env).bind fun t env => .ok (.v t false) env := by rw [vE]
@[simp] theorem cst_int {i : Int} : cstT (.int i) = some (.int i) := (rfl)
@[simp] theorem cst_bl {i : Bool} : cstT (.bl i) = some (.bl i) := (rfl)
@[simp] theorem cst_str {i : Str} : cstT (.str i) = some (.str i) := (rfl)
@[simp] theorem cst_non : cstT .non = some .non := (rfl)
@[simp] theorem ve_tup {es : List E} : vE cl (.tup es) env = (vTs cl es env).bind fun ts env => if ts.length ≤ 16777216 then .ok (.v (.tup ts) false) env else .bad := by rw [vE]; rfl
@[simp] theorem ve_lst {es : List E} : vE cl (.lst es) env = (vTs cl es env).bind fun ts env => (VR.of (okL ts) env).bind fun q env => .ok (.v q.1 q.2) env := by rw [vE]
@[simp] theorem ve_dct0 : vE cl .dct0 env = .ok (.v (.dct []) true) env := by rw [vE]
@[simp] theorem ve_dct1 {k v : E} : vE cl (.dct1 k v) env = (vE cl k env).bind fun o env => (take env o).bind fun x env => (vE cl v env).bind fun o env => (take env o).bind fun y env => if isKeyT x then .ok (.v (.dct [(x, y)]) true) env else .bad := by rw [vE]
@[simp] theorem ve_bin {op : Operator} {a b : E} : vE cl (.bin op a b) env = (vE cl a env).bind fun x env => (vE cl b env).bind fun y env => (VR.of (peek env x) env).bind fun x env => (VR.of (peek env y) env).bind fun y env => (VR.of (binT op x y) env).bind fun q env => .ok (.v q.1 q.2) env := by rw [vE]
@[simp] theorem ve_neg {a : E} : vE cl (.neg a) env = (vE cl a env).bind fun o env => (asIn env o).bind fun i env => .ok (.v (.int (-i)) false) env := by rw [vE]
@[simp] theorem ve_not {a : E} : vE cl (.not a) env = (vE cl a env).bind fun o env => (asBo env o).bind fun b env => .ok (.v (.bl (!b)) false) env := by rw [vE]
@[simp] theorem ve_cmp {op : CmpOp} {a b : E} : vE cl (.cmp op a b) env = (vE cl a env).bind fun x env => (vE cl b env).bind fun y env => (VR.of (peek env x) env).bind fun x env => (VR.of (peek env y) env).bind fun y env => (VR.of (cmpT op x y) env).bind fun b env => .ok (.v (.bl b) false) env := by rw [vE]
@[simp] theorem ve_chn {op op' : CmpOp} {a b c : E} : vE cl (.chn op op' a b c) env = (vE cl a env).bind fun x env => (vE cl b env).bind fun y env => (VR.of (peek env x) env).bind fun tx env => (VR.of (peek env y) env).bind fun ty env => (VR.of (cmpT op tx ty) env).bind fun k env =>
      if k = true then (vE cl c env).bind fun z env => (VR.of (peek env y) env).bind fun ty env => (VR.of (peek env z) env).bind fun tz env => (VR.of (cmpT op' ty tz) env).bind fun k env => .ok (.v (.bl k) false) env else .ok (.v (.bl false) false) env := by rw [vE]
@[simp] theorem ve_bop {op : BoolOp} {es : List E} : vE cl (.bop op es) env = vB cl op es env := by rw [vE]
@[simp] theorem ve_ite {c a b : E} : vE cl (.ite c a b) env = (vE cl c env).bind fun o env => (asBo env o).bind fun k env => if k = true then vE cl a env else vE cl b env := by rw [vE]
@[simp] theorem ve_fn {f : Nat} {es : List E} : vE cl (.fn f es) env = (vA cl (cl.ms f) es env).bind fun as env => callV cl f (cl.ms f) as env := by rw [vE]
@[simp] theorem ve_min2 {es : List E} : vE cl (.bi .min2 es) env = (vTs cl es env).bind fun ts env => (VR.of (biT .min2 ts) env).bind fun q env => .ok (.v q.1 q.2) env := by rw [vE]
@[simp] theorem ve_max2 {es : List E} : vE cl (.bi .max2 es) env = (vTs cl es env).bind fun ts env => (VR.of (biT .max2 ts) env).bind fun q env => .ok (.v q.1 q.2) env := by rw [vE]
theorem ve_bi {f : Bi} {es : List E} (h1 : f ≠ .min2) (h2 : f ≠ .max2) : vE cl (.bi f es) env = (vPs cl es env).bind fun os env => (VR.of (os.mapM (peek env)) env).bind fun ts env => (VR.of (biT f ts) env).bind fun q env => .ok (.v q.1 q.2) env := by
  rw [vE] <;> intro z <;> first | exact h1 z | exact h2 z
@[simp] theorem ve_bi1 {f : Bi} {e : E} (h1 : f ≠ .min2) (h2 : f ≠ .max2) : vE cl (.bi f [e]) env = (vE cl e env).bind fun o env => (VR.of (peek env o) env).bind fun x env => (VR.of (biT f [x]) env).bind fun q env => .ok (.v q.1 q.2) env := by
  rw [ve_bi h1 h2, vPs]
  cases vE cl e env with
  | ok o env => simp only [vr_ok, vPs, List.mapM_cons, List.mapM_nil]; cases peek env o <;> rfl
  | exc => rfl
  | bad => rfl
@[simp] theorem ve_divmod {a b : E} : vE cl (.bi .divmod [a, b]) env = (vE cl a env).bind fun x env => (vE cl b env).bind fun y env => (VR.of (peek env x) env).bind fun x env => (VR.of (peek env y) env).bind fun y env => (VR.of (biT .divmod [x, y]) env).bind fun q env => .ok (.v q.1 q.2) env := by
  rw [ve_bi (by decide) (by decide), vPs]
  cases vE cl a env with
  | ok o env =>
    simp only [vr_ok, vPs]
    cases vE cl b env with
    | ok o' env =>
      simp only [vr_ok, vPs, List.mapM_cons, List.mapM_nil]
      cases h : peek env o with
      | none => rfl
      | some x => cases h' : peek env o' <;> simp [h']
    | exc => rfl
    | bad => rfl
  | exc => rfl
  | bad => rfl
theorem ve_mtr {m : Mt} {o : E} {es : List E} (h : mtMut m = false) : vE cl (.mt m o es) env = (vE cl o env).bind fun x env => (VR.of (peek env x) env).bind fun t0 env => (VR.of (kM m t0) env).bind fun kd env => (vTs cl es env).bind fun ts env => (VR.of (peek env x) env).bind fun t env => if kM m t = some kd then (VR.of (mtT m t ts) env).bind fun q env => .ok (.v q.1 false) env else .bad := by
  rw [vE]; simp [h]
theorem ve_mtm {m : Mt} {i : Nat} {es : List E} (h : mtMut m = true) : vE cl (.mt m (.var i) es) env = (VR.of (lk env i) env).bind fun x0 env => (VR.of (x0.mut x0.t) env).bind fun _ env => (VR.of (kM m x0.t) env).bind fun kd env => (vTs cl es env).bind fun ts env => (VR.of (lk env i) env).bind fun x env => if kM m x.t = some kd then (VR.of (mtT m x.t ts) env).bind fun q env => (VR.of (x.mut q.2) env).bind fun y env => .ok (.v q.1 false) (env.set i (some y)) else .bad := by
  rw [vE]; simp [h, isVar]
@[simp] theorem ve_get1 {o : E} {es : List E} : vE cl (.mt .get1 o es) env = (vE cl o env).bind fun x env => (VR.of (peek env x) env).bind fun t0 env => (VR.of (kM .get1 t0) env).bind fun kd env => (vTs cl es env).bind fun ts env => (VR.of (peek env x) env).bind fun t env => if kM .get1 t = some kd then (VR.of (mtT .get1 t ts) env).bind fun q env => .ok (.v q.1 false) env else .bad := ve_mtr rfl
@[simp] theorem ve_get2 {o : E} {es : List E} : vE cl (.mt .get2 o es) env = (vE cl o env).bind fun x env => (VR.of (peek env x) env).bind fun t0 env => (VR.of (kM .get2 t0) env).bind fun kd env => (vTs cl es env).bind fun ts env => (VR.of (peek env x) env).bind fun t env => if kM .get2 t = some kd then (VR.of (mtT .get2 t ts) env).bind fun q env => .ok (.v q.1 false) env else .bad := ve_mtr rfl
@[simp] theorem ve_mut {m : Mt} {i : Nat} {es : List E} (h : mtMut m = true) : vE cl (.mt m (.var i) es) env = (VR.of (lk env i) env).bind fun x0 env => (VR.of (x0.mut x0.t) env).bind fun _ env => (VR.of (kM m x0.t) env).bind fun kd env => (vTs cl es env).bind fun ts env => (VR.of (lk env i) env).bind fun x env => if kM m x.t = some kd then (VR.of (mtT m x.t ts) env).bind fun q env => (VR.of (x.mut q.2) env).bind fun y env => .ok (.v q.1 false) (env.set i (some y)) else .bad := ve_mtm h
@[simp] theorem ve_ix {a b : E} : vE cl (.ix a b) env = (vE cl a env).bind fun x env => (vE cl b env).bind fun y env => (VR.of (peek env x) env).bind fun x env => (VR.of (peek env y) env).bind fun y env => (VR.of (ixT x y) env).bind fun t env => .ok (.v t false) env := by rw [vE]
@[simp] theorem ve_sl {a : E} {lo hi : Option E} : vE cl (.sl a lo hi) env = (vE cl a env).bind fun x env => (vO cl lo env).bind fun l env => (vO cl hi env).bind fun h env => (VR.of (peek env x) env).bind fun x env => (VR.of (slT x l h) env).bind fun t env => .ok (.v t true) env := by rw [vE]
@[simp] theorem ve_isi {a : E} {t : Ty} : vE cl (.isi a t) env = (vE cl a env).bind fun x env => (VR.of (peek env x) env).bind fun x env => (VR.of (isiT x t) env).bind fun b env => .ok (.v (.bl b) false) env := by rw [vE]
@[simp] theorem vts_nil : vTs cl [] env = .ok [] env := by rw [vTs]
@[simp] theorem vts_cons {e : E} {es : List E} : vTs cl (e :: es) env = (vE cl e env).bind fun o env => (take env o).bind fun t env => (vTs cl es env).bind fun ts env => .ok (t :: ts) env := by rw [vTs]
@[simp] theorem va_nil : vA cl [] [] env = .ok [] env := by rw [vA]
@[simp] theorem va_cons {md : Mode} {mds : List Mode} {e : E} {es : List E} : vA cl (md :: mds) (e :: es) env = (vE cl e env).bind fun o env => (argV md o env).bind fun a env => (vA cl mds es env).bind fun as env => .ok (a :: as) env := by rw [vA]
@[simp] theorem arg_sh {o : Opd} : argV .sh o env = (take env o).bind fun t env => .ok (.v t) env := by cases o <;> rfl
@[simp] theorem arg_rdv {t : T} {fr : Bool} : argV .rd (.v t fr) env = .ok (.v t) env := (rfl)
@[simp] theorem arg_rdp {i : Nat} : argV .rd (.p i) env = .ok (.p i) env := (rfl)
@[simp] theorem arg_ioT {t : T} : argV .io (.v t true) env = .ok (.n t) env := (rfl)
@[simp] theorem arg_iop {i : Nat} : argV .io (.p i) env = match (env[i]?).join with
    | some (.s _) => .ok (.p i) env
    | some (.m _) => .ok (.p i) env
    | _ => .bad := (rfl)
@[simp] theorem vo_none : vO cl none env = .ok none env := by rw [vO]
@[simp] theorem vo_some {e : E} : vO cl (some e) env = (vE cl e env).bind fun o env => (asIn env o).bind fun i env => .ok (some i) env := by rw [vO]
@[simp] theorem vb_one {op : BoolOp} {e : E} : vB cl op [e] env = (vE cl e env).bind fun o env => (asBo env o).bind fun b env => .ok (.v (.bl b) false) env := by rw [vB]
@[simp] theorem vb_and {e f : E} {es : List E} : vB cl .And (e :: f :: es) env = (vE cl e env).bind fun o env => (asBo env o).bind fun b env => if b = true then vB cl .And (f :: es) env else .ok (.v (.bl false) false) env := by rw [vB]
@[simp] theorem vb_or {e f : E} {es : List E} : vB cl .Or (e :: f :: es) env = (vE cl e env).bind fun o env => (asBo env o).bind fun b env => if b = true then .ok (.v (.bl true) false) env else vB cl .Or (f :: es) env := by rw [vB]
@[simp] theorem vt_nil : vTest cl [] env = .ok true env := by rw [vTest]
@[simp] theorem vt_one {e : E} : vTest cl [e] env = (vE cl e env).bind fun o env => asBo env o := by rw [vTest]
@[simp] theorem vi_seq {e : E} : vI cl (.seq e) env = (vE cl e env).bind fun o env => lockV env o seqT := by rw [vI]
@[simp] theorem vi_rng1 {a : E} : vI cl (.rng1 a) env = (vE cl a env).bind fun o env => (asIn env o).bind fun i env => (VR.of (rangeT 0 i) env).bind fun xs env => .ok ⟨xs, []⟩ env := by rw [vI]
@[simp] theorem vi_rng2 {a b : E} : vI cl (.rng2 a b) env = (vE cl a env).bind fun x env => (vE cl b env).bind fun y env => (asIn env x).bind fun i env => (asIn env y).bind fun j env => (VR.of (rangeT i j) env).bind fun xs env => .ok ⟨xs, []⟩ env := by rw [vI]
@[simp] theorem vi_enm {a : E} : vI cl (.enm a) env = (vE cl a env).bind fun o env => (lockV env o lisT).bind fun w env => .ok ⟨enumT w.xs, w.lks⟩ env := by rw [vI]
@[simp] theorem vi_zip {a b : E} : vI cl (.zip a b) env = (vE cl a env).bind fun x env => (vE cl b env).bind fun y env => (lockV env x lisT).bind fun w env => (lockV env y lisT).bind fun w' env => .ok ⟨zipT w.xs w'.xs, w.lks ++ w'.lks⟩ env := by rw [vI]
@[simp] theorem asBo_v {b fr : Bool} : asBo env (.v (.bl b) fr) = .ok b env := (rfl)
@[simp] theorem asIn_v {i : Int} {fr : Bool} : asIn env (.v (.int i) fr) = .ok i env := (rfl)
@[simp] theorem asBo_p {i : Nat} : asBo env (.p i) = match ((env[i]?).join).map VS.t with | some (.bl b) => .ok b env | _ => .bad := (rfl)
@[simp] theorem asIn_p {j : Nat} : asIn env (.p j) = match ((env[j]?).join).map VS.t with | some (.int i) => .ok i env | _ => .bad := (rfl)
@[simp] theorem lock_v {t : T} {fr : Bool} {f : T → Option (List T)} : lockV env (.v t fr) f = (VR.of (f t) env).bind fun xs env => .ok ⟨xs, []⟩ env := (rfl)
@[simp] theorem lock_p {i : Nat} {f : T → Option (List T)} : lockV env (.p i) f = match (env[i]?).join with
    | some (.s t) => (VR.of (f t) env).bind fun xs env => .ok ⟨xs, [i]⟩ (env.set i (some (.l t)))
    | some (.r t) => (VR.of (f t) env).bind fun xs env => .ok ⟨xs, []⟩ env
    | some (.l t) => (VR.of (f t) env).bind fun xs env => .ok ⟨xs, []⟩ env
    | _ => .bad := (rfl)
end
/-! ### calls -/
section
variable {cl : VCl} {env : VEn} {f : Nat}
@[simp] theorem argsT_nil : argsT env [] = some [] := (rfl)
@[simp] theorem argsT_v {t : T} {as : List Arg} : argsT env (.v t :: as) = (argsT env as).map (t :: ·) := (rfl)
@[simp] theorem argsT_n {t : T} {as : List Arg} : argsT env (.n t :: as) = (argsT env as).map (t :: ·) := (rfl)
@[simp] theorem argsT_p {i : Nat} {as : List Arg} : argsT env (.p i :: as) = match (env[i]?).join, argsT env as with | some x, some ts => some (x.t :: ts) | _, _ => none := (rfl)
@[simp] theorem aslots_nil : argSlots [] = [] := (rfl)
@[simp] theorem aslots_v {t : T} {as : List Arg} : argSlots (.v t :: as) = argSlots as := (rfl)
@[simp] theorem aslots_n {t : T} {as : List Arg} : argSlots (.n t :: as) = argSlots as := (rfl)
@[simp] theorem aslots_p {i : Nat} {as : List Arg} : argSlots (.p i :: as) = i :: argSlots as := (rfl)
@[simp] theorem ios_nil : ioSlots [] [] = [] := (rfl)
@[simp] theorem ios_sh {a : Arg} {ms : List Mode} {as : List Arg} : ioSlots (.sh :: ms) (a :: as) = ioSlots ms as := (rfl)
@[simp] theorem ios_rd {a : Arg} {ms : List Mode} {as : List Arg} : ioSlots (.rd :: ms) (a :: as) = ioSlots ms as := (rfl)
@[simp] theorem ios_iov {t : T} {ms : List Mode} {as : List Arg} : ioSlots (.io :: ms) (.v t :: as) = ioSlots ms as := (rfl)
@[simp] theorem ios_ion {t : T} {ms : List Mode} {as : List Arg} : ioSlots (.io :: ms) (.n t :: as) = ioSlots ms as := (rfl)
@[simp] theorem ios_iop {i : Nat} {ms : List Mode} {as : List Arg} : ioSlots (.io :: ms) (.p i :: as) = i :: ioSlots ms as := (rfl)
@[simp] theorem aok_nil : argsOk [] [] env = true := (rfl)
@[simp] theorem aok_shv {t : T} {ms : List Mode} {as : List Arg} : argsOk (.sh :: ms) (.v t :: as) env = argsOk ms as env := (rfl)
@[simp] theorem aok_rdv {t : T} {ms : List Mode} {as : List Arg} : argsOk (.rd :: ms) (.v t :: as) env = argsOk ms as env := (rfl)
@[simp] theorem aok_rdp {i : Nat} {ms : List Mode} {as : List Arg} : argsOk (.rd :: ms) (.p i :: as) env = (!(ioSlots ms as).contains i && argsOk ms as env) := (rfl)
@[simp] theorem aok_iop {i : Nat} {ms : List Mode} {as : List Arg} : argsOk (.io :: ms) (.p i :: as) env = (isMut ((env[i]?).join) && (!(argSlots as).contains i && argsOk ms as env)) := (rfl)
@[simp] theorem aok_ion {t : T} {ms : List Mode} {as : List Arg} : argsOk (.io :: ms) (.n t :: as) env = (as.isEmpty && argsOk ms as env) := (rfl)
@[simp] theorem ismut_s {t : T} : isMut (some (.s t)) = true := (rfl)
@[simp] theorem ismut_m {t : T} : isMut (some (.m t)) = true := (rfl)
variable {ms : List Mode} {as : List Arg} {os : List T} {o t : T} {i : Nat}
@[simp] theorem gb_nil : giveBack [] [] [] env = some env := by rw [giveBack]
@[simp] theorem gb_sh {a : Arg} : giveBack (.sh :: ms) (a :: as) os env = giveBack ms as os env := by rw [giveBack] <;> intros <;> simp_all
@[simp] theorem gb_rd {a : Arg} : giveBack (.rd :: ms) (a :: as) os env = giveBack ms as os env := by rw [giveBack] <;> intros <;> simp_all
@[simp] theorem gb_n : giveBack (.io :: ms) (.n t :: as) (o :: os) env = giveBack ms as os env := by rw [giveBack] <;> intros <;> simp_all
@[simp] theorem gb_p : giveBack (.io :: ms) (.p i :: as) (o :: os) env = match (env[i]?).join with
    | some x => match x.mut o with
      | some y => giveBack ms as os (env.set i (some y))
      | none => none
    | none => none := by rw [giveBack]; rfl
@[simp] theorem call_is : callV cl f ms as env = if argsOk ms as env then match argsT env as with
    | some ts => match cl.go f ts with
      | .ok t fr outs => match giveBack ms as outs env with
        | some env' => .ok (.v t fr) env'
        | none => .bad
      | .exc c fs outs => match giveBack ms as outs env with
        | some env' => .exc c fs env'
        | none => .bad
      | .bad => .bad
    | none => .bad
  else .bad := (rfl)
@[simp] theorem om_nil : outsM [] env = some [] := by rw [outsM]
@[simp] theorem om_sh {v : Option VS} : outsM (.sh :: ms) (v :: env) = outsM ms env := by rw [outsM] <;> intros <;> simp_all
@[simp] theorem om_rd {v : Option VS} : outsM (.rd :: ms) (v :: env) = outsM ms env := by rw [outsM] <;> intros <;> simp_all
@[simp] theorem om_io : outsM (.io :: ms) (some (.m t) :: env) = (outsM ms env).map (t :: ·) := by rw [outsM]
@[simp] theorem em_nil : enterM [] [] = [] := (rfl)
@[simp] theorem em_sh {ts : List T} : enterM (.sh :: ms) (t :: ts) = some (.b t) :: enterM ms ts := (rfl)
@[simp] theorem em_rd {ts : List T} : enterM (.rd :: ms) (t :: ts) = some (.r t) :: enterM ms ts := (rfl)
@[simp] theorem em_io {ts : List T} : enterM (.io :: ms) (t :: ts) = some (.m t) :: enterM ms ts := (rfl)
end
/-- how a def's arguments are handed over -/
def msAt (M : List (List Mode)) (f : Nat) : List Mode := M.getD f []
/-- a def -/
theorem vrun_fn {Tb : List Fn} {M : List (List Mode)} {w k f : Nat} {F : Fn} {ts : List T} {ms : List Mode} (h : Tb[f]? = some F) (hm : msAt M f = ms) (hl : ts.length = F.ps) (hl2 : ms.length = F.ps) :
    vrun Tb M w (k + 1) f ts = (vSs ⟨msAt M, vrun Tb M w k⟩ w F.body (enterM ms ts ++ List.replicate (F.ns - ts.length) none)).out ms := by
  have hm' : M.getD f [] = ms := hm
  rw [vrun]
  simp only [h, hm']
  rw [if_pos ⟨hl, hl2⟩]
  rfl
/-! ### statements -/
section
variable {cl : VCl} {w : Nat} {env : VEn}
@[simp] theorem vs_asg {i : Nat} {e : E} : vS cl w (.asg (.nm i) e) env = (vE cl e env).fl fun o env => asgV i o env := by rw [vS] <;> rfl
@[simp] theorem vs_asgt {ts : List Tg} {e : E} : vS cl w (.asg (.tp ts) e) env = (vE cl e env).fl fun o env => (VR.of (peek env o) env).fl fun x env => match bindV (.tp ts) x env with
      | some env' => .nx env'
      | none => .bad := by rw [vS] <;> rfl
@[simp] theorem asg_vT {i : Nat} {t : T} : asgV i (.v t true) env = match stV env i (.s t) with | some env' => .nx env' | none => .bad := (rfl)
@[simp] theorem asg_vF {i : Nat} {t : T} : asgV i (.v t false) env = match stV env i (.b t) with | some env' => .nx env' | none => .bad := (rfl)
@[simp] theorem asg_p {i j : Nat} : asgV i (.p j) env = (take env (.p j)).fl fun t env => match stV env i (.b t) with | some env' => .nx env' | none => .bad := (rfl)
@[simp] theorem vs_par {i j : Nat} {a b : E} : vS cl w (.par i j a b) env = (vE cl a env).fl fun x env => (take env x).fl fun x env => (vE cl b env).fl fun y env => (take env y).fl fun y env => match (stV env i (.b x)).bind fun env => stV env j (.b y) with
    | some env' => .nx env'
    | none => .bad := by rw [vS] <;> rfl
@[simp] theorem vs_put {j : Nat} {i e : E} : vS cl w (.put (.var j) i e) env = (vE cl e env).fl fun v env => (take env v).fl fun v env => (VR.of (lk env j) env).fl fun _ env => (vE cl i env).fl fun k env => (take env k).fl fun k env => (VR.of (lk env j) env).fl fun x env => (VR.of (putT x.t k v) env).fl fun t env => (VR.of (x.mut t) env).fl fun y env => .nx (env.set j (some y)) := by rw [vS]; rfl
@[simp] theorem vs_aug {i : Nat} {e : E} : vS cl w (.aug i .Add e) env = (ldV env i).fl fun x env => (vE cl e env).fl fun y env => (asIn env x).fl fun a env => (asIn env y).fl fun b env => match stV env i (.b (.int (a + b))) with
    | some env' => .nx env'
    | none => .bad := by
  rw [vS]
  congr 1; funext x env; congr 1; funext y env; congr 1; funext a env; congr 1; funext b env
  cases stV env i (.b (.int (a + b))) <;> rfl
@[simp] theorem vs_exp {e : E} : vS cl w (.exp e) env = (vE cl e env).fl fun _ env => .nx env := by rw [vS] <;> rfl
@[simp] theorem vs_ite {c : E} {a b : List S} : vS cl w (.ite c a b) env = ((vE cl c env).bind fun o env => asBo env o).fl fun k env => if k = true then vSs cl w a env else vSs cl w b env := by rw [vS] <;> rfl
theorem vs_fo {t : Tg} {it : I} {b : List S} : vS cl w (.fo t it b) env = (vI cl it env).fl fun its env => (loopV t (fun env => vSs cl w b env) its.xs env).andThen fun env => .nx (unlock env its.lks) := by rw [vS] <;> rfl
theorem vs_wh {c : E} {b : List S} : vS cl w (.wh c b) env = loopVW (fun env => (vE cl c env).bind fun o env => asBo env o) (fun env => vSs cl w b env) w env := by rw [vS] <;> rfl
@[simp] theorem vs_ret {e : E} : vS cl w (.ret e) env = (vE cl e env).fl fun o env => retV o env := by rw [vS] <;> rfl
@[simp] theorem ret_v {t : T} {fr : Bool} : retV (.v t fr) env = .rt t fr env := (rfl)
@[simp] theorem ret_p {i : Nat} : retV (.p i) env = match (env[i]?).join with
    | some (.s t) => .rt t true (env.set i none)
    | some (.r t) => if flat t then .rt t false env else .bad
    | _ => .bad := (rfl)
@[simp] theorem vs_retN : vS cl w .retN env = .rt .non false env := by rw [vS] <;> rfl
@[simp] theorem vs_con : vS cl w .con env = .ct env := by rw [vS] <;> rfl
@[simp] theorem vs_pas : vS cl w .pas env = .nx env := by rw [vS] <;> rfl
@[simp] theorem vs_rai {c : Nat} : vS cl w (.rai c []) env = .exc c [] env := by rw [vS] <;> rfl
@[simp] theorem vs_tri {rz : List Nat} {b : List S} {hs : List Hd} : vS cl w (.tri rz b hs) env = (vSs cl w b env).catch rz hs := by rw [vS] <;> rfl
@[simp] theorem vss_nil : vSs cl w [] env = .nx env := by rw [vSs]
@[simp] theorem vss_cons {s : S} {ss : List S} : vSs cl w (s :: ss) env = (vS cl w s env).andThen (vSs cl w ss) := by rw [vSs]
@[simp] theorem catch_nx {rz : List Nat} {hs : List Hd} : (VFl.nx env).catch rz hs = .nx env := (rfl)
@[simp] theorem catch_rt {rz : List Nat} {hs : List Hd} {t : T} {fr : Bool} : (VFl.rt t fr env).catch rz hs = .rt t fr env := (rfl)
@[simp] theorem catch_exc {rz : List Nat} {hs : List Hd} {c : Nat} : (VFl.exc c [] env).catch rz hs = if rz.contains c then handleV c [] env hs else .bad := by
  show (if rz.contains c && _ then _ else _) = _
  simp
@[simp] theorem hv_nil {c : Nat} {fs : List T} : handleV c fs env [] = .exc c fs env := by rw [handleV] <;> rfl
@[simp] theorem hv_cons {c : Nat} {fs : List T} {h : Hd} {hs : List Hd} : handleV c fs env (h :: hs) = if xsub c h.c then match wipeOV env h.n with
      | some env => (qVSs c h.b env).gone h.n
      | none => .bad
    else handleV c fs env hs := by rw [handleV] <;> rfl
@[simp] theorem wo_none : wipeOV env none = some env := (rfl)
@[simp] theorem wo_some {i : Nat} : wipeOV env (some i) = if isM ((env[i]?).join) = true then none else if i < env.length then some (env.set i none) else none := by
  unfold wipeOV
  simp only [lk_is]
  cases (env[i]?).join with
  | none => rfl
  | some x => cases x <;> rfl
@[simp] theorem gone_nx {n : Option Nat} : (VFl.nx env).gone n = match wipeOV env n with | some env => .nx env | none => .bad := (rfl)
@[simp] theorem gone_rt {n : Option Nat} {t : T} {fr : Bool} : (VFl.rt t fr env).gone n = .rt t fr env := (rfl)
variable {c : Nat}
@[simp] theorem vqs_nil : qVSs c [] env = .nx env := by rw [qVSs]
@[simp] theorem vqs_cons {s : QS} {ss : List QS} : qVSs c (s :: ss) env = (qVS c s env).andThen (qVSs c ss) := by rw [qVSs]
@[simp] theorem vqs_asg {i : Nat} {e : QE} : qVS c (.asg i e) env = match qV c env e with
    | some t => match stV env i (.b t) with
      | some env' => .nx env'
      | none => .bad
    | none => .bad := by rw [qVS] <;> rfl
@[simp] theorem vqs_ite {t : QE} {a : List QS} : qVS c (.ite t a) env = match qV c env t with
    | some (.bl b) => if b = true then qVSs c a env else .nx env
    | _ => .bad := by rw [qVS] <;> rfl
@[simp] theorem vqs_ret {e : QE} : qVS c (.ret e) env = match qV c env e with
    | some t => .rt t false env
    | none => .bad := by rw [qVS] <;> rfl
@[simp] theorem vqs_retN : qVS c .retN env = .rt .non false env := by rw [qVS] <;> rfl
@[simp] theorem vq_int {i : Int} : qV c env (.int i) = some (.int i) := by rw [qV] <;> rfl
@[simp] theorem vq_bl {b : Bool} : qV c env (.bl b) = some (.bl b) := by rw [qV] <;> rfl
@[simp] theorem vq_isx {cs : List XC} : qV c env (.isx cs) = some (.bl (cs.any (xis c))) := by rw [qV] <;> rfl
@[simp] theorem vq_var {i : Nat} : qV c env (.var i) = match (env[i]?).join with
    | some (.b t) => if flat t then some t else none
    | _ => none := by rw [qV]; rfl
@[simp] theorem vq_toI {a : QE} : qV c env (.toI a) = match qV c env a with
    | some (.bl b) => some (.int (if b = true then 1 else 0))
    | _ => none := by rw [qV] <;> rfl
@[simp] theorem vq_add {a b : QE} : qV c env (.add a b) = match qV c env a, qV c env b with
    | some (.int i), some (.int j) => some (.int (i + j))
    | _, _ => none := by rw [qV] <;> rfl
@[simp] theorem vq_mul {a b : QE} : qV c env (.mul a b) = match qV c env a, qV c env b with
    | some (.int i), some (.int j) => if mulOk i j then some (.int (i * j)) else none
    | _, _ => none := by rw [qV] <;> rfl
@[simp] theorem vq_or {a b : QE} : qV c env (.or a b) = match qV c env a, qV c env b with
    | some (.bl i), some (.bl j) => some (.bl (i || j))
    | _, _ => none := by rw [qV] <;> rfl
end
end Ev

/-! Plain data as trees; loops. -/
namespace Ev
open PySem
/-- plain data: its tree, its plain form -/
class Em (α : Type) [DecidableEq α] where
  t : α → T
  d : α → PyData
  n : Nat
  tp : ∀ a m, n ≤ m → tP m (t a) = some (d a)
  eqv : ∀ a b, PyData.eqv (d a) (d b) = decide (a = b)
instance : Em Int where
  t := .int
  d := .int
  n := 0
  tp := fun a m _ => by cases m <;> simp [tP]
  eqv := fun a b => by simp [PyData.eqv]; rfl
section
variable {α β : Type} [DecidableEq α] [DecidableEq β] [Em α] [Em β]
instance : Em (α × β) where
  t := fun p => .tup [Em.t p.1, Em.t p.2]
  d := fun p => .tuple [Em.d p.1, Em.d p.2]
  n := Nat.max (Em.n α) (Em.n β) + 1
  tp := fun a m h => by
    cases m with
    | zero => omega
    | succ m =>
      have h1 : Em.n α ≤ m := Nat.le_trans (Nat.le_max_left _ _) (Nat.le_of_succ_le_succ h)
      have h2 : Em.n β ≤ m := Nat.le_trans (Nat.le_max_right _ _) (Nat.le_of_succ_le_succ h)
      simp [tP, tPs, Em.tp _ _ h1, Em.tp _ _ h2]
  eqv := fun s t => by
    simp only [PyData.eqv, PyData.eqvAll, Em.eqv, Bool.and_true]
    by_cases h : s = t
    · subst h; simp
    · have h' : ¬ (s.1 = t.1 ∧ s.2 = t.2) := fun z => h (Prod.ext z.1 z.2)
      by_cases h1 : s.1 = t.1
      · have h2 : ¬ s.2 = t.2 := fun z => h' ⟨h1, z⟩
        simp [h, h2]
      · simp [h, h1]
theorem tPs_em {m : Nat} (h : Em.n α ≤ m) : ∀ as : List α, tPs m (as.map Em.t) = some (as.map Em.d)
  | [] => by simp [tPs]
  | a :: as => by simp [tPs, Em.tp a m h, tPs_em h as]
theorem eqvAll_em : ∀ as bs : List α, PyData.eqvAll (as.map Em.d) (bs.map Em.d) = decide (as = bs)
  | [], [] => by simp [PyData.eqvAll]
  | [], _ :: _ => by simp [PyData.eqvAll]
  | _ :: _, [] => by simp [PyData.eqvAll]
  | a :: as, b :: bs => by
    simp only [List.map_cons, PyData.eqvAll, Em.eqv, eqvAll_em as bs, List.cons.injEq]
    by_cases h : a = b <;> by_cases h' : as = bs <;> simp [h, h']
instance : Em (List α) where
  t := fun as => .lst (as.map Em.t)
  d := fun as => .list (as.map Em.d)
  n := Em.n α + 1
  tp := fun a m h => by
    cases m with
    | zero => omega
    | succ m => simp [tP, tPs_em (Nat.le_of_succ_le_succ h)]
  eqv := fun a b => by rw [PyData.eqv, eqvAll_em]
theorem em_int {i : Int} : Em.t i = T.int i := rfl
theorem em_pair {p : α × β} : Em.t p = T.tup [Em.t p.1, Em.t p.2] := rfl
theorem em_list {as : List α} : Em.t as = T.lst (as.map Em.t) := rfl
theorem em_inj {a b : α} (h : Em.t a = Em.t b) : a = b := by
  have e : some (Em.d a) = some (Em.d b) := by rw [← Em.tp a _ (Nat.le_refl _), ← Em.tp b _ (Nat.le_refl _), h]
  have e' : Em.d a = Em.d b := Option.some.inj e
  have := Em.eqv a b
  rw [e', Em.eqv b b] at this
  simpa using this.symm
theorem eqT_em (h : Em.n α ≤ deep) {a b : α} : eqT (Em.t a) (Em.t b) = some (decide (a = b)) := by
  simp [eqT, Em.tp _ _ h, Em.eqv]
theorem inT_em (h : Em.n α ≤ deep) {a : α} {as : List α} (hd : dctT (T.lst (as.map Em.t)) = none) : inT (Em.t a) (.lst (as.map Em.t)) = some (decide (a ∈ as)) := by
  unfold inT
  rw [hd]
  simp only [seqT, Option.bind_some, Em.tp _ _ h, tPs_em h, Option.some.injEq]
  induction as with
  | nil => simp
  | cons b as ih =>
    rw [List.map_cons, List.any_cons, ih rfl, Em.eqv]
    by_cases e : b = a
    · simp [e]
    · have e' : ¬ a = b := fun z => e z.symm
      simp [e, e']
end
@[simp] theorem n_int : Em.n Int = 0 := rfl
@[simp] theorem n_pt : Em.n Pt = 1 := rfl
@[simp] theorem n_sd : Em.n Sd = 2 := rfl
/-! ### points and pairs of points: pT, sT -/
abbrev pT (p : Pt) : T := Em.t p
abbrev sT (s : Sd) : T := Em.t s
section
variable {α β : Type} [DecidableEq α] [DecidableEq β] [Em α] [Em β] {env : VEn}
theorem fold_pT {a b : Int} : T.tup [.int a, .int b] = Em.t ((a, b) : Pt) := (rfl)
theorem fold_sT {p q : Pt} : T.tup [Em.t p, Em.t q] = Em.t ((p, q) : Sd) := (rfl)
@[simp] theorem seq_em {p : α × β} : seqT (Em.t p) = some [Em.t p.1, Em.t p.2] := (rfl)
@[simp] theorem bind_em {p : α × β} {a b : Tg} : bindV (.tp [a, b]) (Em.t p) env = bindVs [a, b] [Em.t p.1, Em.t p.2] env := bindV_tp rfl rfl
@[simp] theorem isi_em {p : α × β} {t : Ty} : isiT (Em.t p) t = some (decide (t = .tuple)) := by cases t <;> rfl
@[simp] theorem len_em {p : α × β} : biT .len [Em.t p] = some (.int 2, false) := (rfl)
@[simp] theorem place_0 {n : Nat} : place (n + 1) 0 = some 0 := by simp [place]
@[simp] theorem place_1 {n : Nat} : place (n + 2) 1 = some 1 := by simp [place]; omega
@[simp] theorem ix_em0 {p : α × β} : ixT (Em.t p) (.int 0) = some (Em.t p.1) := by
  show (seqT (Em.t p)).bind (fun xs => itemT xs 0) = _
  rw [seq_em]; rfl
@[simp] theorem ix_em1 {p : α × β} : ixT (Em.t p) (.int 1) = some (Em.t p.2) := by
  show (seqT (Em.t p)).bind (fun xs => itemT xs 1) = _
  rw [seq_em]; rfl
@[simp] theorem em_intS {i : Int} : (Em.t i : T) = .int i := (rfl)
@[simp] theorem flat_em {p : α × β} : flat (Em.t p) = (flat (Em.t p.1) && flat (Em.t p.2)) := by
  show flat (.tup [Em.t p.1, Em.t p.2]) = _
  simp
@[simp] theorem key_pT {p : Pt} : isKeyT (Em.t p) = true := (rfl)
@[simp] theorem key_sT {s : Sd} : isKeyT (Em.t s) = true := (rfl)
@[simp] theorem eq_pT {p q : Pt} : cmpT .Eq (Em.t p) (Em.t q) = some (decide (p = q)) := by
  simp only [cmpT]; exact eqT_em (by decide)
@[simp] theorem ne_pT {p q : Pt} : cmpT .NotEq (Em.t p) (Em.t q) = some (!decide (p = q)) := by
  simp only [cmpT]; rw [eqT_em (by decide)]; rfl
@[simp] theorem eq_sT {p q : Sd} : cmpT .Eq (Em.t p) (Em.t q) = some (decide (p = q)) := by
  simp only [cmpT]; exact eqT_em (by decide)
@[simp] theorem ne_sT {p q : Sd} : cmpT .NotEq (Em.t p) (Em.t q) = some (!decide (p = q)) := by
  simp only [cmpT]; rw [eqT_em (by decide)]; rfl
@[simp] theorem ltT_pT {p q : Pt} : ltT (Em.t p) (Em.t q) = some (decide (ltP p q)) := by
  unfold ltT
  rw [Em.tp p deep (by decide), Em.tp q deep (by decide)]
  have h1 : W.alike (Em.d p) (Em.d q) = true := alike_dP
  have h2 : W.dataLt (Em.d p) (Em.d q) = decide (ltP p q) := lt_dP
  have h3 : (Em.t p : T) ≠ .non := fun z => by rw [em_pair] at z; cases z
  simp only [h1, h2]
  rw [if_pos ⟨trivial, h3⟩]
@[simp] theorem ltT_sT {p q : Sd} : ltT (Em.t p) (Em.t q) = some (decide (ltS p q)) := by
  unfold ltT
  rw [Em.tp p deep (by decide), Em.tp q deep (by decide)]
  have h1 : W.alike (Em.d p) (Em.d q) = true := alike_dS
  have h2 : W.dataLt (Em.d p) (Em.d q) = decide (ltS p q) := lt_dS
  have h3 : (Em.t p : T) ≠ .non := fun z => by rw [em_pair] at z; cases z
  simp only [h1, h2]
  rw [if_pos ⟨trivial, h3⟩]
@[simp] theorem lt_pT {p q : Pt} : cmpT .Lt (Em.t p) (Em.t q) = some (decide (ltP p q)) := ltT_pT
@[simp] theorem lt_sT {p q : Sd} : cmpT .Lt (Em.t p) (Em.t q) = some (decide (ltS p q)) := ltT_sT
@[simp] theorem min_pT {p q : Pt} : biT .min2 [Em.t p, Em.t q] = some (if ltP q p then Em.t q else Em.t p, false) := by
  simp only [biT]; rw [ltT_pT]; simp
@[simp] theorem max_pT {p q : Pt} : biT .max2 [Em.t p, Em.t q] = some (if ltP p q then Em.t q else Em.t p, false) := by
  simp only [biT]; rw [ltT_pT]; simp
/-! ### plain values -/
variable {i j : Int}
@[simp] theorem eq_iT : cmpT .Eq (.int i) (.int j) = some (decide (i = j)) := by
  simp only [cmpT]; exact eqT_em (α := Int) (by decide)
@[simp] theorem ne_iT : cmpT .NotEq (.int i) (.int j) = some (!decide (i = j)) := by
  simp only [cmpT]; rw [← em_int, ← em_int, eqT_em (by decide)]; rfl
@[simp] theorem eq_bT {a b : Bool} : cmpT .Eq (.bl a) (.bl b) = some (decide (a = b)) := by cases a <;> cases b <;> simp [cmpT, eqT, tP, deep, PyData.eqv]
@[simp] theorem ne_bT {a b : Bool} : cmpT .NotEq (.bl a) (.bl b) = some (!decide (a = b)) := by cases a <;> cases b <;> simp [cmpT, eqT, tP, deep, PyData.eqv]
@[simp] theorem lt_iT : cmpT .Lt (.int i) (.int j) = some (decide (i < j)) := by simp [cmpT, ltT, tP, deep, W.alike, W.dataLt_int]
@[simp] theorem le_iT : cmpT .LtE (.int i) (.int j) = some (decide (i ≤ j)) := (rfl)
@[simp] theorem gt_iT : cmpT .Gt (.int i) (.int j) = some (decide (j < i)) := (rfl)
@[simp] theorem ge_iT : cmpT .GtE (.int i) (.int j) = some (decide (j ≤ i)) := (rfl)
@[simp] theorem is_nT {x : T} : cmpT .Is x .non = some (decide (x = .non)) := (rfl)
@[simp] theorem isn_nT {x : T} : cmpT .IsNot x .non = some (!decide (x = .non)) := (rfl)
@[simp] theorem in_T {x y : T} : cmpT .In x y = inT x y := (rfl)
@[simp] theorem nin_T {x y : T} : cmpT .NotIn x y = (inT x y).map (!·) := (rfl)
@[simp] theorem in_dT {x : T} {kvs : List (T × T)} : inT x (.dct kvs) = if isKeyT x then some (tGet kvs x).isSome else none := (rfl)
@[simp] theorem isi_nT {t : Ty} : isiT .non t = some false := (rfl)
@[simp] theorem isi_bT {b : Bool} {t : Ty} : isiT (.bl b) t = some (decide (t = .bool) || decide (t = .int)) := by cases t <;> rfl
@[simp] theorem isi_iT {t : Ty} : isiT (.int i) t = some (decide (t = .int)) := by cases t <;> rfl
@[simp] theorem isi_sT {x : Str} {t : Ty} : isiT (.str x) t = some (decide (t = .str)) := by cases t <;> rfl
@[simp] theorem isi_tT {ts : List T} {t : Ty} : isiT (.tup ts) t = some (decide (t = .tuple)) := by cases t <;> rfl
@[simp] theorem isi_lT {ts : List T} {t : Ty} : isiT (.lst ts) t = some (decide (t = .list)) := by cases t <;> rfl
@[simp] theorem isi_rT {ns : List Int} {t : Ty} : isiT (.scr ns) t = some (decide (t = .list)) := by cases t <;> rfl
@[simp] theorem bin_iT {op : Operator} : binT op (.int i) (.int j) = (binP op i j).map fun k => (.int k, false) := (rfl)
@[simp] theorem binP_add : binP .Add i j = some (i + j) := (rfl)
@[simp] theorem binP_sub : binP .Sub i j = some (i - j) := (rfl)
@[simp] theorem binP_and : binP .BitAnd i j = some (Builtin.bitAnd i j) := (rfl)
@[simp] theorem binP_or : binP .BitOr i j = some (Builtin.bitOr i j) := (rfl)
@[simp] theorem binP_xor : binP .BitXor i j = some (Builtin.bitXor i j) := (rfl)
theorem binP_mod (h : 0 < j) : binP .Mod i j = some (i % j) := by simp [binP, h]
theorem binP_div (h : 0 < j) (h2 : j < 2 ^ 250) : binP .FloorDiv i j = some (i / j) := by simp [binP, divOk_of h h2]
theorem binP_mul (h : mulOk i j = true) : binP .Mult i j = some (i * j) := by simp [binP, h]
theorem binP_mulL (h : -(2 ^ 64) < i) (h2 : i < 2 ^ 64) : binP .Mult i j = some (i * j) := binP_mul (mulOk_l h h2)
theorem binP_mulR (h : -(2 ^ 64) < j) (h2 : j < 2 ^ 64) : binP .Mult i j = some (i * j) := binP_mul (mulOk_r h h2)
theorem binP_pow (h : powOk i j = true) : binP .Pow i j = some (i ^ j.toNat) := by simp [binP, h]
theorem binP_shl (h : powOk i j = true) : binP .LShift i j = some (i * 2 ^ j.toNat) := by simp [binP, h]
theorem binP_shr (h : 0 ≤ j) : binP .RShift i j = some (i / 2 ^ j.toNat) := by simp [binP, h]
theorem okL_ok {xs : List T} (h : xs.length ≤ 16777216) : okL xs = some (.lst xs, true) := by simp [okL, h]
@[simp] theorem add_lT {xs ys : List T} : binT .Add (.lst xs) (.lst ys) = okL (xs ++ ys) := (rfl)
@[simp] theorem add_lrT {xs : List T} {ns : List Int} : binT .Add (.lst xs) (.scr ns) = okL (xs ++ ns.map .int) := (rfl)
@[simp] theorem len_tT {ts : List T} : biT .len [.tup ts] = some (.int ts.length, false) := (rfl)
@[simp] theorem len_lT {ts : List T} : biT .len [.lst ts] = some (.int ts.length, false) := (rfl)
@[simp] theorem len_rT {ns : List Int} : biT .len [.scr ns] = some (.int ns.length, false) := by
  show some (T.int ((ns.map T.int).length : Nat), false) = _
  simp
@[simp] theorem len_dT {kvs : List (T × T)} : biT .len [.dct kvs] = some (.int kvs.length, false) := (rfl)
@[simp] theorem abs_T : biT .abs [.int i] = some (.int (if i < 0 then -i else i), false) := (rfl)
@[simp] theorem int_iT : biT .int [.int i] = some (.int i, false) := (rfl)
@[simp] theorem int_bT {b : Bool} : biT .int [.bl b] = some (.int (if b = true then 1 else 0), false) := (rfl)
@[simp] theorem list_lT {ts : List T} : biT .list [.lst ts] = okL ts := (rfl)
@[simp] theorem list_tT {ts : List T} : biT .list [.tup ts] = okL ts := (rfl)
@[simp] theorem tuple_lT {ts : List T} : biT .tuple [.lst ts] = some (.tup ts, false) := (rfl)
@[simp] theorem seq_lT {ts : List T} : seqT (.lst ts) = some ts := (rfl)
@[simp] theorem seq_tT {ts : List T} : seqT (.tup ts) = some ts := (rfl)
@[simp] theorem seq_rT {ns : List Int} : seqT (.scr ns) = some (ns.map .int) := (rfl)
@[simp] theorem lis_lT {ts : List T} : lisT (.lst ts) = some ts := (rfl)
@[simp] theorem lis_rT {ns : List Int} : lisT (.scr ns) = some (ns.map .int) := (rfl)
@[simp] theorem ix_tT {ts : List T} : ixT (.tup ts) (.int i) = itemT ts i := (rfl)
@[simp] theorem ix_lT {ts : List T} : ixT (.lst ts) (.int i) = itemT ts i := (rfl)
@[simp] theorem ix_rT {ns : List Int} : ixT (.scr ns) (.int i) = itemT (ns.map .int) i := (rfl)
@[simp] theorem ix_dT {kvs : List (T × T)} {k : T} : ixT (.dct kvs) k = if isKeyT k then tGet kvs k else none := (rfl)
end
/-! ### loops -/
theorem loopV_inv {tg : Tg} {body : VEn → VFl} {xs : List T} (Inv : Nat → VEn → Prop)
    (hs : ∀ i env (h : i < xs.length), Inv i env → ∃ env1, bindV tg xs[i] env = some env1 ∧ ∃ env2, (body env1 = .nx env2 ∨ body env1 = .ct env2) ∧ Inv (i + 1) env2) {env : VEn} (h0 : Inv 0 env) :
    ∃ env', loopV tg body xs env = .nx env' ∧ Inv xs.length env' := by
  have go : ∀ (m i : Nat), i + m = xs.length → ∀ env, Inv i env → ∃ env', loopV tg body (xs.drop i) env = .nx env' ∧ Inv xs.length env' := by
    intro m
    induction m with
    | zero =>
      intro i hi env h
      have e : i = xs.length := by omega
      subst e
      rw [List.drop_length, loopV]
      exact ⟨env, rfl, h⟩
    | succ m ih =>
      intro i hi env h
      have hlt : i < xs.length := by omega
      obtain ⟨env1, hb, env2, hbody, h2⟩ := hs i env hlt h
      obtain ⟨env', e, hI⟩ := ih (i + 1) (by omega) env2 h2
      refine ⟨env', ?_, hI⟩
      rw [List.drop_eq_getElem_cons hlt, loopV, hb]
      rcases hbody with hbody | hbody <;> simp only [hbody] <;> exact e
  have := go xs.length 0 (by omega) env h0
  simpa using this
/-- a walk over plain things, a fold -/
theorem loopV_fold {α σ : Type} {tg : Tg} {body : VEn → VFl} {em : α → T} (Inv : σ → VEn → Prop) (step : σ → α → σ) :
    ∀ (as : List α) (s : σ) (env : VEn), (∀ a ∈ as, ∀ s env, Inv s env → ∃ env1, bindV tg (em a) env = some env1 ∧ ∃ env2, (body env1 = .nx env2 ∨ body env1 = .ct env2) ∧ Inv (step s a) env2) → Inv s env →
      ∃ env', loopV tg body (as.map em) env = .nx env' ∧ Inv (as.foldl step s) env'
  | [], s, env, _, h => ⟨env, by rw [List.map_nil, loopV], h⟩
  | a :: as, s, env, hs, h => by
    obtain ⟨env1, hb, env2, hbody, h2⟩ := hs a List.mem_cons_self s env h
    obtain ⟨env', e, hI⟩ := loopV_fold Inv step as (step s a) env2 (fun b hb => hs b (List.mem_cons_of_mem _ hb)) h2
    refine ⟨env', ?_, hI⟩
    rw [List.map_cons, loopV, hb]
    rcases hbody with hbody | hbody <;> simp only [hbody] <;> exact e
/-- a walk that changes nothing that matters -/
theorem loopV_all {α : Type} {tg : Tg} {body : VEn → VFl} {em : α → T} (Inv : VEn → Prop) (as : List α) {env : VEn} (hs : ∀ a ∈ as, ∀ env, Inv env → ∃ env1, bindV tg (em a) env = some env1 ∧ ∃ env2, (body env1 = .nx env2 ∨ body env1 = .ct env2) ∧ Inv env2) (h : Inv env) :
    ∃ env', loopV tg body (as.map em) env = .nx env' ∧ Inv env' := by
  obtain ⟨env', e, hI⟩ := loopV_fold (fun (_ : Unit) => Inv) (fun s _ => s) as () env (fun a ha _ env h => hs a ha env h) h
  exact ⟨env', e, hI⟩
/-- while -/
theorem loopVW_inv {test : VEn → VR Bool} {body : VEn → VFl} (Inv : Nat → VEn → Prop) (Post : VEn → Prop)
    (hs : ∀ n env, Inv n env → ∃ b env1, test env = .ok b env1 ∧ (b = false → Post env1) ∧ (b = true → ∃ env2 m, m < n ∧ (body env1 = .nx env2 ∨ body env1 = .ct env2) ∧ Inv m env2)) :
    ∀ (w n : Nat) (env : VEn), n < w → Inv n env → ∃ env', loopVW test body w env = .nx env' ∧ Post env'
  | 0, n, env, h, _ => by omega
  | w + 1, n, env, h, hi => by
    obtain ⟨b, env1, e, hf, ht⟩ := hs n env hi
    rw [loopVW, e]
    cases b with
    | false => exact ⟨env1, rfl, hf rfl⟩
    | true =>
      obtain ⟨env2, m, hm, hbody, h2⟩ := ht rfl
      obtain ⟨env', e', hp⟩ := loopVW_inv Inv Post hs w m env2 (by omega) h2
      refine ⟨env', ?_, hp⟩
      rcases hbody with hbody | hbody <;> simp [hbody, e']
/-- one turn of a for -/
def stepV (cl : VCl) (w : Nat) (tg : Tg) (b : List S) (x : T) (env : VEn) : VFl := match bindV tg x env with
  | some e => vSs cl w b e
  | none => .bad
@[simp] theorem stepV_is {cl : VCl} {w : Nat} {tg : Tg} {b : List S} {x : T} {env : VEn} : stepV cl w tg b x env = match bindV tg x env with
  | some e => vSs cl w b e
  | none => .bad := (rfl)
theorem stepV_at {cl : VCl} {w : Nat} {tg : Tg} {b : List S} {x : T} {env env2 : VEn} (h : stepV cl w tg b x env = .nx env2 ∨ stepV cl w tg b x env = .ct env2) : ∃ env1, bindV tg x env = some env1 ∧ (vSs cl w b env1 = .nx env2 ∨ vSs cl w b env1 = .ct env2) := by
  simp only [stepV] at h
  cases e : bindV tg x env with
  | none => rw [e] at h; rcases h with h | h <;> cases h
  | some e1 => rw [e] at h; exact ⟨e1, rfl, h⟩
/-- for, as a fold -/
theorem vfo_fold {α σ : Type} {cl : VCl} {w : Nat} {tg : Tg} {it : I} {b : List S} {env env1 : VEn} {lks : List Nat} {em : α → T} (as : List α) (Inv : σ → VEn → Prop) (step : σ → α → σ) (s : σ) (hI : vI cl it env = .ok ⟨as.map em, lks⟩ env1) (h0 : Inv s env1)
    (hs : ∀ a ∈ as, ∀ s env, Inv s env → ∃ env2, (stepV cl w tg b (em a) env = .nx env2 ∨ stepV cl w tg b (em a) env = .ct env2) ∧ Inv (step s a) env2) :
    ∃ env', vS cl w (.fo tg it b) env = .nx (unlock env' lks) ∧ Inv (as.foldl step s) env' := by
  obtain ⟨env', e, hi⟩ := loopV_fold (tg := tg) (body := fun env => vSs cl w b env) (em := em) Inv step as s env1 (fun a ha s env h => by
    obtain ⟨env2, h1, h2⟩ := hs a ha s env h
    obtain ⟨e1, q1, q2⟩ := stepV_at h1
    exact ⟨e1, q1, env2, q2, h2⟩) h0
  refine ⟨env', ?_, hi⟩
  rw [vs_fo, hI]
  simp [e]
/-- for, nothing kept -/
theorem vfo_all {α : Type} {cl : VCl} {w : Nat} {tg : Tg} {it : I} {b : List S} {env env1 : VEn} {lks : List Nat} {em : α → T} (as : List α) (Inv : VEn → Prop) (hI : vI cl it env = .ok ⟨as.map em, lks⟩ env1) (h0 : Inv env1)
    (hs : ∀ a ∈ as, ∀ env, Inv env → ∃ env2, (stepV cl w tg b (em a) env = .nx env2 ∨ stepV cl w tg b (em a) env = .ct env2) ∧ Inv env2) :
    ∃ env', vS cl w (.fo tg it b) env = .nx (unlock env' lks) ∧ Inv env' := by
  obtain ⟨env', e, hi⟩ := vfo_fold (σ := Unit) as (fun _ => Inv) (fun s _ => s) () hI h0 (fun a ha _ env h => hs a ha env h)
  exact ⟨env', e, hi⟩
end Ev

/-! More plain laws over trees: walks that stop, comprehensions, dicts, sorting, places. -/
namespace Ev
open PySem
/-! ### a walk that stops -/
theorem loopV_app {tg : Tg} {body : VEn → VFl} : ∀ (xs ys : List T) (env env' : VEn), loopV tg body xs env = .nx env' → loopV tg body (xs ++ ys) env = loopV tg body ys env'
  | [], ys, env, env', h => by rw [loopV] at h; cases h; rfl
  | x :: xs, ys, env, env', h => by
    rw [loopV] at h
    rw [List.cons_append, loopV]
    cases hb : bindV tg x env with
    | none => rw [hb] at h; cases h
    | some e =>
      rw [hb] at h
      simp only at h ⊢
      cases hr : body e with
      | nx e2 => rw [hr] at h; exact loopV_app xs ys e2 env' h
      | ct e2 => rw [hr] at h; exact loopV_app xs ys e2 env' h
      | rt => rw [hr] at h; cases h
      | exc => rw [hr] at h; cases h
      | bad => rw [hr] at h; cases h
def VFl.ends : VFl → Bool
  | .rt _ _ _ => true
  | .exc _ _ _ => true
  | _ => false
theorem vfo_stop {α σ : Type} {cl : VCl} {w : Nat} {tg : Tg} {it : I} {b : List S} {env env1 : VEn} {lks : List Nat} {em : α → T} {x : T} {ys : List T} (as : List α) (Inv : σ → VEn → Prop) (step : σ → α → σ) (s : σ) (hI : vI cl it env = .ok ⟨as.map em ++ x :: ys, lks⟩ env1) (h0 : Inv s env1)
    (hs : ∀ a ∈ as, ∀ s env, Inv s env → ∃ env2, (stepV cl w tg b (em a) env = .nx env2 ∨ stepV cl w tg b (em a) env = .ct env2) ∧ Inv (step s a) env2) (hx : ∀ s env, Inv s env → (stepV cl w tg b x env).ends = true) :
    ∃ env', Inv (as.foldl step s) env' ∧ vS cl w (.fo tg it b) env = stepV cl w tg b x env' := by
  obtain ⟨env', e, hi⟩ := loopV_fold (tg := tg) (body := fun env => vSs cl w b env) (em := em) Inv step as s env1 (fun a ha s env h => by
    obtain ⟨env2, h1, h2⟩ := hs a ha s env h
    obtain ⟨e1, q1, q2⟩ := stepV_at h1
    exact ⟨e1, q1, env2, q2, h2⟩) h0
  refine ⟨env', hi, ?_⟩
  have hend := hx _ env' hi
  rw [vs_fo, hI]
  simp only [vf_ok]
  rw [loopV_app _ _ _ _ e, loopV]
  unfold stepV at hend ⊢
  cases hb : bindV tg x env' with
  | none => rfl
  | some e1 =>
    rw [hb] at hend
    simp only at hend ⊢
    cases hr : vSs cl w b e1 with
    | rt => rfl
    | exc => rfl
    | nx => rw [hr] at hend; cases hend
    | ct => rw [hr] at hend; cases hend
    | bad => rfl
/-- for, by what has been walked -/
theorem loopV_pre {α : Type} {cl : VCl} {w : Nat} {tg : Tg} {b : List S} {em : α → T} (as : List α) (Inv : List α → VEn → Prop)
    (hs : ∀ pre a post, as = pre ++ a :: post → ∀ env, Inv pre env → ∃ env2, (stepV cl w tg b (em a) env = .nx env2 ∨ stepV cl w tg b (em a) env = .ct env2) ∧ Inv (pre ++ [a]) env2) :
    ∀ (post pre : List α) (env : VEn), as = pre ++ post → Inv pre env → ∃ env', loopV tg (fun env => vSs cl w b env) (post.map em) env = .nx env' ∧ Inv as env'
  | [], pre, env, e, h => ⟨env, by rw [List.map_nil, loopV], by rw [e, List.append_nil]; exact h⟩
  | a :: post, pre, env, e, h => by
    obtain ⟨env2, h1, h2⟩ := hs pre a post e env h
    obtain ⟨e1, q1, q2⟩ := stepV_at h1
    obtain ⟨env', e', hI⟩ := loopV_pre as Inv hs post (pre ++ [a]) env2 (by rw [e]; simp) h2
    refine ⟨env', ?_, hI⟩
    rw [List.map_cons, loopV, q1]
    rcases q2 with q2 | q2 <;> simp only [q2] <;> exact e'
theorem vfo_pre {α : Type} {cl : VCl} {w : Nat} {tg : Tg} {it : I} {b : List S} {env env1 : VEn} {lks : List Nat} {em : α → T} (as : List α) (Inv : List α → VEn → Prop) (hI : vI cl it env = .ok ⟨as.map em, lks⟩ env1) (h0 : Inv [] env1)
    (hs : ∀ pre a post, as = pre ++ a :: post → ∀ env, Inv pre env → ∃ env2, (stepV cl w tg b (em a) env = .nx env2 ∨ stepV cl w tg b (em a) env = .ct env2) ∧ Inv (pre ++ [a]) env2) :
    ∃ env', vS cl w (.fo tg it b) env = .nx (unlock env' lks) ∧ Inv as env' := by
  obtain ⟨env', e, hi⟩ := loopV_pre as Inv hs as [] env1 rfl h0
  refine ⟨env', ?_, hi⟩
  rw [vs_fo, hI]
  simp [e]
theorem vfo_stopP {α : Type} {cl : VCl} {w : Nat} {tg : Tg} {it : I} {b : List S} {env env1 : VEn} {lks : List Nat} {em : α → T} {x : T} {ys : List T} (as : List α) (Inv : List α → VEn → Prop) (hI : vI cl it env = .ok ⟨as.map em ++ x :: ys, lks⟩ env1) (h0 : Inv [] env1)
    (hs : ∀ pre a post, as = pre ++ a :: post → ∀ env, Inv pre env → ∃ env2, (stepV cl w tg b (em a) env = .nx env2 ∨ stepV cl w tg b (em a) env = .ct env2) ∧ Inv (pre ++ [a]) env2) (hx : ∀ env, Inv as env → (stepV cl w tg b x env).ends = true) :
    ∃ env', Inv as env' ∧ vS cl w (.fo tg it b) env = stepV cl w tg b x env' := by
  obtain ⟨env', e, hi⟩ := loopV_pre as Inv hs as [] env1 rfl h0
  refine ⟨env', hi, ?_⟩
  have hend := hx env' hi
  rw [vs_fo, hI]
  simp only [vf_ok]
  rw [loopV_app _ _ _ _ e, loopV]
  unfold stepV at hend ⊢
  cases hb : bindV tg x env' with
  | none => rfl
  | some e1 =>
    rw [hb] at hend
    simp only at hend ⊢
    cases hr : vSs cl w b e1 with
    | rt => rfl
    | exc => rfl
    | nx => rw [hr] at hend; cases hend
    | ct => rw [hr] at hend; cases hend
    | bad => rfl
@[simp] theorem ends_rt {t : T} {fr : Bool} {env : VEn} : (VFl.rt t fr env).ends = true := (rfl)
@[simp] theorem ends_exc {c : Nat} {fs : List T} {env : VEn} : (VFl.exc c fs env).ends = true := (rfl)
/-! ### comprehensions -/
theorem ext_lk {a b : VEn} (hl : a.length = b.length) (h : ∀ i, lk a i = lk b i) : a = b := by
  apply List.ext_getElem? fun i => ?_
  have h' := h i
  unfold lk at h'
  rcases Nat.lt_or_ge i a.length with hi | hi
  · rw [List.getElem?_eq_getElem hi, List.getElem?_eq_getElem (hl ▸ hi)] at h' ⊢
    simpa using h'
  · rw [List.getElem?_eq_none hi, List.getElem?_eq_none (hl ▸ hi)]
theorem wipeV_len (e : VEn) : ∀ vs : List Nat, (wipeV e vs).length = e.length
  | [] => rfl
  | v :: vs => by rw [wipeV, List.length_set, wipeV_len e vs]
theorem st_len {env env1 : VEn} {i : Nat} {x : VS} (h : stV env i x = some env1) : env1.length = env.length := by
  rw [st_some h]; simp
mutual
theorem bindV_len : ∀ (tg : Tg) {t : T} {eV eV1 : VEn}, bindV tg t eV = some eV1 → eV1.length = eV.length
  | .nm i, t, eV, eV1, h => by rw [bindV] at h; exact st_len h
  | .tp ts, t, eV, eV1, h => by
    rw [bindV] at h
    split at h
    · split at h
      · exact bindVs_len ts h
      · cases h
    · cases h
theorem bindVs_len : ∀ (tgs : List Tg) {ts : List T} {eV eV1 : VEn}, bindVs tgs ts eV = some eV1 → eV1.length = eV.length
  | [], ts, eV, eV1, h => by rw [bindVs] at h; cases h; rfl
  | t :: tgs, [], eV, eV1, h => by rw [bindVs] at h; cases h
  | t :: tgs, x :: xs, eV, eV1, h => by
    rw [bindVs] at h
    cases hb : bindV t x eV with
    | none => rw [hb] at h; cases h
    | some e =>
      rw [hb] at h
      exact (bindVs_len tgs h).trans (bindV_len t hb)
end
theorem wipe_bind {tg : Tg} {x : T} {env e : VEn} {own : List Nat} (h : bindV tg x (wipeV env own) = some e) (ho : ∀ i ∈ tgSlots tg, i ∈ own) : wipeV e own = wipeV env own := by
  apply ext_lk
  · rw [wipeV_len, wipeV_len, bindV_len tg h, wipeV_len]
  · intro i
    rw [wipeV_lk, wipeV_lk]
    by_cases hi : i ∈ own
    · rw [if_pos hi, if_pos hi]
    · rw [if_neg hi, if_neg hi, bindV_sl tg h i fun z => hi (ho i z), wipeV_lk, if_neg hi]
theorem back_wipe {env env' : VEn} {own : List Nat} (h : wipeV env' own = wipeV env own) : backV env env' own = env := by
  have hl : env'.length = env.length := by
    have := congrArg List.length h
    rwa [wipeV_len, wipeV_len] at this
  apply ext_lk
  · rw [backV_len, hl]
  · intro i
    rw [backV_lk env env' hl own i]
    by_cases hi : i ∈ own
    · rw [if_pos hi]
    · rw [if_neg hi]
      have := congrArg (fun e => lk e i) h
      simp only [wipeV_lk, if_neg hi] at this
      exact this
theorem loopVC_pure {α : Type} {own : List Nat} {tg : Tg} {test : VEn → VR Bool} {elt : VEn → VR T} {em : α → T} (ho : ∀ i ∈ tgSlots tg, i ∈ own) (p : α → Bool) (f : α → T) (z : VEn) :
    ∀ (as : List α) (env : VEn), wipeV env own = z → (∀ a ∈ as, ∃ e, bindV tg (em a) z = some e ∧ test e = .ok (p a) e ∧ (p a = true → elt e = .ok (f a) e)) →
      ∃ env', loopVC own tg test elt (as.map em) env = .ok ((as.filter p).map f) env' ∧ wipeV env' own = z
  | [], env, hz, h => ⟨env, by rw [List.map_nil, loopVC]; rfl, hz⟩
  | a :: as, env, hz, h => by
    obtain ⟨e, h1, h2, h3⟩ := h a List.mem_cons_self
    have hw : wipeV e own = z := by rw [← hz] at h1 ⊢; exact wipe_bind h1 ho
    obtain ⟨env', e1, e2⟩ := loopVC_pure (test := test) (elt := elt) ho p f z as e hw fun x hx => h x (List.mem_cons_of_mem _ hx)
    refine ⟨env', ?_, e2⟩
    rw [List.map_cons, loopVC, hz, h1]
    simp only [h2, vr_ok]
    cases hp : p a with
    | true => simp [h3 hp, e1, hp]
    | false => simp [e1, hp]
theorem lcV {α : Type} {cl : VCl} {own : List Nat} {tg : Tg} {it : I} {ifs : List E} {elt : E} {env env1 : VEn} {lks : List Nat} {em : α → T} (as : List α) (p : α → Bool) (f : α → T) (hI : vI cl it env = .ok ⟨as.map em, lks⟩ env1) (ho : ownOk env1 own = true) (ht : ((tgSlots tg).all fun i => own.contains i) = true)
    (h : ∀ a ∈ as, ∃ e, bindV tg (em a) (wipeV env1 own) = some e ∧ vTest cl ifs e = .ok (p a) e ∧ (p a = true → ((vE cl elt e).bind fun o env => take env o) = .ok (f a) e)) :
    vE cl (.lc own tg it ifs elt) env = (VR.of (okL ((as.filter p).map f)) (unlock env1 lks)).bind fun q env => .ok (.v q.1 q.2) env := by
  rw [vE, hI]
  simp only [vr_ok, ho, ht, Bool.and_self, Bool.not_true, Bool.false_eq_true, if_false]
  have ht' : ∀ i ∈ tgSlots tg, i ∈ own := fun i hi => by
    have := List.all_eq_true.mp ht i hi
    simpa using this
  obtain ⟨env', e1, e2⟩ := loopVC_pure (test := fun env => vTest cl ifs env) (elt := fun env => (vE cl elt env).bind fun o env => take env o) ht' p f (wipeV env1 own) as env1 rfl h
  rw [e1]
  simp only [VR.calm, vr_ok]
  rw [back_wipe e2]
@[simp] theorem ownOk_nil {env : VEn} : ownOk env [] = true := (rfl)
@[simp] theorem ownOk_cons {env : VEn} {v : Nat} {vs : List Nat} : ownOk env (v :: vs) = ((match (env[v]?).join with
    | none => true
    | some (.b _) => true
    | _ => false) && ownOk env vs) := (rfl)
@[simp] theorem tgs_nm {i : Nat} : tgSlots (.nm i) = [i] := by rw [tgSlots]
/-! ### dicts with plain keys -/
section
variable {α : Type} [DecidableEq α] [Em α]
def aGet (kvs : List (α × T)) (k : α) : Option T := (kvs.find? fun p => decide (p.1 = k)).map (·.2)
def aSet (kvs : List (α × T)) (k : α) (v : T) : List (α × T) := if kvs.any (fun p => decide (p.1 = k)) then kvs.map (fun p => if p.1 = k then (p.1, v) else p) else kvs ++ [(k, v)]
def aDel (kvs : List (α × T)) (k : α) : List (α × T) := kvs.filter fun p => decide (p.1 ≠ k)
def dEm (kvs : List (α × T)) : List (T × T) := kvs.map fun q => (Em.t q.1, q.2)
theorem em_iff {a b : α} : (Em.t a = Em.t b) = (a = b) := propext ⟨em_inj, fun h => by rw [h]⟩
theorem tGet_em {k : α} : ∀ kvs : List (α × T), tGet (dEm kvs) (Em.t k) = aGet kvs k
  | [] => rfl
  | q :: kvs => by
    have ih := tGet_em (k := k) kvs
    unfold tGet aGet dEm at *
    simp only [List.map_cons, List.find?_cons, em_iff]
    by_cases h : q.1 = k
    · simp [h]
    · simp [h]; simpa using ih
theorem tSet_em {k : α} {v : T} {kvs : List (α × T)} : tSet (dEm kvs) (Em.t k) v = dEm (aSet kvs k v) := by
  unfold tSet aSet dEm
  have e : ((kvs.map fun q => ((Em.t q.1 : T), q.2)).any fun p => decide (p.1 = Em.t k)) = kvs.any fun p => decide (p.1 = k) := by
    rw [List.any_map]
    congr 1
    funext q
    simp [em_iff]
  rw [e]
  split
  · rw [List.map_map, List.map_map]
    apply List.map_congr_left
    intro q _
    simp only [Function.comp, em_iff]
    split <;> rfl
  · simp
theorem tDel_em {k : α} {kvs : List (α × T)} : tDel (dEm kvs) (Em.t k) = dEm (aDel kvs k) := by
  unfold tDel aDel dEm
  rw [List.filter_map]
  congr 1
  apply List.filter_congr
  intro q _
  simp [em_iff]
/-- a dict that is a set: all its values are True -/
def setT (ps : List α) : T := .dct (dEm (ps.map fun p => (p, T.bl true)))
theorem aGet_set {ps : List α} {k : α} : aGet (ps.map fun p => (p, T.bl true)) k = if k ∈ ps then some (.bl true) else none := by
  unfold aGet
  induction ps with
  | nil => rfl
  | cons p ps ih =>
    simp only [List.map_cons, List.find?_cons]
    by_cases h : p = k
    · simp [h]
    · have h' : ¬ k = p := fun z => h z.symm
      simp only [h, decide_false, List.mem_cons, h', false_or]
      exact ih
theorem get_setT {ps : List α} {k : α} (hk : isKeyT (Em.t k) = true) : tGet (dEm (ps.map fun p => (p, T.bl true))) (Em.t k) = if k ∈ ps then some (.bl true) else none := by rw [tGet_em, aGet_set]
theorem in_setT {ps : List α} {k : α} (hk : isKeyT (Em.t k) = true) : inT (Em.t k) (setT ps) = some (decide (k ∈ ps)) := by
  unfold setT
  rw [in_dT, if_pos hk, tGet_em, aGet_set]
  by_cases h : k ∈ ps <;> simp [h]
theorem put_setT {ps : List α} {k : α} (hk : isKeyT (Em.t k) = true) (hl : ps.length < 16777216) : putT (setT ps) (Em.t k) (.bl true) = some (setT (addE ps k)) := by
  unfold setT putT
  have : (dEm (ps.map fun p => (p, T.bl true))).length < line := by simpa [dEm] using hl
  simp only [hk, this, decide_true, Bool.and_self, if_true, Option.some.injEq, T.dct.injEq]
  rw [tSet_em]
  congr 1
  unfold aSet addE
  have e : ((ps.map fun p => (p, T.bl true)).any fun p => decide (p.1 = k)) = decide (k ∈ ps) := by
    rw [List.any_map, Bool.eq_iff_iff, List.any_eq_true]
    simp
  rw [e]
  by_cases h : k ∈ ps
  · simp only [h, decide_true, if_true, List.map_map]
    apply List.map_congr_left
    intro q _
    simp only [Function.comp]
    split <;> rfl
  · simp [h]
theorem keys_setT {ps : List α} : (dEm (ps.map fun p => (p, T.bl true))).map (·.1) = ps.map Em.t := by
  unfold dEm
  rw [List.map_map, List.map_map]
  rfl
theorem len_setT {ps : List α} : biT .len [setT ps] = some (.int ps.length, false) := by
  unfold setT
  rw [len_dT]
  simp [dEm]
theorem setT_nil : (T.dct [] : T) = setT ([] : List α) := rfl
end
/-! ### sorting -/
theorem sortT_pts (ps : List Pt) : sortT (ps.map Em.t) = some ((ps.mergeSort leP).map Em.t) := by
  unfold sortT
  rw [tPs_em (by decide)]
  simp only
  rw [if_pos]
  · rw [List.map_mergeSort]
    intro a _ b _
    show leP a b = _
    rw [W.dataLe_eq]
    simp only [Em.tp _ deep (by decide : Em.n Pt ≤ deep), Option.getD_some, cond_false]
    have h2 : W.dataLt (Em.d b) (Em.d a) = decide (ltP b a) := lt_dP
    rw [h2]
    rfl
  · rw [Bool.and_eq_true]
    refine ⟨?_, ?_⟩
    · unfold allAlike
      have h1 : ∀ p q : Pt, W.alike (Em.d p) (Em.d q) = true := fun p q => alike_dP
      simp [h1]
    · unfold sortable
      simp [Em.d]
theorem sortT_sds (ps : List Sd) : sortT (ps.map Em.t) = some ((ps.mergeSort leS).map Em.t) := by
  unfold sortT
  rw [tPs_em (by decide)]
  simp only
  rw [if_pos]
  · rw [List.map_mergeSort]
    intro a _ b _
    show leS a b = _
    rw [W.dataLe_eq]
    simp only [Em.tp _ deep (by decide : Em.n Sd ≤ deep), Option.getD_some, cond_false]
    have h2 : W.dataLt (Em.d b) (Em.d a) = decide (ltS b a) := lt_dS
    rw [h2]
    rfl
  · rw [Bool.and_eq_true]
    refine ⟨?_, ?_⟩
    · unfold allAlike
      have h1 : ∀ p q : Sd, W.alike (Em.d p) (Em.d q) = true := fun p q => alike_dS
      simp [h1]
    · unfold sortable
      simp [Em.d]
/-! ### places -/
theorem item_nat' {xs : List T} {i : Nat} : itemT xs (i : Int) = xs[i]? := by
  unfold itemT place
  by_cases h : i < xs.length
  · simp [h]
  · simp [h]
theorem item_ge' {xs : List T} {i : Int} (h0 : 0 ≤ i) : itemT xs i = xs[i.toNat]? := by
  have e : i = (i.toNat : Int) := by omega
  have := item_nat' (xs := xs) (i := i.toNat)
  rwa [← e] at this
theorem itemV_at {α : Type} {f : α → T} {as : List α} {i : Int} (h0 : 0 ≤ i) (h : i.toNat < as.length) : itemT (as.map f) i = some (f (as[i.toNat])) := by
  rw [item_ge' h0]
  simp [h]
/-! ### alike to itself -/
theorem eqvAll_ints : ∀ ns : List Int, PyData.eqvAll (ns.map PyData.int) (ns.map PyData.int) = true
  | [] => by simp [PyData.eqvAll]
  | n :: ns => by simp [PyData.eqvAll, PyData.eqv, eqvAll_ints ns]
mutual
theorem tP_refl : ∀ (n : Nat) (t : T) (d : PyData), tP n t = some d → PyData.eqv d d = true
  | n, .non, d, h => by simp [tP] at h; subst h; simp [PyData.eqv]
  | n, .bl b, d, h => by simp [tP] at h; subst h; simp [PyData.eqv]
  | n, .int i, d, h => by simp [tP] at h; subst h; simp [PyData.eqv]
  | n, .str x, d, h => by
    simp only [tP] at h
    split at h
    · cases h; simp [PyData.eqv]
    · cases h
  | 0, .tup ts, d, h => by simp [tP] at h
  | 0, .lst ts, d, h => by simp [tP] at h
  | 0, .scr ns, d, h => by simp [tP] at h
  | n + 1, .tup ts, d, h => by
    simp only [tP, Option.map_eq_some_iff] at h
    obtain ⟨ds, h1, rfl⟩ := h
    rw [PyData.eqv]
    exact tPs_refl n ts ds h1
  | n + 1, .lst ts, d, h => by
    simp only [tP, Option.map_eq_some_iff] at h
    obtain ⟨ds, h1, rfl⟩ := h
    rw [PyData.eqv]
    exact tPs_refl n ts ds h1
  | n + 1, .scr ns, d, h => by
    simp only [tP] at h
    cases h
    rw [PyData.eqv]
    exact eqvAll_ints ns
  | n, .dct _, d, h => by simp [tP] at h
theorem tPs_refl : ∀ (n : Nat) (ts : List T) (ds : List PyData), tPs n ts = some ds → PyData.eqvAll ds ds = true
  | n, [], ds, h => by simp [tPs] at h; subst h; simp [PyData.eqvAll]
  | n, t :: ts, ds, h => by
    simp only [tPs] at h
    split at h
    · rename_i x xs hx hxs
      cases h
      rw [PyData.eqvAll, tP_refl n t x hx, tPs_refl n ts xs hxs]
      rfl
    · cases h
end
theorem eqT_refl {t : T} (h : (tP deep t).isSome = true) : eqT t t = some true := by
  obtain ⟨d, hd⟩ := Option.isSome_iff_exists.mp h
  simp [eqT, hd, tP_refl _ _ _ hd]
end Ev

/-! Typed functions beside the evaluator over trees: results, flows, trees of typed values, and what it means that the evaluator gives what the typed function gives. -/
namespace Ev
open PySem

/-! ### errors, results, flows -/
inductive Cl where
  | tile | noFloor | noTile | noLaying | noTurn | noText | tooWide | holed | noHeights | notAlike | noNumber | noTable
  deriving DecidableEq
inductive R (α : Type) where
  | ok (a : α) | exc (c : Cl) (fs : List Int) | bad
inductive Fw (σ ρ : Type) where
  | nx (s : σ) | rt (r : ρ) | exc (c : Cl) (fs : List Int) | bad
section
variable {α β σ τ ρ : Type}
def R.of (o : Option α) : R α := match o with
  | some a => .ok a
  | none => .bad
def R.bind (m : R α) (f : α → R β) : R β := match m with
  | .ok a => f a
  | .exc c fs => .exc c fs
  | .bad => .bad
def R.fw (m : R α) (f : α → Fw σ ρ) : Fw σ ρ := match m with
  | .ok a => f a
  | .exc c fs => .exc c fs
  | .bad => .bad
def R.and (a b : R Bool) : R Bool := a.bind fun x => if x = true then b else .ok false
def R.or (a b : R Bool) : R Bool := a.bind fun x => if x = true then .ok true else b
def R.not (a : R Bool) : R Bool := a.bind fun x => .ok (!x)
def R.ite (c : R Bool) (a b : R α) : R α := c.bind fun x => if x = true then a else b
/-- a comprehension: no error leaves it -/
def R.calm (m : R α) : R α := match m with
  | .exc _ _ => .bad
  | m => m
def Fw.bind (m : Fw σ ρ) (f : σ → Fw τ ρ) : Fw τ ρ := match m with
  | .nx s => f s
  | .rt r => .rt r
  | .exc c fs => .exc c fs
  | .bad => .bad
def Fw.out (m : Fw σ ρ) : R ρ := match m with
  | .rt r => .ok r
  | .exc c fs => .exc c fs
  | _ => .bad
@[simp] theorem R.of_some {a : α} : R.of (some a) = .ok a := (rfl)
@[simp] theorem R.of_none : R.of (none : Option α) = .bad := (rfl)
variable {a : α} {f : α → R β} {g : α → Fw σ ρ} {c : Cl} {fs : List Int}
@[simp] theorem R.bind_ok : (R.ok a).bind f = f a := (rfl)
@[simp] theorem R.bind_exc : (R.exc c fs : R α).bind f = .exc c fs := (rfl)
@[simp] theorem R.bind_bad : (R.bad : R α).bind f = .bad := (rfl)
@[simp] theorem R.fw_ok : (R.ok a).fw g = g a := (rfl)
@[simp] theorem R.fw_exc : (R.exc c fs : R α).fw g = .exc c fs := (rfl)
@[simp] theorem R.fw_bad : (R.bad : R α).fw g = .bad := (rfl)
variable {b : R Bool} {x y : R α}
@[simp] theorem R.and_true : (R.ok true).and b = b := (rfl)
@[simp] theorem R.and_false : (R.ok false).and b = .ok false := (rfl)
@[simp] theorem R.or_true : (R.ok true).or b = .ok true := (rfl)
@[simp] theorem R.or_false : (R.ok false).or b = b := (rfl)
@[simp] theorem R.not_ok {b : Bool} : (R.ok b).not = .ok (!b) := (rfl)
@[simp] theorem R.ite_true : R.ite (.ok true) x y = x := (rfl)
@[simp] theorem R.ite_false : R.ite (.ok false) x y = y := (rfl)
@[simp] theorem R.calm_ok : (R.ok a).calm = .ok a := (rfl)
variable {s : σ} {r : ρ} {k : σ → Fw τ ρ}
@[simp] theorem Fw.bind_nx : (Fw.nx s : Fw σ ρ).bind k = k s := (rfl)
@[simp] theorem Fw.bind_rt : (Fw.rt r : Fw σ ρ).bind k = .rt r := (rfl)
@[simp] theorem Fw.bind_exc : (Fw.exc c fs : Fw σ ρ).bind k = .exc c fs := (rfl)
@[simp] theorem Fw.bind_bad : (Fw.bad : Fw σ ρ).bind k = .bad := (rfl)
@[simp] theorem Fw.out_rt : (Fw.rt r : Fw σ ρ).out = .ok r := (rfl)
@[simp] theorem Fw.out_exc : (Fw.exc c fs : Fw σ ρ).out = .exc c fs := (rfl)
@[simp] theorem Fw.out_bad : (Fw.bad : Fw σ ρ).out = .bad := (rfl)
@[simp] theorem Fw.out_ite {p : Prop} [Decidable p] {x y : Fw σ ρ} : (if p then x else y).out = if p then x.out else y.out := by split <;> rfl
@[simp] theorem Fw.bind_ite {p : Prop} [Decidable p] {x y : Fw σ ρ} : (if p then x else y).bind k = if p then x.bind k else y.bind k := by split <;> rfl
/-- for -/
def forF {α : Type} (body : α → σ → Fw σ ρ) : List α → σ → Fw σ ρ
  | [], s => .nx s
  | x :: xs, s => (body x s).bind (forF body xs)
/-- while -/
def whileF (test : σ → R Bool) (body : σ → Fw σ ρ) : Nat → σ → Fw σ ρ
  | 0, _ => .bad
  | n + 1, s => (test s).fw fun b => if b = true then (body s).bind (whileF test body n) else .nx s
/-- a comprehension with a state -/
def compS (body : α → σ → R (Option β × σ)) : List α → σ → R (List β × σ)
  | [], s => .ok ([], s)
  | x :: xs, s => (body x s).bind fun p => (compS body xs p.2).bind fun q => .ok (match p.1 with | some y => y :: q.1 | none => q.1, q.2)
/-- a comprehension -/
def compR (test : α → R Bool) (elt : α → R β) : List α → R (List β)
  | [] => .ok []
  | x :: xs => (test x).bind fun b => if b = true then (elt x).bind fun y => (compR test elt xs).bind fun ys => .ok (y :: ys) else compR test elt xs
/-- try -/
def tryF (m : Fw σ ρ) (h : Cl → Fw σ ρ) : Fw σ ρ := match m with
  | .exc c [] => h c
  | .exc _ (_ :: _) => .bad
  | m => m
@[simp] theorem tryF_nx {h : Cl → Fw σ ρ} : tryF (.nx s) h = .nx s := (rfl)
@[simp] theorem tryF_rt {h : Cl → Fw σ ρ} : tryF (.rt r) h = .rt r := (rfl)
@[simp] theorem tryF_exc {h : Cl → Fw σ ρ} : tryF (.exc c []) h = h c := (rfl)
@[simp] theorem tryF_bad {h : Cl → Fw σ ρ} : tryF (.bad : Fw σ ρ) h = .bad := (rfl)
/-- is an error of class c one of class d? -/
def Cl.is (c d : Cl) : Bool := decide (c = d) || decide (d = .tile)
end

/-! ### trees of typed values -/
class Tv (α : Type) where
  t : α → T
structure Sc where
  ns : List Int
structure Dc (κ ν : Type) where
  kvs : List (κ × ν)
structure Tu (α : Type) where
  xs : List α
  deriving DecidableEq
structure P3 (α β γ : Type) where
  a : α
  b : β
  c : γ
  deriving DecidableEq
/-- a list of two unlike things -/
structure H2 (α β : Type) where
  a : α
  b : β
structure H3 (α β γ : Type) where
  a : α
  b : β
  c : γ
instance : Tv Int := ⟨.int⟩
instance : Tv Bool := ⟨.bl⟩
instance : Tv Unit := ⟨fun _ => .non⟩
instance : Tv Str := ⟨.str⟩
instance : Tv T := ⟨id⟩
instance : Tv Sc := ⟨fun s => .scr s.ns⟩
section
variable {α β γ : Type} [Tv α] [Tv β] [Tv γ]
instance : Tv (α × β) := ⟨fun p => .tup [Tv.t p.1, Tv.t p.2]⟩
instance : Tv (P3 α β γ) := ⟨fun p => .tup [Tv.t p.a, Tv.t p.b, Tv.t p.c]⟩
instance : Tv (H2 α β) := ⟨fun p => .lst [Tv.t p.a, Tv.t p.b]⟩
instance : Tv (H3 α β γ) := ⟨fun p => .lst [Tv.t p.a, Tv.t p.b, Tv.t p.c]⟩
instance : Tv (List α) := ⟨fun xs => .lst (xs.map Tv.t)⟩
instance : Tv (Tu α) := ⟨fun xs => .tup (xs.xs.map Tv.t)⟩
instance : Tv (Option α) := ⟨fun o => match o with | some a => Tv.t a | none => .non⟩
instance : Tv (Dc α β) := ⟨fun d => .dct (d.kvs.map fun p => (Tv.t p.1, Tv.t p.2))⟩
/-- equality -/
class Cq (α : Type) [DecidableEq α] [Tv α] where
  d : α → PyData
  n : Nat
  tp : ∀ a m, n ≤ m → tP m (Tv.t a) = some (d a)
  eqv : ∀ a b, PyData.eqv (d a) (d b) = decide (a = b)
/-- never None -/
class Nn (α : Type) [Tv α] : Prop where
  nn : ∀ a : α, Tv.t a ≠ T.non
/-- no lists in it -/
class Flt (α : Type) [Tv α] : Prop where
  ft : ∀ a : α, flat (Tv.t a) = true
/-- a key -/
class Ky (α : Type) [Tv α] : Prop where
  ky : ∀ a : α, isKeyT (Tv.t a) = true
/-- less -/
class Lo (α : Type) [Tv α] where
  lt : α → α → Bool
  h : ∀ a b : α, ltT (Tv.t a) (Tv.t b) = some (lt a b)
/-- sorted -/
class So (α : Type) [Tv α] where
  le : α → α → Bool
  h : ∀ as : List α, sortT (as.map Tv.t) = some ((as.mergeSort le).map Tv.t)
/-- what isinstance tells -/
class Kd1 (α : Type) [Tv α] where
  ty : Ty → Bool
  h : ∀ (a : α) (t : Ty), isiT (Tv.t a) t = some (ty t)
end
/-- Em of a Cq -/
@[reducible] def emOf (α : Type) [DecidableEq α] [Tv α] [Cq α] : Em α := ⟨Tv.t, Cq.d, Cq.n α, Cq.tp, Cq.eqv⟩
instance : Cq Int := ⟨PyData.int, 0, fun a m _ => Em.tp a m (Nat.zero_le _), Em.eqv (α := Int)⟩
instance : Cq Bool := ⟨PyData.bool, 0, fun a m _ => by show tP m (.bl a) = _; cases m <;> simp [tP], fun a b => by cases a <;> cases b <;> simp [PyData.eqv]⟩
section
variable {α β γ : Type} [Tv α] [Tv β] [Tv γ]
instance [DecidableEq α] [DecidableEq β] [Cq α] [Cq β] : Cq (α × β) :=
  letI := emOf α; letI := emOf β
  ⟨fun p => .tuple [Cq.d p.1, Cq.d p.2], Nat.max (Cq.n α) (Cq.n β) + 1, fun a m h => Em.tp (α := α × β) a m h, fun a b => Em.eqv (α := α × β) a b⟩
instance [DecidableEq α] [Cq α] : Cq (List α) :=
  letI := emOf α
  ⟨fun p => .list (p.map Cq.d), Cq.n α + 1, fun a m h => Em.tp (α := List α) a m h, fun a b => Em.eqv (α := List α) a b⟩
instance [DecidableEq α] [Cq α] : Cq (Tu α) :=
  letI := emOf α
  ⟨fun p => .tuple (p.xs.map Cq.d), Cq.n α + 1, fun a m h => by
    cases m with
    | zero => omega
    | succ m =>
      show (tPs m (a.xs.map Tv.t)).map PyData.tuple = _
      have := tPs_em (α := α) (Nat.le_of_succ_le_succ h) a.xs
      show (tPs m (a.xs.map (Em.t (α := α)))).map PyData.tuple = _
      rw [this]; rfl, fun a b => by
    rw [PyData.eqv]
    have := eqvAll_em (α := α) a.xs b.xs
    refine this.trans ?_
    cases a; cases b
    simp⟩
/-- not too deep -/
class Cb (α : Type) [DecidableEq α] [Tv α] [Cq α] : Prop where
  le : Cq.n α ≤ 11
instance : Cb Int := ⟨by decide⟩
instance : Cb Bool := ⟨by decide⟩
instance : Cb (Int × Int) := ⟨by decide⟩
instance : Cb ((Int × Int) × (Int × Int)) := ⟨by decide⟩
instance : Cb (List Int) := ⟨by decide⟩
instance : Cb (List (Int × Int)) := ⟨by decide⟩
instance : Cb (List ((Int × Int) × (Int × Int))) := ⟨by decide⟩
instance : Cb (List (List Int)) := ⟨by decide⟩
instance : Cb (List (List (Int × Int))) := ⟨by decide⟩
instance : Cb (List (List ((Int × Int) × (Int × Int)))) := ⟨by decide⟩
instance : Cb (((Int × Int) × (Int × Int)) × Int) := ⟨by decide⟩
instance : Cb (List (((Int × Int) × (Int × Int)) × Int)) := ⟨by decide⟩
instance : Cb (Tu (Int × Int)) := ⟨by decide⟩
instance : Nn Int := ⟨fun a h => by cases h⟩
instance : Nn Bool := ⟨fun a h => by cases h⟩
instance : Nn (α × β) := ⟨fun a h => by cases h⟩
instance : Nn (P3 α β γ) := ⟨fun a h => by cases h⟩
instance : Nn (List α) := ⟨fun a h => by cases h⟩
instance : Nn (Dc α β) := ⟨fun a h => by cases h⟩
instance : Flt Int := ⟨fun a => by show flat (.int a) = true; simp⟩
instance : Flt Bool := ⟨fun a => by show flat (.bl a) = true; simp⟩
instance : Flt Unit := ⟨fun a => by show flat .non = true; simp⟩
instance : Flt Str := ⟨fun a => by show flat (.str a) = true; simp⟩
instance [Flt α] [Flt β] : Flt (α × β) := ⟨fun a => by show flat (.tup [Tv.t a.1, Tv.t a.2]) = true; simp [Flt.ft]⟩
instance [Flt α] : Flt (Option α) := ⟨fun a => by cases a with | none => show flat .non = true; simp | some a => exact Flt.ft a⟩
instance : Ky (Int × Int) := ⟨fun a => rfl⟩
instance : Ky ((Int × Int) × (Int × Int)) := ⟨fun a => rfl⟩
end
theorem inKeys_pts : ∀ (n : Nat) (xs : List (Int × Int)), inKeysT (n + 1) (xs.map Tv.t) = true
  | n, [] => by simp [inKeysT]
  | n, x :: xs => by
    rw [List.map_cons, inKeysT, inKeys_pts n xs]
    show (inKeyT (n + 1) (.tup [.int x.1, .int x.2]) && true) = true
    simp [inKeyT, inKeysT]
instance : Ky (Tu (Int × Int)) := ⟨fun a => by show inKeysT 7 (a.xs.map Tv.t) = true; exact inKeys_pts 6 a.xs⟩
instance : Lo Int := ⟨fun a b => decide (a < b), fun a b => lt_iT⟩
instance : Lo (Int × Int) := ⟨fun a b => decide (ltP a b), fun a b => ltT_pT⟩
instance : Lo ((Int × Int) × (Int × Int)) := ⟨fun a b => decide (ltS a b), fun a b => ltT_sT⟩
instance : So (Int × Int) := ⟨leP, sortT_pts⟩
instance : So ((Int × Int) × (Int × Int)) := ⟨leS, sortT_sds⟩
section
variable {α β γ : Type} [Tv α] [Tv β] [Tv γ]
instance : Kd1 Int := ⟨fun t => decide (t = .int), fun a t => isi_iT⟩
instance : Kd1 Bool := ⟨fun t => decide (t = .bool) || decide (t = .int), fun a t => isi_bT⟩
instance : Kd1 Unit := ⟨fun t => false, fun a t => rfl⟩
instance : Kd1 Str := ⟨fun t => decide (t = .str), fun a t => isi_sT⟩
instance : Kd1 (α × β) := ⟨fun t => decide (t = .tuple), fun a t => isi_tT⟩
instance : Kd1 (P3 α β γ) := ⟨fun t => decide (t = .tuple), fun a t => isi_tT⟩
instance : Kd1 (Tu α) := ⟨fun t => decide (t = .tuple), fun a t => isi_tT⟩
instance : Kd1 (List α) := ⟨fun t => decide (t = .list), fun a t => isi_lT⟩
instance : Kd1 (H2 α β) := ⟨fun t => decide (t = .list), fun a t => isi_lT⟩
end
end Ev

/-! Typed operations, and what the evaluator's operations do on trees of typed values. -/
namespace Ev
open PySem
section
variable {α β γ κ ν : Type}
def eqB [DecidableEq α] (a b : α) : Bool := decide (a = b)
def memB [DecidableEq α] (a : α) (xs : List α) : Bool := decide (a ∈ xs)
def itemL (xs : List α) (i : Int) : Option α := (place xs.length i).bind fun j => xs[j]?
def setL (xs : List α) (i : Int) (v : α) : Option (List α) := (place xs.length i).map fun j => xs.set j v
def mkL (xs : List α) : Option (List α) := if xs.length ≤ 16777216 then some xs else none
def pushL (xs : List α) (x : α) : Option (List α) := if xs.length < 16777216 then some (xs ++ [x]) else none
def lastL (xs : List α) : Option α := xs[xs.length - 1]?
def popL (xs : List α) (i : Int) : Option (α × List α) := (place xs.length i).bind fun j => (xs[j]?).map fun y => (y, xs.eraseIdx j)
def cutP (xs : List α) (lo hi : Option Int) : List α := (xs.drop (sIx xs.length 0 lo)).take (sIx xs.length xs.length hi - sIx xs.length 0 lo)
@[irreducible] def rangeL (lo hi : Int) : Option (List Int) := if -lineR ≤ lo ∧ lo < lineR ∧ -lineR ≤ hi ∧ hi < lineR then some ((List.range (hi - lo).toNat).map fun k => lo + (k : Nat)) else none
def enumL (xs : List α) : List (Int × α) := (List.range xs.length).zipWith (fun k d => ((k : Nat), d)) xs
@[irreducible] def repL (xs : List α) (n : Int) : Option (List α) := if xs.length * n.toNat ≤ 16777216 ∧ -(2 ^ 63) ≤ n ∧ n < 2 ^ 63 then mkL (List.replicate n.toNat xs).flatten else none
def sortL [Tv α] [So α] (xs : List α) : List α := xs.mergeSort So.le
def un2 (xs : List α) : Option (α × α) := match xs with | [a, b] => some (a, b) | _ => none
def un4 (xs : List α) : Option (α × α × α × α) := match xs with | [a, b, c, d] => some (a, b, c, d) | _ => none
theorem un2_eq {xs : List α} {p : α × α} (h : un2 xs = some p) : xs = [p.1, p.2] := by
  unfold un2 at h
  split at h
  · cases h; rfl
  · cases h
theorem un4_eq {xs : List α} {p : α × α × α × α} (h : un4 xs = some p) : xs = [p.1, p.2.1, p.2.2.1, p.2.2.2] := by
  unfold un4 at h
  split at h
  · cases h; rfl
  · cases h
namespace Dc
variable [DecidableEq κ]
def get (d : Dc κ ν) (k : κ) : Option ν := (d.kvs.find? fun p => decide (p.1 = k)).map (·.2)
def has (d : Dc κ ν) (k : κ) : Bool := (d.get k).isSome
def set (d : Dc κ ν) (k : κ) (v : ν) : Dc κ ν := ⟨if d.kvs.any (fun p => decide (p.1 = k)) then d.kvs.map (fun p => if p.1 = k then (p.1, v) else p) else d.kvs ++ [(k, v)]⟩
def put (d : Dc κ ν) (k : κ) (v : ν) : Option (Dc κ ν) := if d.kvs.length < 16777216 then some (d.set k v) else none
def del (d : Dc κ ν) (k : κ) : Dc κ ν := ⟨d.kvs.filter fun p => decide (p.1 ≠ k)⟩
def pop (d : Dc κ ν) (k : κ) : Option (ν × Dc κ ν) := (d.get k).map fun v => (v, d.del k)
def keys (d : Dc κ ν) : List κ := d.kvs.map (·.1)
def len (d : Dc κ ν) : Nat := d.kvs.length
def nil : Dc κ ν := ⟨[]⟩
def one (k : κ) (v : ν) : Dc κ ν := ⟨[(k, v)]⟩
end Dc
end
/-! ### trees -/
section
variable {α β γ κ ν : Type} [Tv α] [Tv β] [Tv γ] [Tv κ] [Tv ν]
theorem tv_int {i : Int} : (Tv.t i : T) = .int i := (rfl)
theorem tv_bool {i : Bool} : (Tv.t i : T) = .bl i := (rfl)
theorem tv_unit {i : Unit} : (Tv.t i : T) = .non := (rfl)
theorem tv_str {i : Str} : (Tv.t i : T) = .str i := (rfl)
theorem tv_T {i : T} : (Tv.t i : T) = i := (rfl)
theorem tv_scr {s : Sc} : (Tv.t s : T) = .scr s.ns := (rfl)
theorem tv_some {a : α} : Tv.t (some a) = Tv.t a := (rfl)
theorem tv_none : Tv.t (none : Option α) = T.non := (rfl)
theorem tv_list {xs : List α} : Tv.t xs = T.lst (xs.map Tv.t) := rfl
theorem tv_dc {d : Dc κ ν} : Tv.t d = T.dct (d.kvs.map fun p => (Tv.t p.1, Tv.t p.2)) := rfl
theorem f_ii {a b : Int} : T.tup [.int a, .int b] = Tv.t (a, b) := (rfl)
theorem f_tt {a : α} {b : β} : T.tup [Tv.t a, Tv.t b] = Tv.t (a, b) := (rfl)
theorem f_ti {a : α} {b : Int} : T.tup [Tv.t a, .int b] = Tv.t (a, b) := (rfl)
theorem f_it {a : Int} {b : α} : T.tup [.int a, Tv.t b] = Tv.t (a, b) := (rfl)
theorem f_st {a : Str} {b : β} : T.tup [.str a, Tv.t b] = Tv.t (a, b) := (rfl)
theorem f_ttt {a : α} {b : β} {c : γ} : T.tup [Tv.t a, Tv.t b, Tv.t c] = Tv.t (P3.mk a b c) := (rfl)
theorem f_tti {a : α} {b : β} {c : Int} : T.tup [Tv.t a, Tv.t b, .int c] = Tv.t (P3.mk a b c) := (rfl)
theorem f_stt {a : Str} {b : β} {c : γ} : T.tup [.str a, Tv.t b, Tv.t c] = Tv.t (P3.mk a b c) := (rfl)
theorem f_l1 {a : α} : T.lst [Tv.t a] = Tv.t [a] := (rfl)
theorem f_l2 {a b : α} : T.lst [Tv.t a, Tv.t b] = Tv.t [a, b] := (rfl)
theorem f_l3 {a b c : α} : T.lst [Tv.t a, Tv.t b, Tv.t c] = Tv.t [a, b, c] := (rfl)
theorem f_l4 {a b c d : α} : T.lst [Tv.t a, Tv.t b, Tv.t c, Tv.t d] = Tv.t [a, b, c, d] := (rfl)
theorem f_lp {a b : α × α} {c d e f g h : α × α} : T.lst [Tv.t a, Tv.t b, Tv.t c, Tv.t d, Tv.t e, Tv.t f, Tv.t g, Tv.t h] = Tv.t [a, b, c, d, e, f, g, h] := (rfl)
theorem f_i2 {a b : Int} : T.lst [.int a, .int b] = Tv.t [a, b] := (rfl)
theorem f_i3 {a b c : Int} : T.lst [.int a, .int b, .int c] = Tv.t [a, b, c] := (rfl)
theorem f_i4 {a b c d : Int} : T.lst [.int a, .int b, .int c, .int d] = Tv.t [a, b, c, d] := (rfl)
theorem f_i5 {a b c d e : Int} : T.lst [.int a, .int b, .int c, .int d, .int e] = Tv.t [a, b, c, d, e] := (rfl)
/-! sequences -/
theorem b_seqL {xs : List α} : seqT (Tv.t xs) = some (xs.map Tv.t) := (rfl)
theorem b_lisL {xs : List α} : lisT (Tv.t xs) = some (xs.map Tv.t) := (rfl)
theorem b_seqP {p : α × β} : seqT (Tv.t p) = some [Tv.t p.1, Tv.t p.2] := (rfl)
theorem b_seqU {xs : Tu α} : seqT (Tv.t xs) = some (xs.xs.map Tv.t) := (rfl)
theorem b_lenL {xs : List α} : biT .len [Tv.t xs] = some (.int xs.length, false) := by
  show some (T.int ((xs.map Tv.t).length : Nat), false) = _
  rw [List.length_map]
theorem b_lenP {p : α × β} : biT .len [Tv.t p] = some (.int 2, false) := (rfl)
theorem b_lenP3 {p : P3 α β γ} : biT .len [Tv.t p] = some (.int 3, false) := (rfl)
theorem b_lenU {xs : Tu α} : biT .len [Tv.t xs] = some (.int xs.xs.length, false) := by
  show some (T.int ((xs.xs.map Tv.t).length : Nat), false) = _
  rw [List.length_map]
theorem b_lenD [DecidableEq κ] {d : Dc κ ν} : biT .len [Tv.t d] = some (.int d.len, false) := by
  show some (T.int ((d.kvs.map _).length : Nat), false) = _
  rw [List.length_map]; rfl
theorem item_mapL {f : α → T} {xs : List α} {i : Int} : itemT (xs.map f) i = (itemL xs i).map f := by
  unfold itemT itemL
  rw [List.length_map]
  cases place xs.length i with
  | none => rfl
  | some j => simp
theorem b_ixL {xs : List α} {i : Int} : ixT (Tv.t xs) (.int i) = (itemL xs i).map Tv.t := item_mapL
theorem b_ixS {ns : List Int} {i : Int} : ixT (.scr ns) (.int i) = (itemL ns i).map T.int := item_mapL
theorem b_ixP0 {p : α × β} : ixT (Tv.t p) (.int 0) = some (Tv.t p.1) := (rfl)
theorem b_ixP1 {p : α × β} : ixT (Tv.t p) (.int 1) = some (Tv.t p.2) := (rfl)
theorem b_ixQ0 {p : P3 α β γ} : ixT (Tv.t p) (.int 0) = some (Tv.t p.a) := (rfl)
theorem b_ixQ1 {p : P3 α β γ} : ixT (Tv.t p) (.int 1) = some (Tv.t p.b) := (rfl)
theorem b_ixQ2 {p : P3 α β γ} : ixT (Tv.t p) (.int 2) = some (Tv.t p.c) := (rfl)
theorem b_ixH0 {p : H2 α β} : ixT (Tv.t p) (.int 0) = some (Tv.t p.a) := (rfl)
theorem b_ixH1 {p : H2 α β} : ixT (Tv.t p) (.int 1) = some (Tv.t p.b) := (rfl)
theorem b_ixK0 {p : H3 α β γ} : ixT (Tv.t p) (.int 0) = some (Tv.t p.a) := (rfl)
theorem b_ixK1 {p : H3 α β γ} : ixT (Tv.t p) (.int 1) = some (Tv.t p.b) := (rfl)
theorem b_ixK2 {p : H3 α β γ} : ixT (Tv.t p) (.int 2) = some (Tv.t p.c) := (rfl)
theorem b_slL {xs : List α} {lo hi : Option Int} : slT (Tv.t xs) lo hi = some (Tv.t (cutP xs lo hi)) := by
  show some (T.lst (cutL (xs.map Tv.t) lo hi)) = some (T.lst ((cutP xs lo hi).map Tv.t))
  unfold cutL cutP
  rw [List.length_map, ← List.map_drop, ← List.map_take]
theorem b_slS {ns : List Int} {lo hi : Option Int} : slT (.scr ns) lo hi = some (Tv.t (cutP ns lo hi)) := b_slL (xs := ns)
theorem okL_map {xs : List α} : okL (xs.map Tv.t) = (mkL xs).map fun ys => (Tv.t ys, true) := by
  unfold okL mkL line
  rw [List.length_map]
  split <;> rfl
theorem b_addL {xs ys : List α} : binT .Add (Tv.t xs) (Tv.t ys) = (mkL (xs ++ ys)).map fun zs => (Tv.t zs, true) := by
  show okL (xs.map Tv.t ++ ys.map Tv.t) = _
  rw [← List.map_append, okL_map]
theorem b_mulL {xs : List α} {n : Int} : binT .Mult (Tv.t xs) (.int n) = (repL xs n).map fun zs => (Tv.t zs, true) := by
  show (if (xs.map Tv.t).length * n.toNat ≤ line ∧ -(2 ^ 63) ≤ n ∧ n < 2 ^ 63 then okL (List.replicate n.toNat (xs.map Tv.t)).flatten else none) = _
  unfold repL line
  rw [List.length_map]
  split
  · have e : (List.replicate n.toNat (xs.map (Tv.t (α := α)))).flatten = (List.replicate n.toNat xs).flatten.map Tv.t := by
      rw [List.map_flatten, List.map_replicate]
    rw [e, okL_map]
  · rfl
theorem b_sort [So α] {xs : List α} : biT .sorted [Tv.t xs] = (mkL (sortL xs)).map fun ys => (Tv.t ys, true) := by
  show (((some (xs.map Tv.t)).bind sortT).bind okL) = _
  rw [Option.bind_some, So.h, Option.bind_some, okL_map]; rfl
theorem b_sortD [DecidableEq κ] [So κ] {d : Dc κ ν} : biT .sorted [Tv.t d] = (mkL (sortL d.keys)).map fun ys => (Tv.t ys, true) := by
  show (sortT ((d.kvs.map fun p => ((Tv.t p.1 : T), (Tv.t p.2 : T))).map (·.1))).bind okL = _
  have e : (d.kvs.map fun p => ((Tv.t p.1 : T), (Tv.t p.2 : T))).map (·.1) = d.keys.map Tv.t := by
    unfold Dc.keys
    rw [List.map_map, List.map_map]; rfl
  rw [e, So.h, Option.bind_some, okL_map]; rfl
theorem b_list {xs : List α} : biT .list [Tv.t xs] = (mkL xs).map fun ys => (Tv.t ys, true) := okL_map
theorem b_listS {ns : List Int} : biT .list [.scr ns] = (mkL ns).map fun ys => (Tv.t ys, true) := okL_map (xs := ns)
theorem b_tuple {xs : List α} : biT .tuple [Tv.t xs] = some (Tv.t (Tu.mk xs), false) := (rfl)
theorem b_tuple2 {xs : List α} {a b : α} (h : xs = [a, b]) : biT .tuple [Tv.t xs] = some (Tv.t (a, b), false) := by subst h; rfl
theorem intsT_map : ∀ ns : List Int, intsT (ns.map T.int) = some ns
  | [] => rfl
  | n :: ns => by simp [intsT, intsT_map ns]
theorem b_sum {ns : List Int} : biT .sum [Tv.t ns] = some (.int ns.sum, false) := by
  show ((some (ns.map T.int)).bind intsT).map _ = _
  simp [intsT_map]
theorem b_min {ns : List Int} : biT .min1 [Tv.t ns] = (least ns).map fun m => (.int m, false) := by
  show (((some (ns.map T.int)).bind intsT).bind least).map _ = _
  simp [intsT_map]
theorem b_max {ns : List Int} : biT .max1 [Tv.t ns] = (most ns).map fun m => (.int m, false) := by
  show (((some (ns.map T.int)).bind intsT).bind most).map _ = _
  simp [intsT_map]
/-! comparing -/
theorem b_eq12 [DecidableEq α] [Cq α] (h : Cq.n α ≤ 12) {a b : α} : cmpT .Eq (Tv.t a) (Tv.t b) = some (eqB a b) := by
  letI := emOf α
  show eqT (Em.t a) (Em.t b) = _
  exact eqT_em h
theorem b_eq [DecidableEq α] [Cq α] [Cb α] {a b : α} : cmpT .Eq (Tv.t a) (Tv.t b) = some (eqB a b) := b_eq12 (Nat.le_succ_of_le Cb.le)
theorem b_ne12 [DecidableEq α] [Cq α] (h : Cq.n α ≤ 12) {a b : α} : cmpT .NotEq (Tv.t a) (Tv.t b) = some (!eqB a b) := by
  have := b_eq12 h (a := a) (b := b)
  have e : cmpT .NotEq (Tv.t a) (Tv.t b) = (cmpT .Eq (Tv.t a) (Tv.t b)).map (!·) := rfl
  rw [e, this]; rfl
theorem b_ne [DecidableEq α] [Cq α] [Cb α] {a b : α} : cmpT .NotEq (Tv.t a) (Tv.t b) = some (!eqB a b) := b_ne12 (Nat.le_succ_of_le Cb.le)
theorem b_lt [Lo α] {a b : α} : cmpT .Lt (Tv.t a) (Tv.t b) = some (Lo.lt a b) := Lo.h a b
theorem b_isN [Nn α] {a : α} : cmpT .Is (Tv.t a) .non = some false := by rw [is_nT]; simp [Nn.nn]
theorem b_isnN [Nn α] {a : α} : cmpT .IsNot (Tv.t a) .non = some true := by rw [isn_nT]; simp [Nn.nn]
theorem b_isO [Nn α] {o : Option α} : cmpT .Is (Tv.t o) .non = some o.isNone := by
  cases o with
  | none => rfl
  | some a => exact b_isN (a := a)
theorem b_isnO [Nn α] {o : Option α} : cmpT .IsNot (Tv.t o) .non = some o.isSome := by
  cases o with
  | none => rfl
  | some a => exact b_isnN (a := a)
theorem b_in [DecidableEq α] [Cq α] [Cb α] {a : α} {xs : List α} : inT (Tv.t a) (Tv.t xs) = some (memB a xs) := by
  have h : Cq.n α ≤ 12 := Nat.le_succ_of_le Cb.le
  letI := emOf α
  show inT (Em.t a) (.lst (xs.map Em.t)) = _
  rw [inT_em h rfl]; rfl
theorem b_inP [DecidableEq α] [Cq α] [Cb α] {a : α} {p : α × α} : inT (Tv.t a) (Tv.t p) = some (memB a [p.1, p.2]) := b_in (xs := [p.1, p.2])
theorem b_inI {a : Int} {xs : List Int} : inT (.int a) (Tv.t xs) = some (memB a xs) := b_in (α := Int)
theorem b_isi [Kd1 α] {a : α} {t : Ty} : isiT (Tv.t a) t = some (Kd1.ty α t) := Kd1.h a t
theorem b_min2 [Lo α] {a b : α} : biT .min2 [Tv.t a, Tv.t b] = some (Tv.t (if Lo.lt b a = true then b else a), false) := by
  show (ltT (Tv.t b) (Tv.t a)).map _ = _
  rw [Lo.h]
  simp only [Option.map_some]
  split <;> rfl
theorem b_max2 [Lo α] {a b : α} : biT .max2 [Tv.t a, Tv.t b] = some (Tv.t (if Lo.lt a b = true then b else a), false) := by
  show (ltT (Tv.t a) (Tv.t b)).map _ = _
  rw [Lo.h]
  simp only [Option.map_some]
  split <;> rfl
theorem b_min2i {a b : Int} : biT .min2 [.int a, .int b] = some (.int (min a b), false) := by
  refine (b_min2 (α := Int) (a := a) (b := b)).trans ?_
  show some (T.int (if decide (b < a) = true then b else a), false) = _
  congr 3
  by_cases h : b < a
  · rw [if_pos (decide_eq_true h)]; omega
  · rw [if_neg (by simpa using h)]; omega
theorem b_max2i {a b : Int} : biT .max2 [.int a, .int b] = some (.int (max a b), false) := by
  refine (b_max2 (α := Int) (a := a) (b := b)).trans ?_
  show some (T.int (if decide (a < b) = true then b else a), false) = _
  congr 3
  by_cases h : a < b
  · rw [if_pos (decide_eq_true h)]; omega
  · rw [if_neg (by simpa using h)]; omega
theorem b_eqN {xs : List α} : cmpT .Eq (Tv.t xs) (.lst []) = (tP deep (Tv.t xs)).map fun _ => xs.isEmpty := by
  unfold cmpT eqT
  cases h : tP deep (Tv.t xs) with
  | none => rfl
  | some d =>
    have h' : (tPs 11 (xs.map Tv.t)).map PyData.list = some d := h
    cases h2 : tPs 11 (xs.map Tv.t) with
    | none => rw [h2] at h'; cases h'
    | some ds =>
      rw [h2] at h'
      cases h'
      have hn : tP deep (T.lst []) = some (.list []) := rfl
      simp only [hn, Option.map_some, Option.some.injEq]
      cases xs with
      | nil => simp only [List.map_nil, tPs] at h2; cases h2; rfl
      | cons x xs =>
        rw [List.map_cons, tPs] at h2
        split at h2
        · cases h2; rfl
        · cases h2
/-! methods -/
theorem b_push {xs : List α} {x : α} : mtT .append (Tv.t xs) [Tv.t x] = (pushL xs x).map fun ys => (.non, Tv.t ys) := by
  show (if (xs.map Tv.t).length < line then some (T.non, T.lst (xs.map Tv.t ++ [Tv.t x])) else none) = _
  unfold pushL line
  rw [List.length_map]
  split
  · rw [Option.map_some, tv_list, List.map_append]; rfl
  · rfl
theorem b_clear {xs : List α} : mtT .clear (Tv.t xs) [] = some (.non, Tv.t ([] : List α)) := (rfl)
theorem b_pop0 {xs : List α} : mtT .pop0 (Tv.t xs) [] = (lastL xs).map fun y => (Tv.t y, Tv.t xs.dropLast) := by
  show (((xs.map Tv.t)[(xs.map Tv.t).length - 1]?).map fun y => (y, T.lst (xs.map Tv.t).dropLast)) = _
  unfold lastL
  rw [List.length_map, List.getElem?_map, Option.map_map, ← List.map_dropLast]
  rfl
theorem b_pop1L {xs : List α} {i : Int} : mtT .pop1 (Tv.t xs) [.int i] = (popL xs i).map fun p => (Tv.t p.1, Tv.t p.2) := by
  show ((place (xs.map Tv.t).length i).bind fun j => (((xs.map Tv.t)[j]?).map fun y => (y, T.lst ((xs.map Tv.t).eraseIdx j)))) = _
  unfold popL
  rw [List.length_map]
  cases place xs.length i with
  | none => rfl
  | some j =>
    simp only [Option.bind_some, List.getElem?_map, Option.map_map]
    congr 1
    funext y
    simp only [Function.comp, tv_list]
    rw [List.eraseIdx_eq_take_drop_succ, List.eraseIdx_eq_take_drop_succ, List.map_append, List.map_take, List.map_drop]
theorem b_kL {m : Mt} {xs : List α} : kM m (Tv.t xs) = if mtOk .l m then some .l else none := (rfl)
theorem b_kD {m : Mt} {d : Dc κ ν} : kM m (Tv.t d) = if mtOk .d m then some .d else none := (rfl)
theorem b_putL {xs : List α} {i : Int} {x : α} : putT (Tv.t xs) (.int i) (Tv.t x) = (setL xs i x).map Tv.t := by
  show ((place (xs.map Tv.t).length i).map fun j => T.lst ((xs.map Tv.t).set j (Tv.t x))) = _
  unfold setL
  rw [List.length_map, Option.map_map]
  congr 1
  funext j
  simp only [Function.comp, tv_list, List.map_set]
section
variable [DecidableEq κ] [Cq κ] [Ky κ]
theorem tv_inj {a b : κ} (h : (Tv.t a : T) = Tv.t b) : a = b := by
  letI := emOf κ
  exact em_inj (α := κ) h
theorem tv_iff {a b : κ} : ((Tv.t a : T) = Tv.t b) = (a = b) := propext ⟨tv_inj, fun h => by rw [h]⟩
theorem get_tv {k : κ} : ∀ kvs : List (κ × ν), tGet (kvs.map fun p => ((Tv.t p.1 : T), (Tv.t p.2 : T))) (Tv.t k) = ((kvs.find? fun p => decide (p.1 = k)).map (·.2)).map Tv.t
  | [] => rfl
  | q :: kvs => by
    have ih := get_tv (k := k) kvs
    unfold tGet at *
    simp only [List.map_cons, List.find?_cons, tv_iff]
    by_cases h : q.1 = k
    · simp [h]
    · simp only [h, decide_false]
      exact ih
theorem b_get {d : Dc κ ν} {k : κ} : ixT (Tv.t d) (Tv.t k) = (d.get k).map Tv.t := by
  show (if isKeyT (Tv.t k) then tGet _ (Tv.t k) else none) = _
  rw [if_pos (Ky.ky k), get_tv]; rfl
theorem b_has {d : Dc κ ν} {k : κ} : inT (Tv.t k) (Tv.t d) = some (d.has k) := by
  show (if isKeyT (Tv.t k) then some (tGet _ (Tv.t k)).isSome else none) = _
  rw [if_pos (Ky.ky k), get_tv, Option.isSome_map]; rfl
theorem set_tv {d : Dc κ ν} {k : κ} {v : ν} : tSet (d.kvs.map fun p => ((Tv.t p.1 : T), (Tv.t p.2 : T))) (Tv.t k) (Tv.t v) = (d.set k v).kvs.map fun p => ((Tv.t p.1 : T), (Tv.t p.2 : T)) := by
  unfold tSet Dc.set
  have e : ((d.kvs.map fun q => ((Tv.t q.1 : T), (Tv.t q.2 : T))).any fun p => decide (p.1 = Tv.t k)) = d.kvs.any fun p => decide (p.1 = k) := by
    rw [List.any_map]
    congr 1
    funext q
    simp [tv_iff]
  rw [e]
  split
  · rw [List.map_map, List.map_map]
    apply List.map_congr_left
    intro q _
    simp only [Function.comp, tv_iff]
    split <;> rfl
  · simp
theorem b_put {d : Dc κ ν} {k : κ} {v : ν} : putT (Tv.t d) (Tv.t k) (Tv.t v) = (d.put k v).map Tv.t := by
  show (if isKeyT (Tv.t k) && decide ((d.kvs.map _).length < line) then some (T.dct (tSet _ (Tv.t k) (Tv.t v))) else none) = _
  rw [Ky.ky, List.length_map]
  unfold Dc.put
  simp only [Bool.true_and, decide_eq_true_eq]
  rw [set_tv]
  unfold line
  split <;> rfl
theorem del_tv {d : Dc κ ν} {k : κ} : tDel (d.kvs.map fun p => ((Tv.t p.1 : T), (Tv.t p.2 : T))) (Tv.t k) = (d.del k).kvs.map fun p => ((Tv.t p.1 : T), (Tv.t p.2 : T)) := by
  unfold tDel Dc.del
  rw [List.filter_map]
  congr 1
  apply List.filter_congr
  intro q _
  simp [tv_iff]
theorem b_popD {d : Dc κ ν} {k : κ} : mtT .pop1 (Tv.t d) [Tv.t k] = (d.pop k).map fun p => (Tv.t p.1, Tv.t p.2) := by
  show (if isKeyT (Tv.t k) then (tGet _ (Tv.t k)).map (fun v => (v, T.dct (tDel _ (Tv.t k)))) else none) = _
  rw [if_pos (Ky.ky k), get_tv, del_tv]
  unfold Dc.pop Dc.get
  cases d.kvs.find? fun p => decide (p.1 = k) <;> rfl
theorem b_get2 {d : Dc κ ν} {k : κ} {v : ν} : mtT .get2 (Tv.t d) [Tv.t k, Tv.t v] = some (Tv.t ((d.get k).getD v), Tv.t d) := by
  show (if isKeyT (Tv.t k) then some ((tGet _ (Tv.t k)).getD (Tv.t v), T.dct _) else none) = _
  rw [if_pos (Ky.ky k), get_tv]
  unfold Dc.get
  cases d.kvs.find? fun p => decide (p.1 = k) <;> rfl
theorem b_get1 {d : Dc κ ν} {k : κ} : mtT .get1 (Tv.t d) [Tv.t k] = some (Tv.t (d.get k), Tv.t d) := by
  show (if isKeyT (Tv.t k) then some ((tGet _ (Tv.t k)).getD .non, T.dct _) else none) = _
  rw [if_pos (Ky.ky k), get_tv]
  unfold Dc.get
  cases d.kvs.find? fun p => decide (p.1 = k) <;> rfl
theorem b_key {k : κ} : isKeyT (Tv.t k) = true := Ky.ky k
theorem f_d0 : T.dct [] = Tv.t (Dc.nil : Dc κ ν) := (rfl)
theorem f_d1 {k : κ} {v : ν} : T.dct [(Tv.t k, Tv.t v)] = Tv.t (Dc.one k v) := (rfl)
end
theorem b_flat [Flt α] {a : α} : flat (Tv.t a) = true := Flt.ft a
/-! walks -/
theorem b_range {lo hi : Int} : rangeT lo hi = (rangeL lo hi).map fun xs => xs.map T.int := by
  unfold rangeT rangeL
  split
  · rw [Option.map_some, List.map_map]; rfl
  · rfl
theorem b_enum {xs : List α} : enumT (xs.map Tv.t) = (enumL xs).map Tv.t := by
  unfold enumT enumL
  rw [List.length_map, List.map_zipWith, List.zipWith_map_right]
  rfl
theorem b_zip {xs : List α} {ys : List β} : zipT (xs.map Tv.t) (ys.map Tv.t) = (xs.zip ys).map Tv.t := by
  unfold zipT
  rw [List.zip, List.map_zipWith, List.zipWith_map]
  rfl
end
end Ev

/-! What it means that the evaluator over trees gives what a typed text gives; one lemma for each construct. -/
namespace Ev
open PySem
section
variable {α β σ τ ρ : Type}
def RelS (cm : Cl → Nat) (kn kc : Bool) (E : σ → VEn → Prop) (X : VEn → Prop) (Q : ρ → T → Bool → VEn → Prop) (v : VFl) (m : Fw σ ρ) : Prop := match m with
  | .bad => True
  | .nx s => ∃ env, ((kn = true ∧ v = .nx env) ∨ (kc = true ∧ v = .ct env)) ∧ E s env
  | .rt r => ∃ t fr env, v = .rt t fr env ∧ Q r t fr env
  | .exc c fs => ∃ env, v = .exc (cm c) (fs.map T.int) env ∧ X env
def RelF (cm : Cl → Nat) (n : Nat) (t : ρ → T) (o : ρ → List T) (f : Option Bool) (v : VOut) (m : R ρ) : Prop := match m with
  | .bad => True
  | .ok r => ∃ fr, (∀ b, f = some b → fr = b) ∧ v = .ok (t r) fr (o r)
  | .exc c fs => ∃ os, os.length = n ∧ v = .exc (cm c) (fs.map T.int) os
/-- a value -/
def RelV [Tv α] (cm : Cl → Nat) (X : VEn → Prop) (env : VEn) (fr : Bool) (v : VR Opd) (m : R α) : Prop := match m with
  | .bad => True
  | .ok a => v = .ok (.v (Tv.t a) fr) env
  | .exc c fs => ∃ env, v = .exc (cm c) (fs.map T.int) env ∧ X env
/-- something that can be read -/
def RelP [Tv α] (cm : Cl → Nat) (X : VEn → Prop) (env : VEn) (v : VR Opd) (m : R α) : Prop := match m with
  | .bad => True
  | .ok a => ∃ o, v = .ok o env ∧ peek env o = some (Tv.t a)
  | .exc c fs => ∃ env, v = .exc (cm c) (fs.map T.int) env ∧ X env
/-- plain -/
def RelR (cm : Cl → Nat) (X : VEn → Prop) (env : VEn) (v : VR β) (g : α → β) (m : R α) : Prop := match m with
  | .bad => True
  | .ok a => v = .ok (g a) env
  | .exc c fs => ∃ env, v = .exc (cm c) (fs.map T.int) env ∧ X env
variable {cm : Cl → Nat} {X : VEn → Prop} {cl : VCl} {w : Nat} {env env1 env' : VEn} {kn kc : Bool} {E E1 E2 : σ → VEn → Prop} {Q : ρ → T → Bool → VEn → Prop}
/-! ### defs -/
def XF (MS : List Mode) (n : Nat) (env : VEn) : Prop := ∃ os, outsM MS env = some os ∧ os.length = n
def QF (MS : List Mode) (t : ρ → T) (o : ρ → List T) (f : Option Bool) (r : ρ) (t' : T) (fr : Bool) (env : VEn) : Prop := t' = t r ∧ (∀ b, f = some b → fr = b) ∧ outsM MS env = some (o r)
theorem rf_out {MS : List Mode} {n : Nat} {t : ρ → T} {o : ρ → List T} {f : Option Bool} {v : VFl} {m : Fw σ ρ} (h : RelS cm true false (fun _ _ => True) (XF MS n) (QF MS t o f) v m) : RelF cm n t o f (v.out MS) m.out := by
  cases m with
  | bad => trivial
  | nx s => trivial
  | rt r =>
    obtain ⟨t', fr, env, rfl, h1, h2, h3⟩ := h
    refine ⟨fr, h2, ?_⟩
    simp [h3, h1]
  | exc c fs =>
    obtain ⟨env, rfl, os, h1, h2⟩ := h
    exact ⟨os, h2, by simp [h1]⟩
/-- falling off the end -/
def Fw.outN (g : σ → ρ) (m : Fw σ ρ) : R ρ := match m with
  | .nx s => .ok (g s)
  | .rt r => .ok r
  | .exc c fs => .exc c fs
  | .bad => .bad
@[simp] theorem Fw.outN_nx {g : σ → ρ} {s : σ} : (Fw.nx s : Fw σ ρ).outN g = .ok (g s) := (rfl)
@[simp] theorem Fw.outN_rt {g : σ → ρ} {r : ρ} : (Fw.rt r : Fw σ ρ).outN g = .ok r := (rfl)
@[simp] theorem Fw.outN_exc {g : σ → ρ} {c : Cl} {fs : List Int} : (Fw.exc c fs : Fw σ ρ).outN g = .exc c fs := (rfl)
@[simp] theorem Fw.outN_bad {g : σ → ρ} : (Fw.bad : Fw σ ρ).outN g = .bad := (rfl)
@[simp] theorem Fw.outN_ite {p : Prop} [Decidable p] {g : σ → ρ} {x y : Fw σ ρ} : (if p then x else y).outN g = if p then x.outN g else y.outN g := by split <;> rfl
theorem rf_outN {MS : List Mode} {n : Nat} {t : ρ → T} {o : ρ → List T} {v : VFl} {m : Fw σ ρ} {g : σ → ρ} (h : RelS cm true false (fun s env => T.non = t (g s) ∧ outsM MS env = some (o (g s))) (XF MS n) (QF MS t o (some false)) v m) : RelF cm n t o (some false) (v.out MS) (m.outN g) := by
  cases m with
  | bad => trivial
  | nx s =>
    obtain ⟨env, h, h1, h2⟩ := h
    rcases h with ⟨-, rfl⟩ | ⟨h, -⟩
    · exact ⟨false, fun b h => by cases h; rfl, by simp [h1, h2]⟩
    · cases h
  | rt r =>
    obtain ⟨t', fr, env, rfl, h1, h2, h3⟩ := h
    refine ⟨fr, h2, ?_⟩
    simp [h3, h1]
  | exc c fs =>
    obtain ⟨env, rfl, os, h1, h2⟩ := h
    exact ⟨os, h2, by simp [h1]⟩
/-! ### statements -/
variable {s : S} {ss : List S}
theorem rs_start {m : Fw σ ρ} {b : List S} (h : env' = env) (h2 : RelS cm kn kc E X Q (vSs cl w b env) m) : RelS cm kn kc E X Q (vSs cl w b env') m := by rw [h]; exact h2
theorem rs_nx {m : Fw σ ρ} (h : vS cl w s env = .nx env') (h2 : RelS cm kn kc E X Q (vSs cl w ss env') m) : RelS cm kn kc E X Q (vSs cl w (s :: ss) env) m := by
  rw [vss_cons, h]; exact h2
theorem rs_end {x : σ} (h : E x env) : RelS cm true kc E X Q (vSs cl w [] env) (.nx x) := ⟨env, .inl ⟨rfl, by rw [vss_nil]⟩, h⟩
theorem rs_con {x : σ} (h : E x env) : RelS cm kn true E X Q (vSs cl w (.con :: ss) env) (.nx x) := ⟨env, .inr ⟨rfl, by rw [vss_cons, vs_con]; rfl⟩, h⟩
theorem rs_ret {t : T} {fr : Bool} {r : ρ} (h : vS cl w s env = .rt t fr env') (h2 : Q r t fr env') : RelS cm kn kc E X Q (vSs cl w (s :: ss) env) (.rt r) := ⟨t, fr, env', by rw [vss_cons, h]; rfl, h2⟩
theorem rs_exc {c : Cl} {fs : List Int} (h : vS cl w s env = .exc (cm c) (fs.map T.int) env') (h2 : X env') : RelS cm kn kc E X Q (vSs cl w (s :: ss) env) (.exc c fs) := ⟨env', by rw [vss_cons, h]; rfl, h2⟩
theorem rs_seq {m : Fw τ ρ} {E1 : τ → VEn → Prop} {k : τ → Fw σ ρ} (h : RelS cm true false E1 X Q (vS cl w s env) m) (h2 : ∀ x env', E1 x env' → RelS cm kn kc E X Q (vSs cl w ss env') (k x)) : RelS cm kn kc E X Q (vSs cl w (s :: ss) env) (m.bind k) := by
  rw [vss_cons]
  cases m with
  | bad => trivial
  | nx x =>
    obtain ⟨env1, h, hE⟩ := h
    rcases h with ⟨-, h⟩ | ⟨h, -⟩
    · rw [h]; exact h2 x env1 hE
    · cases h
  | rt r =>
    obtain ⟨t, fr, e, h, hq⟩ := h
    exact ⟨t, fr, e, by rw [h]; rfl, hq⟩
  | exc c fs =>
    obtain ⟨e, h, hx⟩ := h
    exact ⟨e, by rw [h]; rfl, hx⟩
theorem rs_ite {c : Ev.E} {a b : List S} {k : Bool} {ma mb : Fw σ ρ} (h : ((vE cl c env).bind fun o env => asBo env o) = .ok k env1) (ha : RelS cm kn kc E X Q (vSs cl w a env1) ma) (hb : RelS cm kn kc E X Q (vSs cl w b env1) mb) : RelS cm kn kc E X Q (vS cl w (.ite c a b) env) (if k = true then ma else mb) := by
  rw [vs_ite, h, vf_ok]
  cases k with
  | true => simpa using ha
  | false => simpa using hb
theorem vSs_app {a b : List S} : vSs cl w (a ++ b) env = (vSs cl w a env).andThen (vSs cl w b) := by
  induction a generalizing env with
  | nil => simp
  | cons s a ih =>
    rw [List.cons_append, vss_cons, vss_cons]
    cases vS cl w s env with
    | nx e => simp only [vfl_nx]; exact ih
    | _ => rfl
theorem rs_thru {v : VFl} {m : Fw σ ρ} {k : VEn → VFl} (h : RelS cm false kc E X Q v m) : RelS cm kn kc E X Q (v.andThen k) m := by
  cases m with
  | bad => trivial
  | nx x =>
    obtain ⟨e, h, hE⟩ := h
    rcases h with ⟨h, -⟩ | ⟨hk, h⟩
    · cases h
    · exact ⟨e, .inr ⟨hk, by rw [h]; rfl⟩, hE⟩
  | rt r =>
    obtain ⟨t, fr, e, h, hq⟩ := h
    exact ⟨t, fr, e, by rw [h]; rfl, hq⟩
  | exc c fs =>
    obtain ⟨e, h, hx⟩ := h
    exact ⟨e, by rw [h]; rfl, hx⟩
/-- the first suite doesn't fall through -/
theorem rs_itex {c : Ev.E} {a b : List S} {k : Bool} {ma mb : Fw σ ρ} (h : ((vE cl c env).bind fun o env => asBo env o) = .ok k env1) (ha : RelS cm false kc E X Q (vSs cl w a env1) ma) (hb : RelS cm kn kc E X Q (vSs cl w (b ++ ss) env1) mb) : RelS cm kn kc E X Q (vSs cl w (.ite c a b :: ss) env) (if k = true then ma else mb) := by
  rw [vss_cons, vs_ite, h, vf_ok]
  cases k with
  | true => simpa using rs_thru ha
  | false => rw [vSs_app] at hb; simpa using hb
/-- the second suite doesn't fall through -/
theorem rs_itey {c : Ev.E} {a b : List S} {k : Bool} {ma mb : Fw σ ρ} (h : ((vE cl c env).bind fun o env => asBo env o) = .ok k env1) (ha : RelS cm kn kc E X Q (vSs cl w (a ++ ss) env1) ma) (hb : RelS cm false kc E X Q (vSs cl w b env1) mb) : RelS cm kn kc E X Q (vSs cl w (.ite c a b :: ss) env) (if k = true then ma else mb) := by
  rw [vss_cons, vs_ite, h, vf_ok]
  cases k with
  | true => rw [vSs_app] at ha; simpa using ha
  | false => simpa using rs_thru hb
theorem rs_bd {tg : Tg} {b : List S} {x : T} {m : Fw σ ρ} (h : bindV tg x env = some env1) (h2 : RelS cm kn kc E X Q (vSs cl w b env1) m) : RelS cm kn kc E X Q (stepV cl w tg b x env) m := by
  rw [stepV_is, h]; exact h2
theorem rs_loop {em : α → T} {tg : Tg} {b : List S} {body : α → σ → Fw σ ρ} (hs : ∀ a s env, E1 s env → RelS cm true true E1 X Q (stepV cl w tg b (em a) env) (body a s)) : ∀ (as : List α) (s : σ) (env : VEn), E1 s env → RelS cm true false E1 X Q (loopV tg (fun env => vSs cl w b env) (as.map em) env) (forF body as s)
  | [], s, env, h => ⟨env, .inl ⟨rfl, by rw [List.map_nil, loopV]⟩, h⟩
  | a :: as, s, env, h => by
    have h1 := hs a s env h
    rw [List.map_cons, loopV, forF]
    unfold stepV at h1
    cases hb : bindV tg (em a) env with
    | none =>
      rw [hb] at h1
      simp only at h1 ⊢
      cases hm : body a s with
      | bad => trivial
      | nx x => rw [hm] at h1; obtain ⟨e, h1, -⟩ := h1; rcases h1 with ⟨-, h1⟩ | ⟨-, h1⟩ <;> cases h1
      | rt r => rw [hm] at h1; obtain ⟨t, fr, e, h1, -⟩ := h1; cases h1
      | exc c fs => rw [hm] at h1; obtain ⟨e, h1, -⟩ := h1; cases h1
    | some e1 =>
      rw [hb] at h1
      simp only at h1 ⊢
      cases hm : body a s with
      | bad => trivial
      | nx x =>
        rw [hm] at h1
        obtain ⟨e, h1, hE⟩ := h1
        rcases h1 with ⟨-, h1⟩ | ⟨-, h1⟩ <;> rw [h1] <;> simp only [vft_nx, vft_ct, Fw.bind_nx] <;> exact rs_loop hs as x e hE
      | rt r =>
        rw [hm] at h1
        obtain ⟨t, fr, e, h1, hq⟩ := h1
        exact ⟨t, fr, e, by rw [h1]; rfl, hq⟩
      | exc c fs =>
        rw [hm] at h1
        obtain ⟨e, h1, hx⟩ := h1
        exact ⟨e, by rw [h1]; rfl, hx⟩
theorem rs_fo {em : α → T} {as : List α} {tg : Tg} {it : I} {b : List S} {body : α → σ → Fw σ ρ} {s0 : σ} {lks : List Nat} (hI : vI cl it env = .ok ⟨as.map em, lks⟩ env1) (h0 : E1 s0 env1)
    (hs : ∀ a s env, E1 s env → RelS cm true true E1 X Q (stepV cl w tg b (em a) env) (body a s)) (hu : ∀ s env, E1 s env → E2 s (unlock env lks)) :
    RelS cm true false E2 X Q (vS cl w (.fo tg it b) env) (forF body as s0) := by
  have h := rs_loop hs as s0 env1 h0
  rw [vs_fo, hI]
  simp only [vf_ok]
  cases hm : forF body as s0 with
  | bad => trivial
  | nx x =>
    rw [hm] at h
    obtain ⟨e, h, hE⟩ := h
    rcases h with ⟨-, h⟩ | ⟨h, -⟩
    · exact ⟨_, .inl ⟨rfl, by rw [h]; rfl⟩, hu x e hE⟩
    · cases h
  | rt r =>
    rw [hm] at h
    obtain ⟨t, fr, e, h, hq⟩ := h
    exact ⟨t, fr, e, by rw [h]; rfl, hq⟩
  | exc c fs =>
    rw [hm] at h
    obtain ⟨e, h, hx⟩ := h
    exact ⟨e, by rw [h]; rfl, hx⟩
theorem rs_wloop {c : Ev.E} {b : List S} {test : σ → R Bool} {body : σ → Fw σ ρ} {w' : Nat} (ht : ∀ s env, E1 s env → RelR cm X env ((vE cl c env).bind fun o env => asBo env o) id (test s)) (hs : ∀ s env, E1 s env → RelS cm true true E1 X Q (vSs cl w b env) (body s)) :
    ∀ (n : Nat) (s : σ) (env : VEn), E1 s env → RelS cm true false E1 X Q (loopVW (fun env => (vE cl c env).bind fun o env => asBo env o) (fun env => vSs cl w b env) n env) (whileF test body n s)
  | 0, s, env, h => trivial
  | n + 1, s, env, h => by
    have h1 := ht s env h
    have h2 := hs s env h
    rw [loopVW, whileF]
    cases hm : test s with
    | bad => trivial
    | exc k fs =>
      rw [hm] at h1
      obtain ⟨e, h1, hx⟩ := h1
      exact ⟨e, by rw [h1]; rfl, hx⟩
    | ok k =>
      rw [hm] at h1
      have h1' : ((vE cl c env).bind fun o env => asBo env o) = .ok k env := h1
      rw [h1']
      simp only [vf_ok, R.fw_ok]
      cases k with
      | false => exact ⟨env, .inl ⟨rfl, rfl⟩, h⟩
      | true =>
        simp only [if_true]
        cases hb : body s with
        | bad => trivial
        | nx x =>
          rw [hb] at h2
          obtain ⟨e, h2, hE⟩ := h2
          rcases h2 with ⟨-, h2⟩ | ⟨-, h2⟩ <;> rw [h2] <;> simp only [vft_nx, vft_ct, Fw.bind_nx] <;> exact rs_wloop (w' := w') ht hs n x e hE
        | rt r =>
          rw [hb] at h2
          obtain ⟨t, fr, e, h2, hq⟩ := h2
          exact ⟨t, fr, e, by rw [h2]; rfl, hq⟩
        | exc k fs =>
          rw [hb] at h2
          obtain ⟨e, h2, hx⟩ := h2
          exact ⟨e, by rw [h2]; rfl, hx⟩
theorem rs_wh {c : Ev.E} {b : List S} {test : σ → R Bool} {body : σ → Fw σ ρ} {s0 : σ} (h0 : E1 s0 env) (ht : ∀ s env, E1 s env → RelR cm X env ((vE cl c env).bind fun o env => asBo env o) id (test s)) (hs : ∀ s env, E1 s env → RelS cm true true E1 X Q (vSs cl w b env) (body s)) :
    RelS cm true false E1 X Q (vS cl w (.wh c b) env) (whileF test body w s0) := by
  rw [vs_wh]
  exact rs_wloop (w' := w) ht hs w s0 env h0
/-! ### try -/
theorem rs_tri {m : Fw σ ρ} {hd : Cl → Fw σ ρ} {Xh : VEn → Prop} {rz : List Nat} {hs : List Hd} {RZ : List Cl} {b : List S} (hrz : ∀ c, RZ.contains c = true → rz.contains (cm c) = true) (hb : RelS cm true false E Xh Q (vSs cl w b env) m)
    (hh : ∀ c env', Xh env' → RelS cm true false E X Q (handleV (cm c) [] env' hs) (hd c)) : RelS cm true false E X Q (vS cl w (.tri rz b hs) env) (tryF m fun c => if RZ.contains c = true then hd c else .bad) := by
  rw [vs_tri]
  cases m with
  | bad => trivial
  | nx x =>
    obtain ⟨e, h, hE⟩ := hb
    rcases h with ⟨-, h⟩ | ⟨h, -⟩
    · exact ⟨e, .inl ⟨rfl, by rw [h]; rfl⟩, hE⟩
    · cases h
  | rt r =>
    obtain ⟨t, fr, e, h, hq⟩ := hb
    exact ⟨t, fr, e, by rw [h]; rfl, hq⟩
  | exc c fs =>
    obtain ⟨e, h, hx⟩ := hb
    cases fs with
    | cons _ _ => trivial
    | nil =>
      rw [h, tryF_exc]
      by_cases hc : RZ.contains c = true
      · rw [if_pos hc]
        have := hh c e hx
        rw [List.map_nil, catch_exc, hrz c hc]
        simpa using this
      · rw [if_neg hc]; trivial
theorem rh_one {c : Cl} {d : Cl} {h : Hd} {hs : List Hd} {ma mb : Fw σ ρ} (hd : xsub (cm c) h.c = c.is d) (he : wipeOV env h.n = some env1) (ha : RelS cm true false E X Q ((qVSs (cm c) h.b env1).gone h.n) ma) (hb : RelS cm true false E X Q (handleV (cm c) [] env hs) mb) : RelS cm true false E X Q (handleV (cm c) [] env (h :: hs)) (if c.is d = true then ma else mb) := by
  rw [hv_cons, hd, he]
  cases c.is d with
  | true => simpa using ha
  | false => simpa using hb
theorem rh_nil {c : Cl} (h : X env) : RelS cm true false E X Q (handleV (cm c) [] env []) (.exc c []) := ⟨env, by rw [hv_nil]; rfl, h⟩
theorem rq_gone {v : VFl} {m : Fw σ ρ} {n : Option Nat} (h : RelS cm true false E1 (fun _ => False) Q v m) (h2 : ∀ s env, E1 s env → ∃ env', wipeOV env n = some env' ∧ E s env') : RelS cm true false E X Q (v.gone n) m := by
  cases m with
  | bad => trivial
  | nx x =>
    obtain ⟨e, h, hE⟩ := h
    rcases h with ⟨-, h⟩ | ⟨h, -⟩
    · obtain ⟨e', h3, h4⟩ := h2 x e hE
      exact ⟨e', .inl ⟨rfl, by rw [h, gone_nx, h3]⟩, h4⟩
    · cases h
  | rt r =>
    obtain ⟨t, fr, e, h, hq⟩ := h
    exact ⟨t, fr, e, by rw [h]; rfl, hq⟩
  | exc c fs =>
    obtain ⟨e, h, hx⟩ := h
    exact hx.elim
variable {q : QS} {qs : List QS} {cn : Nat}
theorem rq_nx {m : Fw σ ρ} (h : qVS cn q env = .nx env') (h2 : RelS cm kn kc E X Q (qVSs cn qs env') m) : RelS cm kn kc E X Q (qVSs cn (q :: qs) env) m := by
  rw [vqs_cons, h]; exact h2
theorem rq_end {x : σ} (h : E x env) : RelS cm true kc E X Q (qVSs cn [] env) (.nx x) := ⟨env, .inl ⟨rfl, by rw [vqs_nil]⟩, h⟩
theorem rq_ret {t : T} {fr : Bool} {r : ρ} (h : qVS cn q env = .rt t fr env') (h2 : Q r t fr env') : RelS cm kn kc E X Q (qVSs cn (q :: qs) env) (.rt r) := ⟨t, fr, env', by rw [vqs_cons, h]; rfl, h2⟩
theorem rq_seq {m : Fw τ ρ} {E1 : τ → VEn → Prop} {k : τ → Fw σ ρ} (h : RelS cm true false E1 X Q (qVS cn q env) m) (h2 : ∀ x env', E1 x env' → RelS cm kn kc E X Q (qVSs cn qs env') (k x)) : RelS cm kn kc E X Q (qVSs cn (q :: qs) env) (m.bind k) := by
  rw [vqs_cons]
  cases m with
  | bad => trivial
  | nx x =>
    obtain ⟨env1, h, hE⟩ := h
    rcases h with ⟨-, h⟩ | ⟨h, -⟩
    · rw [h]; exact h2 x env1 hE
    · cases h
  | rt r =>
    obtain ⟨t, fr, e, h, hq⟩ := h
    exact ⟨t, fr, e, by rw [h]; rfl, hq⟩
  | exc c fs =>
    obtain ⟨e, h, hx⟩ := h
    exact ⟨e, by rw [h]; rfl, hx⟩
theorem rq_ite {t : QE} {a : List QS} {k : Bool} {ma mb : Fw σ ρ} (h : qV cn env t = some (.bl k)) (ha : RelS cm true false E X Q (qVSs cn a env) ma) (hb : RelS cm true false E X Q (.nx env) mb) : RelS cm true false E X Q (qVS cn (.ite t a) env) (if k = true then ma else mb) := by
  rw [vqs_ite, h]
  cases k with
  | true => simpa using ha
  | false => simpa using hb
theorem rq_skip {x : σ} (h : E x env) : RelS cm true kc E X Q (.nx env) (.nx x) := ⟨env, .inl ⟨rfl, rfl⟩, h⟩
/-! ### expressions -/
theorem rv_ok [Tv α] {a : α} {fr : Bool} {e : Ev.E} (h : vE cl e env = .ok (.v (Tv.t a) fr) env1) : RelV cm X env1 fr (vE cl e env) (.ok a) := h
theorem rp_v [Tv α] {fr : Bool} {v : VR Opd} {m : R α} (h : RelV cm X env fr v m) : RelP cm X env v m := by
  cases m with
  | bad => trivial
  | ok a => exact ⟨_, h, rfl⟩
  | exc c fs => exact h
theorem rp_ok [Tv α] {a : α} {v : VR Opd} {o : Opd} (h : v = .ok o env) (h2 : peek env o = some (Tv.t a)) : RelP cm X env v (.ok a) := ⟨o, h, h2⟩
theorem rv_not {a : Ev.E} {m : R Bool} (h : RelP cm X env (vE cl a env) m) : RelV cm X env false (vE cl (.not a) env) m.not := by
  rw [ve_not]
  cases m with
  | bad => trivial
  | ok b =>
    obtain ⟨o, h, h2⟩ := h
    rw [h, vr_ok]
    show (asBo env o).bind _ = _
    unfold asBo
    rw [h2]; rfl
  | exc c fs =>
    obtain ⟨e, h, hx⟩ := h
    exact ⟨e, by rw [h]; rfl, hx⟩
theorem rv_bop {op : BoolOp} {es : List Ev.E} {m : R Bool} (h : RelV cm X env false (vB cl op es env) m) : RelV cm X env false (vE cl (.bop op es) env) m := by rw [ve_bop]; exact h
theorem rb_one {op : BoolOp} {e : Ev.E} {m : R Bool} (h : RelP cm X env (vE cl e env) m) : RelV cm X env false (vB cl op [e] env) m := by
  rw [vb_one]
  cases m with
  | bad => trivial
  | ok b =>
    obtain ⟨o, h, h2⟩ := h
    rw [h, vr_ok]
    show (asBo env o).bind _ = _
    unfold asBo
    rw [h2]; rfl
  | exc c fs =>
    obtain ⟨e, h, hx⟩ := h
    exact ⟨e, by rw [h]; rfl, hx⟩
theorem rb_and {e f : Ev.E} {es : List Ev.E} {m m2 : R Bool} (h : RelP cm X env (vE cl e env) m) (h2 : RelV cm X env false (vB cl .And (f :: es) env) m2) : RelV cm X env false (vB cl .And (e :: f :: es) env) (m.and m2) := by
  rw [vb_and]
  cases m with
  | bad => trivial
  | ok b =>
    obtain ⟨o, h, h3⟩ := h
    rw [h, vr_ok]
    have e1 : asBo env o = .ok b env := by unfold asBo; rw [h3]; rfl
    rw [e1, vr_ok]
    cases b with
    | true => exact h2
    | false => rfl
  | exc c fs =>
    obtain ⟨e, h, hx⟩ := h
    exact ⟨e, by rw [h]; rfl, hx⟩
theorem rb_or {e f : Ev.E} {es : List Ev.E} {m m2 : R Bool} (h : RelP cm X env (vE cl e env) m) (h2 : RelV cm X env false (vB cl .Or (f :: es) env) m2) : RelV cm X env false (vB cl .Or (e :: f :: es) env) (m.or m2) := by
  rw [vb_or]
  cases m with
  | bad => trivial
  | ok b =>
    obtain ⟨o, h, h3⟩ := h
    rw [h, vr_ok]
    have e1 : asBo env o = .ok b env := by unfold asBo; rw [h3]; rfl
    rw [e1, vr_ok]
    cases b with
    | true => rfl
    | false => exact h2
  | exc c fs =>
    obtain ⟨e, h, hx⟩ := h
    exact ⟨e, by rw [h]; rfl, hx⟩
theorem rv_ite [Tv α] {c a b : Ev.E} {fr : Bool} {m : R Bool} {ma mb : R α} (h : RelP cm X env (vE cl c env) m) (ha : RelV cm X env fr (vE cl a env) ma) (hb : RelV cm X env fr (vE cl b env) mb) : RelV cm X env fr (vE cl (.ite c a b) env) (R.ite m ma mb) := by
  rw [ve_ite]
  cases m with
  | bad => trivial
  | ok k =>
    obtain ⟨o, h, h3⟩ := h
    rw [h, vr_ok]
    have e1 : asBo env o = .ok k env := by unfold asBo; rw [h3]; rfl
    rw [e1, vr_ok]
    cases k with
    | true => exact ha
    | false => exact hb
  | exc c fs =>
    obtain ⟨e, h, hx⟩ := h
    exact ⟨e, by rw [h]; rfl, hx⟩
/-- a partial step ahead -/
theorem rv_of [Tv α] {fr : Bool} {v : VR Opd} {o : Option β} {k : β → R α} (h : ∀ x, o = some x → RelV cm X env fr v (k x)) : RelV cm X env fr v ((R.of o).bind k) := by
  cases o with
  | none => trivial
  | some x => exact h x rfl
theorem rr_b {v : VR Opd} {m : R Bool} (h : RelP cm X env v m) : RelR cm X env (v.bind fun o env => asBo env o) id m := by
  cases m with
  | bad => trivial
  | ok b =>
    obtain ⟨o, h, h2⟩ := h
    show v.bind _ = _
    rw [h, vr_ok]
    show asBo env o = _
    unfold asBo
    rw [h2]; rfl
  | exc c fs =>
    obtain ⟨e, h, hx⟩ := h
    exact ⟨e, by rw [h]; rfl, hx⟩
theorem rr_t [Tv α] {fr : Bool} {v : VR Opd} {m : R α} (h : RelV cm X env fr v m) : RelR cm X env (v.bind fun o env => take env o) Tv.t m := by
  cases m with
  | bad => trivial
  | ok b =>
    have h' : v = .ok (.v (Tv.t b) fr) env := h
    show v.bind _ = _
    rw [h', vr_ok, take_v]
  | exc c fs =>
    obtain ⟨e, h, hx⟩ := h
    exact ⟨e, by rw [h]; rfl, hx⟩
/-! ### comprehensions -/
variable {own : List Nat} {tg : Tg} {it : I} {ifs : List Ev.E} {elt : Ev.E} {lks : List Nat} {em : α → T}
theorem lc_tot [Tv β] {e : α → VEn} (as : List α) (p : α → Bool) (f : α → β) (hI : vI cl it env = .ok ⟨as.map em, lks⟩ env1) (ho : ownOk env1 own = true) (ht : ((tgSlots tg).all fun i => own.contains i) = true) (hb : ∀ a, bindV tg (em a) (wipeV env1 own) = some (e a)) (htest : ∀ a, vTest cl ifs (e a) = .ok (p a) (e a)) (helt : ∀ a, ((vE cl elt (e a)).bind fun o env => take env o) = .ok (Tv.t (f a)) (e a)) {ys : List β} (hm : mkL ((as.filter p).map f) = some ys) (hu : unlock env1 lks = env') :
    vE cl (.lc own tg it ifs elt) env = .ok (.v (Tv.t ys) true) env' := by
  rw [lcV as p (fun a => Tv.t (f a)) hI ho ht (fun a _ => ⟨e a, hb a, htest a, fun _ => helt a⟩)]
  have e1 : (as.filter p).map (fun a => (Tv.t (f a) : T)) = ((as.filter p).map f).map Tv.t := by rw [List.map_map]; rfl
  rw [e1, okL_map, hm, hu]
  rfl
theorem lc_map [Tv β] {e : α → VEn} (as : List α) (f : α → β) (hI : vI cl it env = .ok ⟨as.map em, lks⟩ env1) (ho : ownOk env1 own = true) (ht : ((tgSlots tg).all fun i => own.contains i) = true) (hb : ∀ a, bindV tg (em a) (wipeV env1 own) = some (e a)) (helt : ∀ a, ((vE cl elt (e a)).bind fun o env => take env o) = .ok (Tv.t (f a)) (e a)) {ys : List β} (hm : mkL (as.map f) = some ys) (hu : unlock env1 lks = env') :
    vE cl (.lc own tg it [] elt) env = .ok (.v (Tv.t ys) true) env' :=
  lc_tot as (fun _ => true) f hI ho ht hb (fun a => by rw [vt_nil]) helt (by rw [List.filter_eq_self.mpr (fun _ _ => rfl)]; exact hm) hu
theorem loopVC_mon [Tv β] {e : α → VEn} {test : VEn → VR Bool} {eltv : VEn → VR T} (ho : ∀ i ∈ tgSlots tg, i ∈ own) (p : α → R Bool) (f : α → R β) (z : VEn) (hb : ∀ a, bindV tg (em a) z = some (e a)) (ht : ∀ a, RelR cm (fun _ => True) (e a) (test (e a)) id (p a)) (hf : ∀ a, RelR cm (fun _ => True) (e a) (eltv (e a)) Tv.t (f a)) :
    ∀ (as : List α) (env : VEn), wipeV env own = z → ∀ ys, compR p f as = .ok ys →
      ∃ env', loopVC own tg test eltv (as.map em) env = .ok (ys.map Tv.t) env' ∧ wipeV env' own = z
  | [], env, hz, ys, h => by cases h; exact ⟨env, by rw [List.map_nil, loopVC]; rfl, hz⟩
  | a :: as, env, hz, ys, h => by
    have h1 := hb a
    have hw : wipeV (e a) own = z := by rw [← hz] at h1 ⊢; exact wipe_bind h1 ho
    rw [compR] at h
    cases hp : p a with
    | bad => rw [hp] at h; cases h
    | exc => rw [hp] at h; cases h
    | ok b =>
      have h2 := ht a
      rw [hp] at h2 h
      have h2' : test (e a) = .ok b (e a) := h2
      rw [R.bind_ok] at h
      rw [List.map_cons, loopVC, hz, h1]
      simp only [h2', vr_ok]
      cases b with
      | false =>
        simp only [Bool.false_eq_true, if_false] at h ⊢
        exact loopVC_mon ho p f z hb ht hf as (e a) hw ys h
      | true =>
        simp only [if_true] at h ⊢
        cases hq : f a with
        | bad => rw [hq] at h; cases h
        | exc => rw [hq] at h; cases h
        | ok y =>
          have h3 := hf a
          rw [hq] at h3 h
          have h3' : eltv (e a) = .ok (Tv.t y) (e a) := h3
          rw [R.bind_ok] at h
          cases hr : compR p f as with
          | bad => rw [hr] at h; cases h
          | exc => rw [hr] at h; cases h
          | ok zs =>
            rw [hr] at h
            cases h
            obtain ⟨env', e1, e2⟩ := loopVC_mon ho p f z hb ht hf as (e a) hw zs hr
            exact ⟨env', by rw [h3', vr_ok, e1]; rfl, e2⟩
theorem lc_mon [Tv β] {e : α → VEn} (as : List α) (p : α → R Bool) (f : α → R β) (hI : vI cl it env = .ok ⟨as.map em, lks⟩ env1) (ho : ownOk env1 own = true) (ht : ((tgSlots tg).all fun i => own.contains i) = true) (hb : ∀ a, bindV tg (em a) (wipeV env1 own) = some (e a)) (htest : ∀ a, RelR cm (fun _ => True) (e a) (vTest cl ifs (e a)) id (p a)) (helt : ∀ a, RelR cm (fun _ => True) (e a) ((vE cl elt (e a)).bind fun o env => take env o) Tv.t (f a)) {ys zs : List β} (hc : compR p f as = .ok ys) (hm : mkL ys = some zs) (hu : unlock env1 lks = env') :
    vE cl (.lc own tg it ifs elt) env = .ok (.v (Tv.t zs) true) env' := by
  rw [vE, hI]
  simp only [vr_ok, ho, ht, Bool.and_self, Bool.not_true, Bool.false_eq_true, if_false]
  have ht' : ∀ i ∈ tgSlots tg, i ∈ own := fun i hi => by
    have := List.all_eq_true.mp ht i hi
    simpa using this
  obtain ⟨env2, e1, e2⟩ := loopVC_mon (test := fun env => vTest cl ifs env) (eltv := fun env => (vE cl elt env).bind fun o env => take env o) ht' p f (wipeV env1 own) hb htest helt as env1 rfl ys hc
  rw [e1]
  simp only [VR.calm, vr_ok]
  rw [back_wipe e2, okL_map, hm, hu]
  rfl
end
end Ev

/-! Small laws for walking a def beside its typed text. -/
namespace Ev
open PySem
section
variable {α β σ τ ρ : Type} {cm : Cl → Nat} {X : VEn → Prop} {cl : VCl} {w : Nat} {env env1 env' : VEn} {kn kc : Bool} {E : σ → VEn → Prop} {Q : ρ → T → Bool → VEn → Prop} {v : VFl}
theorem rs_o {o : Option α} {M : α → Fw σ ρ} (h : ∀ x, o = some x → RelS cm kn kc E X Q v (M x)) : RelS cm kn kc E X Q v ((R.of o).fw M) := by
  cases o with
  | none => trivial
  | some x => exact h x rfl
theorem rs_m {m : R α} {M : α → Fw σ ρ} (he : ∀ c fs, m = .exc c fs → RelS cm kn kc E X Q v (.exc c fs)) (h : ∀ x, m = .ok x → RelS cm kn kc E X Q v (M x)) : RelS cm kn kc E X Q v (m.fw M) := by
  cases m with
  | bad => trivial
  | ok x => exact h x rfl
  | exc c fs => exact he c fs rfl
theorem rs_exci {c : Cl} {fs : List Int} {e : Ev.E} {a b ss : List S} (h : ((vE cl e env).bind fun o env => asBo env o) = .exc (cm c) (fs.map T.int) env') (h2 : X env') : RelS cm kn kc E X Q (vSs cl w (.ite e a b :: ss) env) (.exc c fs) := rs_exc (by rw [vs_ite, h]; rfl) h2
theorem rs_excf {c : Cl} {fs : List Int} {t : Tg} {it : I} {b ss : List S} (h : vI cl it env = .exc (cm c) (fs.map T.int) env') (h2 : X env') : RelS cm kn kc E X Q (vSs cl w (.fo t it b :: ss) env) (.exc c fs) := rs_exc (by rw [vs_fo, h]; rfl) h2
theorem rs_l {a : α} {M : α → Fw σ ρ} (h : ∀ x, a = x → RelS cm kn kc E X Q v (M x)) : RelS cm kn kc E X Q v ((R.ok a).fw M) := h a rfl
theorem rv_o [Tv α] {fr : Bool} {v : VR Opd} {o : Option β} {k : β → R α} (h : ∀ x, o = some x → RelV cm X env fr v (k x)) : RelV cm X env fr v ((R.of o).bind k) := by
  cases o with
  | none => trivial
  | some x => exact h x rfl
theorem rv_m [Tv α] {fr : Bool} {v : VR Opd} {m : R β} {k : β → R α} (he : ∀ c fs, m = .exc c fs → RelV cm X env fr v (.exc c fs : R α)) (h : ∀ x, m = .ok x → RelV cm X env fr v (k x)) : RelV cm X env fr v (m.bind k) := by
  cases m with
  | bad => trivial
  | ok x => exact h x rfl
  | exc c fs => exact he c fs rfl
theorem rp_o [Tv α] {v : VR Opd} {o : Option β} {k : β → R α} (h : ∀ x, o = some x → RelP cm X env v (k x)) : RelP cm X env v ((R.of o).bind k) := by
  cases o with
  | none => trivial
  | some x => exact h x rfl
theorem rp_m [Tv α] {v : VR Opd} {m : R β} {k : β → R α} (he : ∀ c fs, m = .exc c fs → RelP cm X env v (.exc c fs : R α)) (h : ∀ x, m = .ok x → RelP cm X env v (k x)) : RelP cm X env v (m.bind k) := by
  cases m with
  | bad => trivial
  | ok x => exact h x rfl
  | exc c fs => exact he c fs rfl
/-! results of calls -/
variable {n : Nat} {t : ρ → T} {o : ρ → List T} {u : VOut} {m : R ρ}
theorem rf_ok {b : Bool} (h : RelF cm n t o (some b) u m) {r : ρ} (e : m = .ok r) : u = .ok (t r) b (o r) := by
  rw [e] at h
  obtain ⟨fr, h1, h2⟩ := h
  rw [h1 b rfl] at h2; exact h2
theorem rf_okF (h : RelF cm n t o none u m) {r : ρ} (e : m = .ok r) : ∃ fr, u = .ok (t r) fr (o r) := by
  rw [e] at h
  obtain ⟨fr, -, h2⟩ := h
  exact ⟨fr, h2⟩
theorem rf_exc {f : Option Bool} (h : RelF cm 0 t o f u m) {c : Cl} {fs : List Int} (e : m = .exc c fs) : u = .exc (cm c) (fs.map T.int) [] := by
  rw [e] at h
  obtain ⟨os, h1, h2⟩ := h
  rw [List.length_eq_zero_iff.mp h1] at h2; exact h2
theorem rf_exc1 {f : Option Bool} (h : RelF cm 1 t o f u m) {c : Cl} {fs : List Int} (e : m = .exc c fs) : ∃ x, u = .exc (cm c) (fs.map T.int) [x] := by
  rw [e] at h
  obtain ⟨os, h1, h2⟩ := h
  match os, h1 with
  | [x], _ => exact ⟨x, h2⟩
theorem rf_exc2 {f : Option Bool} (h : RelF cm 2 t o f u m) {c : Cl} {fs : List Int} (e : m = .exc c fs) : ∃ x y, u = .exc (cm c) (fs.map T.int) [x, y] := by
  rw [e] at h
  obtain ⟨os, h1, h2⟩ := h
  match os, h1 with
  | [x, y], _ => exact ⟨x, y, h2⟩
theorem rv_get [Tv α] {fr : Bool} {v : VR Opd} {m : R α} (h : RelV cm X env fr v m) {a : α} (e : m = .ok a) : v = .ok (.v (Tv.t a) fr) env := by rw [e] at h; exact h
theorem rv_exc [Tv α] {fr : Bool} {v : VR Opd} {m : R α} (h : RelV cm X env fr v m) {c : Cl} {fs : List Int} (e : m = .exc c fs) : ∃ e, v = .exc (cm c) (fs.map T.int) e ∧ X e := by rw [e] at h; exact h
theorem calm_ok {m : R α} {x : α} (h : m.calm = .ok x) : m = .ok x := by cases m <;> first | exact h | cases h
theorem calm_exc {m : R α} {c : Cl} {fs : List Int} (h : m.calm = .exc c fs) : False := by cases m <;> cases h
end
theorem unlock_cons {env : VEn} {i : Nat} {is : List Nat} : unlock env (i :: is) = match ((unlock env is)[i]?).join with | some (.l t) => (unlock env is).set i (some (.s t)) | _ => unlock env is := (rfl)
section
variable {α κ ν : Type} [Tv α] [Tv κ] [Tv ν]
theorem tv_dnil : (Tv.t (Dc.nil : Dc κ ν) : T) = .dct [] := (rfl)
theorem tv_lnil : (Tv.t ([] : List α) : T) = .lst [] := (rfl)
theorem b_pushI {xs : List Int} {x : Int} : mtT .append (Tv.t xs) [.int x] = (pushL xs x).map fun ys => (.non, Tv.t ys) := b_push
theorem b_pushB {xs : List Bool} {x : Bool} : mtT .append (Tv.t xs) [.bl x] = (pushL xs x).map fun ys => (.non, Tv.t ys) := b_push
theorem b_putLI {xs : List Int} {i x : Int} : putT (Tv.t xs) (.int i) (.int x) = (setL xs i x).map Tv.t := b_putL
theorem b_putLB {xs : List Bool} {i : Int} {x : Bool} : putT (Tv.t xs) (.int i) (.bl x) = (setL xs i x).map Tv.t := b_putL
variable [DecidableEq κ] [Cq κ] [Ky κ]
theorem b_putI {d : Dc κ Int} {k : κ} {v : Int} : putT (Tv.t d) (Tv.t k) (.int v) = (d.put k v).map Tv.t := b_put
theorem b_putB {d : Dc κ Bool} {k : κ} {v : Bool} : putT (Tv.t d) (Tv.t k) (.bl v) = (d.put k v).map Tv.t := b_put
theorem b_putO {d : Dc κ (Option ν)} {k : κ} {v : ν} : putT (Tv.t d) (Tv.t k) (Tv.t v) = (d.put k (some v)).map Tv.t := b_put (v := some v)
theorem b_putON {d : Dc κ (Option ν)} {k : κ} : putT (Tv.t d) (Tv.t k) .non = (d.put k none).map Tv.t := b_put (v := (none : Option ν))
theorem b_get2I {d : Dc κ Int} {k : κ} {v : Int} : mtT .get2 (Tv.t d) [Tv.t k, .int v] = some (Tv.t ((d.get k).getD v), Tv.t d) := b_get2
theorem b_get2B {d : Dc κ Bool} {k : κ} {v : Bool} : mtT .get2 (Tv.t d) [Tv.t k, .bl v] = some (Tv.t ((d.get k).getD v), Tv.t d) := b_get2
end
theorem mm_1 : mtMut .append = true := (rfl)
theorem mm_2 : mtMut .clear = true := (rfl)
theorem mm_3 : mtMut .pop0 = true := (rfl)
theorem mm_4 : mtMut .pop1 = true := (rfl)
theorem mm_5 : mtMut .setdef = true := (rfl)
theorem mo_1 : mtOk .l .append = true := (rfl)
theorem mo_2 : mtOk .l .clear = true := (rfl)
theorem mo_3 : mtOk .l .pop0 = true := (rfl)
theorem mo_4 : mtOk .l .pop1 = true := (rfl)
theorem mo_5 : mtOk .d .pop1 = true := (rfl)
theorem mo_6 : mtOk .d .get1 = true := (rfl)
theorem mo_7 : mtOk .d .get2 = true := (rfl)
theorem mo_8 : mtOk .d .setdef = true := (rfl)
theorem f_b1 {b : Bool} : T.lst [.bl b] = Tv.t [b] := (rfl)
theorem f_i1 {b : Int} : T.lst [.int b] = Tv.t [b] := (rfl)
theorem lc_exc {cl : VCl} {env env' : VEn} {own : List Nat} {tg : Tg} {it : I} {ifs : List E} {elt : E} {c : Nat} {fs : List T} (h : vI cl it env = .exc c fs env') : vE cl (.lc own tg it ifs elt) env = .exc c fs env' := by
  rw [vE, h]; rfl
theorem own_ob {o : Option T} : (match ob o with | none => true | some (.b _) => true | _ => false) = true := by cases o <;> rfl
theorem join_ob {o : Option T} : (some (ob o)).join = ob o := (rfl)
theorem bind_ob {o : Option T} {i : Nat} {env : VEn} : True := trivial
/-- len of anything -/
def lenA (x : T) : Option Int := match biT .len [x] with
  | some (.int i, false) => some i
  | _ => none
theorem lenA_eq {x : T} {i : Int} (h : lenA x = some i) : biT .len [x] = some (.int i, false) := by
  unfold lenA at h
  split at h
  · rename_i e; cases h; exact e
  · cases h
theorem divmod_T {i j : Int} (h : 0 < j) (h2 : j < 2 ^ 250) : biT .divmod [.int i, .int j] = some (Tv.t (i / j, i % j), false) := by
  simp only [biT, divOk_of h h2]; rfl
theorem isx_int {i : Int} : cmpT .Is (.int i) .non = some false := by rw [is_nT]; simp
theorem isx_non : cmpT .Is .non .non = some true := by rw [is_nT]; simp
theorem isxn_int {i : Int} : cmpT .IsNot (.int i) .non = some true := by rw [isn_nT]; simp
theorem isxn_non : cmpT .IsNot .non .non = some false := by rw [isn_nT]; simp
/-! shapes -/
section
variable {α β γ δ : Type} [Tv α] [Tv β] [Tv γ] [Tv δ] {env : VEn}
theorem wb_and {a b : Bool} : (if a = true then VR.ok (Opd.v (.bl b) false) env else VR.ok (Opd.v (.bl false) false) env) = .ok (.v (.bl (a && b)) false) env := by cases a <;> rfl
theorem wb_or {a b : Bool} : (if a = true then VR.ok (Opd.v (.bl true) false) env else VR.ok (Opd.v (.bl b) false) env) = .ok (.v (.bl (a || b)) false) env := by cases a <;> rfl
theorem wb_ite {a : Bool} {x y : T} {fr : Bool} : (if a = true then VR.ok (Opd.v x fr) env else VR.ok (Opd.v y fr) env) = .ok (.v (if a = true then x else y) fr) env := by cases a <;> rfl
theorem wb_andT {a b : Bool} : (if a = true then T.bl b else T.bl false) = .bl (a && b) := by cases a <;> rfl
theorem wb_orT {a b : Bool} : (if a = true then T.bl true else T.bl b) = .bl (a || b) := by cases a <;> rfl
theorem wb_int {a : Bool} {x y : Int} : (if a = true then T.int x else T.int y) = .int (if a = true then x else y) := by cases a <;> rfl
theorem wb_tv {a : Bool} {x y : α} : (if a = true then Tv.t x else Tv.t y) = (Tv.t (if a = true then x else y) : T) := by cases a <;> rfl
theorem bd_pair {p : α × β} {a b : Tg} : bindV (.tp [a, b]) (Tv.t p) env = bindVs [a, b] [Tv.t p.1, Tv.t p.2] env := bindV_tp rfl rfl
theorem bd_p3 {p : P3 α β γ} {a b c : Tg} : bindV (.tp [a, b, c]) (Tv.t p) env = bindVs [a, b, c] [Tv.t p.a, Tv.t p.b, Tv.t p.c] env := bindV_tp rfl rfl
theorem bd_h2 {p : H2 α β} {a b : Tg} : bindV (.tp [a, b]) (Tv.t p) env = bindVs [a, b] [Tv.t p.a, Tv.t p.b] env := bindV_tp rfl rfl
theorem bd_l2 {x y : α} {a b : Tg} : bindV (.tp [a, b]) (Tv.t [x, y]) env = bindVs [a, b] [Tv.t x, Tv.t y] env := bindV_tp rfl rfl
theorem bd_l4 {x y z u : α} {a b c d : Tg} : bindV (.tp [a, b, c, d]) (Tv.t [x, y, z, u]) env = bindVs [a, b, c, d] [Tv.t x, Tv.t y, Tv.t z, Tv.t u] env := bindV_tp rfl rfl
theorem b_eqn [DecidableEq α] [Cq α] [Cb α] {xs : List α} : cmpT .Eq (Tv.t xs) (.lst []) = some (eqB xs []) := b_eq12 (α := List α) (Nat.succ_le_succ (Cb.le (α := α))) (b := [])
theorem b_nen [DecidableEq α] [Cq α] [Cb α] {xs : List α} : cmpT .NotEq (Tv.t xs) (.lst []) = some (!eqB xs []) := b_ne12 (α := List α) (Nat.succ_le_succ (Cb.le (α := α))) (b := [])
theorem b_inO [DecidableEq α] [Cq α] [DecidableEq β] [Cq β] [Cb (α × β)] {o : Option (α × β)} {xs : List (α × β)} : inT (Tv.t o) (Tv.t xs) = some (match o with | some a => memB a xs | none => false) := by
  cases o with
  | some a => exact b_in (α := α × β) (a := a)
  | none =>
    have h : Cq.n (α × β) ≤ 12 := Nat.le_succ_of_le Cb.le
    letI := emOf (α × β)
    have e2 : tPs deep (xs.map Tv.t) = some (xs.map Cq.d) := tPs_em (α := α × β) h xs
    show inT .non (.lst (xs.map Tv.t)) = some false
    unfold inT
    have e : dctT (T.lst (xs.map Tv.t)) = none := rfl
    rw [e]
    have e1 : tP deep T.non = some .none := by simp [tP]
    simp only [seqT, Option.bind_some, e1, e2, Option.some.injEq]
    rw [List.any_eq_false]
    intro x hx
    obtain ⟨a, -, rfl⟩ := List.mem_map.mp hx
    show ¬ PyData.eqv (.tuple [Cq.d a.1, Cq.d a.2]) .none = true
    simp [PyData.eqv]
end
end Ev

/-! The top of a law beside its typed text. -/
namespace Ev
open PySem
section
variable {α β σ τ ρ : Type} {cm : Cl → Nat} {X : VEn → Prop} {cl : VCl} {w : Nat} {env env' : VEn} {kn kc : Bool} {E : σ → VEn → Prop} {Q : ρ → T → Bool → VEn → Prop}
theorem rt_st {m : Fw τ ρ} {E1 : τ → VEn → Prop} {k : τ → Fw σ ρ} {ss : List S} {r : List Seg} (h : RelS cm true false E1 X Q (vSs cl w ss env) m) (h2 : ∀ x env', E1 x env' → RelS cm kn kc E X Q (vTop cl w r env') (k x)) : RelS cm kn kc E X Q (vTop cl w (.st ss :: r) env) (m.bind k) := by
  rw [vTop]
  cases m with
  | bad => trivial
  | nx x =>
    obtain ⟨env1, h, hE⟩ := h
    rcases h with ⟨-, h⟩ | ⟨h, -⟩
    · rw [h]; exact h2 x env1 hE
    · cases h
  | rt r =>
    obtain ⟨t, fr, e, h, hq⟩ := h
    exact ⟨t, fr, e, by rw [h]; rfl, hq⟩
  | exc c fs =>
    obtain ⟨e, h, hx⟩ := h
    exact ⟨e, by rw [h]; rfl, hx⟩
theorem rt_last {m : Fw σ ρ} {ss : List S} (h : RelS cm true false E X Q (vSs cl w ss env) m) : RelS cm true false E X Q (vTop cl w [.st ss] env) m := by
  rw [vTop]
  have e : ∀ v : VFl, v.andThen (vTop cl w []) = v := fun v => by cases v <;> rfl
  rw [e]; exact h
theorem rt_pt {m : Fw σ ρ} {p : Pth} {r : List Seg} (h : pV p env = some env') (h2 : RelS cm kn kc E X Q (vTop cl w r env') m) : RelS cm kn kc E X Q (vTop cl w (.pt p :: r) env) m := by
  rw [vTop, h]; exact h2
def RelT (v : VFl) (m : R Bool) : Prop := ∀ b, m = .ok b → ∃ fr e, v = .rt (.bl b) fr e
theorem rt_out {v : VFl} {m : Fw σ Bool} (h : RelS cm true false (fun _ _ => True) (fun _ => True) (fun r t _ _ => t = T.bl r) v m) : RelT v m.out := by
  intro b hb
  cases m with
  | rt r =>
    obtain ⟨t, fr, e, h1, h2⟩ := h
    cases hb
    exact ⟨fr, e, by rw [h1, h2]⟩
  | nx s => cases hb
  | exc c fs => cases hb
  | bad => cases hb
/-! keeping -/
theorem calm_tv [Tv α] [Flt α] {a : α} : calmT (Tv.t a) = true := by
  have h := Flt.ft a
  generalize (Tv.t a : T) = t at h
  cases t with
  | scr ns => rfl
  | _ => exact h
theorem simp_b [Tv α] [Flt α] {a : α} : simpS (.b (Tv.t a)) = true := calm_tv
theorem simp_bi {i : Int} : simpS (.b (.int i)) = true := by simp [simpS, calmT]
theorem simp_bb {i : Bool} : simpS (.b (.bl i)) = true := by simp [simpS, calmT]
theorem simp_bn : simpS (.b .non) = true := by simp [simpS, calmT]
theorem simp_bs {ns : List Int} : simpS (.b (.scr ns)) = true := rfl
theorem flats_tv [Tv α] [Flt α] : ∀ xs : List α, flats (xs.map Tv.t) = true
  | [] => by simp
  | x :: xs => by rw [List.map_cons, flats_cons, Flt.ft x, flats_tv xs]; rfl
theorem simp_sL [Tv α] [Flt α] {xs : List α} : simpS (.s (Tv.t xs)) = true := flats_tv xs
theorem keep_nil : keepOk [] env = true := rfl
theorem keep_cons {k : Nat} {ks : List Nat} : keepOk (k :: ks) env = ((match lk env k with | some v => simpS v | none => true) && keepOk ks env) := rfl
theorem pv_fclr [Tv α] {i j : Nat} {ks : List Nat} {xs : List (List α)} (hi : lk env i = some (.s (Tv.t xs))) (hij : i ≠ j) (hj : j < env.length) (hil : i < env.length) (hk : keepOk ks env = true) : pV (.fclr j i ks) env = some (((forget ks env).set i (some (.s (Tv.t (xs.map fun _ => ([] : List α)))))).set j none) := by
  have hi' : lk env i = some (.s (.lst (xs.map Tv.t))) := hi
  simp only [pV, hi']
  have ha : ((xs.map Tv.t).all isLst) = true := by
    rw [List.all_map, List.all_eq_true]
    intro x _
    rfl
  rw [if_pos ⟨hij, ha, hj, hil, hk⟩]
  congr 5
  rw [List.map_map]
  show _ = T.lst ((xs.map fun _ => ([] : List α)).map Tv.t)
  rw [List.map_map]
  rfl
theorem pv_clr {i c : Nat} {ks : List Nat} {ts xs : List T} (hi : lk env i = some (.b (.tup ts))) (hc : ts[c]? = some (.lst xs)) (hf : flats (ts.set c .non) = true) (hil : i < env.length) (hk : keepOk ks env = true) : pV (.clr i c ks) env = some ((forget ks env).set i (some (.b (.tup (ts.set c (.lst [])))))) := by
  simp only [pV, hi, hc]
  rw [if_pos ⟨hf, hil, hk⟩]
def ltL (xs : List α) : Option Unit := if xs.length < 16777216 then some () else none
theorem ltL_lt {xs : List α} {u : Unit} (h : ltL xs = some u) : xs.length < 16777216 := by
  unfold ltL at h
  split at h
  · assumption
  · cases h
theorem ltL_ok {xs : List α} (h : xs.length < 16777216) : ltL xs = some () := if_pos h
theorem pv_apn {i c : Nat} {ks : List Nat} {ts xs : List T} (hi : lk env i = some (.b (.tup ts))) (hc : ts[c]? = some (.lst xs)) (hf : flats (ts.set c .non) = true) (hil : i < env.length) (hk : keepOk ks env = true) (hl : xs.length < 16777216) : pV (.apn i c ks) env = some ((forget ks env).set i (some (.b (.tup (ts.set c (.lst (xs ++ [.non]))))))) := by
  simp only [pV, hi, hc]
  rw [if_pos ⟨hf, hil, hk, hl⟩]
end
/-! ### a comprehension whose items change a state -/
section
variable {α β σ : Type}
def compT (elt : α → σ → R (β × σ)) : List α → σ → R (List β × σ)
  | [], s => .ok ([], s)
  | x :: xs, s => (elt x s).bind fun p => (compT elt xs p.2).bind fun q => .ok (p.1 :: q.1, q.2)
variable [Tv β] {own : List Nat} {tg : Tg} {it : I} {elt : Ev.E} {lks : List Nat} {em : α → T} {cl : VCl} {env env1 : VEn} {E : σ → VEn → Prop}
def RelC (E : σ → VEn → Prop) (own : List Nat) (v : VR T) (m : R (β × σ)) : Prop := match m with
  | .ok p => ∃ e, v = .ok (Tv.t p.1) e ∧ E p.2 (wipeV e own)
  | _ => True
theorem rc_o {γ : Type} {v : VR T} {o : Option γ} {k : γ → R (β × σ)} (h : ∀ x, o = some x → RelC E own v (k x)) : RelC E own v ((R.of o).bind k) := by
  cases o with
  | none => trivial
  | some x => exact h x rfl
theorem rc_m {γ : Type} {v : VR T} {m : R γ} {k : γ → R (β × σ)} (h : ∀ x, m = .ok x → RelC E own v (k x)) : RelC E own v (m.bind k) := by
  cases m with
  | bad => trivial
  | ok x => exact h x rfl
  | exc c fs => trivial
theorem rc_ok {v : VR T} {y : β} {s : σ} {e : VEn} (h : v = .ok (Tv.t y) e) (h2 : E s (wipeV e own)) : RelC E own v (.ok (y, s)) := ⟨e, h, h2⟩
theorem loopVC_st {f : α → σ → R (β × σ)} {test : VEn → VR Bool} {eltv : VEn → VR T} (ht : ∀ e, test e = .ok true e) (hs : ∀ a s z, E s z → ∃ e, bindV tg (em a) z = some e ∧ RelC E own (eltv e) (f a s)) :
    ∀ (as : List α) (s : σ) (env : VEn), E s (wipeV env own) → ∀ ys s', compT f as s = .ok (ys, s') → ∃ env', loopVC own tg test eltv (as.map em) env = .ok (ys.map Tv.t) env' ∧ E s' (wipeV env' own)
  | [], s, env, h, ys, s', hc => by cases hc; exact ⟨env, by rw [List.map_nil, loopVC]; rfl, h⟩
  | a :: as, s, env, h, ys, s', hc => by
    obtain ⟨e, hb, hr⟩ := hs a s _ h
    rw [compT] at hc
    cases hf : f a s with
    | bad => rw [hf] at hc; cases hc
    | exc => rw [hf] at hc; cases hc
    | ok p =>
      rw [hf] at hr hc
      obtain ⟨e1, h1, h2⟩ := hr
      rw [R.bind_ok] at hc
      cases hq : compT f as p.2 with
      | bad => rw [hq] at hc; cases hc
      | exc => rw [hq] at hc; cases hc
      | ok q =>
        rw [hq] at hc
        cases hc
        obtain ⟨env', g1, g2⟩ := loopVC_st ht hs as p.2 e1 h2 q.1 q.2 hq
        refine ⟨env', ?_, g2⟩
        rw [List.map_cons, loopVC, hb]
        simp only [ht, vr_ok, if_true]
        rw [h1, vr_ok, g1]; rfl
theorem back_z {env1 env2 : VEn} (hl : env2.length = env1.length) : backV env1 env2 own = backV env1 (wipeV env2 own) own := by
  apply ext_lk
  · rw [backV_len, backV_len, wipeV_len]
  · intro i
    rw [backV_lk env1 env2 hl own i, backV_lk env1 (wipeV env2 own) (by rw [wipeV_len]; exact hl) own i]
    by_cases hi : i ∈ own
    · rw [if_pos hi, if_pos hi]
    · rw [if_neg hi, if_neg hi, wipeV_lk, if_neg hi]
theorem lc_st {envF : σ → VEn} (as : List α) (f : α → σ → R (β × σ)) {s0 : σ} (hI : vI cl it env = .ok ⟨as.map em, lks⟩ env1) (ho : ownOk env1 own = true) (ht : ((tgSlots tg).all fun i => own.contains i) = true) (h0 : E s0 (wipeV env1 own)) (hlen : ∀ s z, E s z → z.length = env1.length)
    (hs : ∀ a s z, E s z → ∃ e, bindV tg (em a) z = some e ∧ RelC E own ((vE cl elt e).bind fun o env => take env o) (f a s)) (hu : ∀ s z, E s z → unlock (backV env1 z own) lks = envF s) {ys zs : List β} {s1 : σ} (hc : compT f as s0 = .ok (ys, s1)) (hm : mkL ys = some zs) :
    vE cl (.lc own tg it [] elt) env = .ok (.v (Tv.t zs) true) (envF s1) := by
  rw [vE, hI]
  simp only [vr_ok, ho, ht, Bool.and_self, Bool.not_true, Bool.false_eq_true, if_false]
  obtain ⟨env2, e1, e2⟩ := loopVC_st (test := fun env => vTest cl [] env) (eltv := fun env => (vE cl elt env).bind fun o env => take env o) (fun e => by rw [vt_nil]) hs as s0 env1 h0 ys s1 hc
  rw [e1]
  simp only [VR.calm, vr_ok]
  have hl2 : env2.length = env1.length := by have := hlen _ _ e2; rwa [wipeV_len] at this
  rw [back_z hl2, hu _ _ e2, okL_map, hm]
  rfl
@[simp] theorem compT_nil {f : α → σ → R (β × σ)} {s : σ} : compT f [] s = .ok ([], s) := rfl
theorem compT_ok {f : α → σ → R (β × σ)} (g : α → β) (Inv : σ → Prop) : ∀ (as : List α) (s : σ), Inv s → (∀ a ∈ as, ∀ s, Inv s → ∃ s', f a s = .ok (g a, s') ∧ Inv s') → ∃ s', compT f as s = .ok (as.map g, s') ∧ Inv s'
  | [], s, h, _ => ⟨s, rfl, h⟩
  | a :: as, s, h, hs => by
    obtain ⟨s1, e1, h1⟩ := hs a List.mem_cons_self s h
    obtain ⟨s2, e2, h2⟩ := compT_ok g Inv as s1 h1 (fun b hb => hs b (List.mem_cons_of_mem _ hb))
    exact ⟨s2, by rw [compT, e1, R.bind_ok, e2]; rfl, h2⟩
end
/-! ### or, chains, with calls that change -/
section
variable {σ ρ : Type} {cm : Cl → Nat} {X : VEn → Prop} {cl : VCl} {w : Nat} {env env1 : VEn} {kn kc : Bool} {E : σ → VEn → Prop} {Q : ρ → T → Bool → VEn → Prop}
theorem rs_ior {a b : Ev.E} {x : Bool} {s ss : List S} {MA MB : Fw σ ρ} (h : ((vE cl a env).bind fun o env => asBo env o) = .ok x env) (hA : RelS cm false kc E X Q (vSs cl w s env) MA) (hB : RelS cm kn kc E X Q (vSs cl w (.ite b s [] :: ss) env) MB) : RelS cm kn kc E X Q (vSs cl w (.ite (.bop .Or [a, b]) s [] :: ss) env) (if x = true then MA else MB) := by
  rw [vss_cons, vs_ite, ve_bop, vb_or]
  cases ha : vE cl a env with
  | bad => rw [ha] at h; cases h
  | exc c fs e => rw [ha] at h; cases h
  | ok o e =>
    rw [ha] at h
    simp only [vr_ok] at h ⊢
    have he : asBo e o = .ok x env := h
    rw [he]
    cases x with
    | true =>
      simp only [vr_ok, if_true, asBo_v, vf_ok]
      exact rs_thru hA
    | false =>
      rw [vss_cons, vs_ite] at hB
      simp only [vr_ok, Bool.false_eq_true, if_false, vb_one]
      have e1 : (((vE cl b env).bind fun o env => (asBo env o).bind fun b env => VR.ok (Opd.v (T.bl b) false) env).bind fun o env => asBo env o) = ((vE cl b env).bind fun o env => asBo env o) := by
        cases vE cl b env with
        | ok o e =>
          simp only [vr_ok]
          cases asBo e o with
          | ok k e => rfl
          | exc => rfl
          | bad => rfl
        | exc => rfl
        | bad => rfl
      rw [e1]; exact hB
theorem rs_ichn {op op' : CmpOp} {a c : Ev.E} {i : Nat} {k : Bool} {x y : T} {s ss : List S} {MA MB : Fw σ ρ} (ha : vE cl a env = .ok (.v x false) env) (hb : vE cl (.var i) env = .ok (.v y false) env) (hk : cmpT op x y = some k) (hA : RelS cm false kc E X Q (vSs cl w s env) MA) (hB : RelS cm kn kc E X Q (vSs cl w (.ite (.not (.cmp op' (.var i) c)) s [] :: ss) env) MB) : RelS cm kn kc E X Q (vSs cl w (.ite (.not (.chn op op' a (.var i) c)) s [] :: ss) env) (if k = true then MB else MA) := by
  rw [vss_cons, vs_ite, ve_not, ve_chn, ha]
  simp only [vr_ok, hb, peek_v, vr_of_some, hk]
  cases k with
  | false =>
    simp only [Bool.false_eq_true, if_false, vr_ok, asBo_v, Bool.not_false, vf_ok, if_true]
    exact rs_thru hA
  | true =>
    rw [vss_cons, vs_ite, ve_not, ve_cmp, hb] at hB
    simp only [if_true]
    simp only [vr_ok, peek_v, vr_of_some] at hB
    exact hB
end
/-! ### things of any kind -/
def Dc.putA (d : Dc T Bool) (k : T) (v : Bool) : Option (Dc T Bool) := if isKeyT k = true then d.put k v else none
theorem b_putA {d : Dc T Bool} {k : T} {v : Bool} : putT (Tv.t d) k (.bl v) = (d.putA k v).map Tv.t := by
  show (if isKeyT k && decide ((d.kvs.map fun p => ((Tv.t p.1 : T), (Tv.t p.2 : T))).length < line) then some (T.dct (tSet (d.kvs.map fun p => ((Tv.t p.1 : T), (Tv.t p.2 : T))) k (.bl v))) else none) = _
  unfold Dc.putA
  rw [List.length_map]
  cases hk : isKeyT k with
  | false => rfl
  | true =>
    simp only [Bool.true_and, decide_eq_true_eq, if_true]
    unfold Dc.put
    have e : tSet (d.kvs.map fun p => ((Tv.t p.1 : T), (Tv.t p.2 : T))) k (.bl v) = (d.set k v).kvs.map fun p => ((Tv.t p.1 : T), (Tv.t p.2 : T)) := by
      unfold tSet Dc.set
      have e1 : ((d.kvs.map fun q => ((Tv.t q.1 : T), (Tv.t q.2 : T))).any fun p => decide (p.1 = k)) = d.kvs.any fun p => decide (p.1 = k) := by
        rw [List.any_map]; rfl
      rw [e1]
      split
      · rw [List.map_map, List.map_map]
        apply List.map_congr_left
        intro q _
        simp only [Function.comp]
        by_cases h : q.1 = k
        · have h' : (Tv.t q.1 : T) = k := h
          rw [if_pos h', if_pos h]; rfl
        · have h' : ¬ (Tv.t q.1 : T) = k := h
          rw [if_neg h', if_neg h]
      · simp; exact ⟨rfl, rfl⟩
    rw [e]
    unfold line
    split <;> rfl
def sortA (xs : List T) : Option (List T) := (sortT xs).bind mkL
theorem map_tT : ∀ xs : List T, xs.map (Tv.t (α := T)) = xs
  | [] => rfl
  | x :: xs => by rw [List.map_cons, map_tT xs]; rfl
theorem okL_id {xs : List T} : okL xs = (mkL xs).map fun ys => ((Tv.t ys : T), true) := by
  have := okL_map (xs := xs)
  rwa [map_tT] at this
theorem b_sortDA {ν : Type} [Tv ν] {d : Dc T ν} : biT .sorted [Tv.t d] = (sortA d.keys).map fun ys => ((Tv.t ys : T), true) := by
  show (sortT ((d.kvs.map fun p => ((Tv.t p.1 : T), (Tv.t p.2 : T))).map (·.1))).bind okL = _
  have e : (d.kvs.map fun p => ((Tv.t p.1 : T), (Tv.t p.2 : T))).map (·.1) = d.keys := by
    unfold Dc.keys
    rw [List.map_map]; rfl
  rw [e]
  unfold sortA
  cases sortT d.keys with
  | none => rfl
  | some ys => simp only [Option.bind_some]; exact okL_id
theorem b_addLT {α : Type} [Tv α] {xs : List α} {y : T} : binT .Add (Tv.t xs) (.lst [y]) = (mkL (xs.map Tv.t ++ [y])).map fun zs => ((Tv.t zs : T), true) := by
  show okL (xs.map Tv.t ++ [y]) = _
  exact okL_id
theorem b_addTP {xs : List T} {ys : List (Int × Int)} : binT .Add (Tv.t xs) (Tv.t ys) = (mkL (xs ++ ys.map Tv.t)).map fun zs => ((Tv.t zs : T), true) := by
  have e : (Tv.t xs : T) = .lst xs := by
    show T.lst (xs.map (Tv.t (α := T))) = _
    congr 1
    induction xs with
    | nil => rfl
    | cons x xs ih => rw [List.map_cons, ih]; rfl
  rw [e]
  show okL (xs ++ ys.map Tv.t) = _
  exact okL_id
theorem b_eqA {xs ys : List T} : cmpT .Eq (Tv.t xs) (Tv.t ys) = eqT (Tv.t xs) (Tv.t ys) := rfl
theorem b_neA {xs ys : List T} : cmpT .NotEq (Tv.t xs) (Tv.t ys) = (eqT (Tv.t xs) (Tv.t ys)).map (!·) := rfl
theorem isM_any {x : VS} {t : T} (h : x = .s t ∨ x = .b t) : isM (some x) = false := by rcases h with rfl | rfl <;> rfl
end Ev

/-! Plain laws of the typed operations. -/
namespace Ev
open PySem
section
variable {α β σ τ ρ κ ν : Type}
/-! ### loops -/
theorem forF_nil {body : α → σ → Fw σ ρ} {s : σ} : forF body [] s = .nx s := rfl
theorem forF_cons {body : α → σ → Fw σ ρ} {x : α} {xs : List α} {s : σ} : forF body (x :: xs) s = (body x s).bind (forF body xs) := rfl
theorem forF_app {body : α → σ → Fw σ ρ} : ∀ (xs ys : List α) (s : σ), forF body (xs ++ ys) s = (forF body xs s).bind (forF body ys)
  | [], ys, s => rfl
  | x :: xs, ys, s => by
    rw [List.cons_append, forF, forF]
    cases body x s with
    | nx s' => exact forF_app xs ys s'
    | _ => rfl
theorem forF_pre {body : α → σ → Fw σ ρ} (as : List α) (Inv : List α → σ → Prop) (hs : ∀ pre a post, as = pre ++ a :: post → ∀ s, Inv pre s → ∃ s', body a s = .nx s' ∧ Inv (pre ++ [a]) s') {s0 : σ} (h0 : Inv [] s0) : ∃ s, forF body as s0 = .nx s ∧ Inv as s := by
  have go : ∀ (post pre : List α) (s : σ), as = pre ++ post → Inv pre s → ∃ s', forF body post s = .nx s' ∧ Inv as s' := by
    intro post
    induction post with
    | nil => intro pre s e h; exact ⟨s, rfl, by rw [e, List.append_nil]; exact h⟩
    | cons a post ih =>
      intro pre s e h
      obtain ⟨s', e1, h1⟩ := hs pre a post e s h
      obtain ⟨s'', e2, h2⟩ := ih (pre ++ [a]) s' (by rw [e]; simp) h1
      exact ⟨s'', by rw [forF, e1, Fw.bind_nx, e2], h2⟩
  exact go as [] s0 rfl h0
/-- nothing but an invariant -/
theorem forF_inv {body : α → σ → Fw σ ρ} (as : List α) (Inv : σ → Prop) (hs : ∀ a ∈ as, ∀ s, Inv s → ∃ s', body a s = .nx s' ∧ Inv s') {s0 : σ} (h0 : Inv s0) : ∃ s, forF body as s0 = .nx s ∧ Inv s :=
  forF_pre as (fun _ => Inv) (fun pre a post e s h => hs a (by rw [e]; simp) s h) h0
theorem forF_fold {body : α → σ → Fw σ ρ} (f : σ → α → σ) : ∀ (as : List α) (s : σ), (∀ a ∈ as, ∀ s, body a s = .nx (f s a)) → forF body as s = .nx (as.foldl f s)
  | [], s, _ => rfl
  | a :: as, s, h => by
    rw [forF, h a List.mem_cons_self s, Fw.bind_nx, forF_fold f as _ (fun b hb => h b (List.mem_cons_of_mem _ hb))]; rfl
/-- a walk that may stop with an answer -/
theorem forF_stop {body : α → σ → Fw σ ρ} (as : List α) (Inv : List α → σ → Prop) (P : ρ → Prop) (hs : ∀ pre a post, as = pre ++ a :: post → ∀ s, Inv pre s → (∃ s', body a s = .nx s' ∧ Inv (pre ++ [a]) s') ∨ ∃ r, body a s = .rt r ∧ P r) {s0 : σ} (h0 : Inv [] s0) : (∃ s, forF body as s0 = .nx s ∧ Inv as s) ∨ ∃ r, forF body as s0 = .rt r ∧ P r := by
  have go : ∀ (post pre : List α) (s : σ), as = pre ++ post → Inv pre s → (∃ s', forF body post s = .nx s' ∧ Inv as s') ∨ ∃ r, forF body post s = .rt r ∧ P r := by
    intro post
    induction post with
    | nil => intro pre s e h; exact .inl ⟨s, rfl, by rw [e, List.append_nil]; exact h⟩
    | cons a post ih =>
      intro pre s e h
      rcases hs pre a post e s h with ⟨s', e1, h1⟩ | ⟨r, e1, h1⟩
      · rcases ih (pre ++ [a]) s' (by rw [e]; simp) h1 with ⟨s'', e2, h2⟩ | ⟨r, e2, h2⟩
        · exact .inl ⟨s'', by rw [forF, e1, Fw.bind_nx, e2], h2⟩
        · exact .inr ⟨r, by rw [forF, e1, Fw.bind_nx, e2], h2⟩
      · exact .inr ⟨r, by rw [forF, e1]; rfl, h1⟩
  exact go as [] s0 rfl h0
/-- all is well: nothing stops a walk without state -/
theorem forF_all {body : α → Unit → Fw Unit ρ} : ∀ (as : List α), (∀ a ∈ as, body a () = .nx ()) → forF body as () = .nx ()
  | [], _ => rfl
  | a :: as, h => by rw [forF, h a List.mem_cons_self, Fw.bind_nx]; exact forF_all as (fun b hb => h b (List.mem_cons_of_mem _ hb))
theorem whileF_inv {test : σ → R Bool} {body : σ → Fw σ ρ} (Inv : σ → Prop) (Post : σ → Prop) (μ : σ → Nat)
    (hs : ∀ s, Inv s → (test s = .ok false ∧ Post s) ∨ (test s = .ok true ∧ ∃ s', body s = .nx s' ∧ Inv s' ∧ μ s' < μ s)) : ∀ (w : Nat) (s : σ), μ s < w → Inv s → ∃ s', whileF test body w s = .nx s' ∧ Post s'
  | 0, s, h, _ => by omega
  | w + 1, s, h, hi => by
    rw [whileF]
    rcases hs s hi with ⟨e, hp⟩ | ⟨e, s', e2, hi', hm⟩
    · exact ⟨s, by rw [e]; rfl, hp⟩
    · obtain ⟨s'', e3, hp⟩ := whileF_inv Inv Post μ hs w s' (by omega) hi'
      exact ⟨s'', by rw [e, R.fw_ok, if_pos rfl, e2, Fw.bind_nx, e3], hp⟩
theorem compR_ok {test : α → R Bool} {elt : α → R β} (p : α → Bool) (f : α → β) : ∀ (as : List α), (∀ a ∈ as, test a = .ok (p a)) → (∀ a ∈ as, p a = true → elt a = .ok (f a)) → compR test elt as = .ok ((as.filter p).map f)
  | [], _, _ => rfl
  | a :: as, h1, h2 => by
    have ih := compR_ok p f as (fun b hb => h1 b (List.mem_cons_of_mem _ hb)) (fun b hb => h2 b (List.mem_cons_of_mem _ hb))
    rw [compR, h1 a List.mem_cons_self, R.bind_ok]
    cases hp : p a with
    | true => rw [if_pos rfl, h2 a List.mem_cons_self hp, R.bind_ok, ih, R.bind_ok, List.filter_cons_of_pos hp]; rfl
    | false => rw [if_neg (by simp), ih, List.filter_cons_of_neg (by simp [hp])]
theorem compR_map {elt : α → R β} (f : α → β) (as : List α) (h : ∀ a ∈ as, elt a = .ok (f a)) : compR (fun _ => .ok true) elt as = .ok (as.map f) := by
  rw [compR_ok (fun _ => true) f as (fun _ _ => rfl) (fun a ha _ => h a ha), List.filter_eq_self.mpr (fun _ _ => rfl)]
/-! ### lists -/
theorem mkL_ok {xs : List α} (h : xs.length ≤ 16777216) : mkL xs = some xs := if_pos h
theorem pushL_ok {xs : List α} {x : α} (h : xs.length < 16777216) : pushL xs x = some (xs ++ [x]) := if_pos h
theorem itemL_nat {xs : List α} {i : Nat} : itemL xs (i : Int) = xs[i]? := by
  unfold itemL place
  by_cases h : i < xs.length
  · simp [h]
  · simp [h]
theorem itemL_ge {xs : List α} {i : Int} (h : 0 ≤ i) : itemL xs i = xs[i.toNat]? := by
  obtain ⟨n, rfl⟩ := Int.eq_ofNat_of_zero_le h
  exact itemL_nat
theorem itemL_at {xs : List α} {i : Int} (h0 : 0 ≤ i) (h : i.toNat < xs.length) : itemL xs i = some (xs[i.toNat]) := by
  rw [itemL_ge h0, List.getElem?_eq_getElem h]
@[simp] theorem itemL_0 {x : α} {xs : List α} : itemL (x :: xs) 0 = some x := by simp [itemL, place]
@[simp] theorem itemL_1 {x y : α} {xs : List α} : itemL (x :: y :: xs) 1 = some y := itemL_nat (i := 1)
@[simp] theorem itemL_2 {x y z : α} {xs : List α} : itemL (x :: y :: z :: xs) 2 = some z := itemL_nat (i := 2)
@[simp] theorem itemL_3 {x y z u : α} {xs : List α} : itemL (x :: y :: z :: u :: xs) 3 = some u := itemL_nat (i := 3)
theorem setL_at {xs : List α} {i : Int} {v : α} (h0 : 0 ≤ i) (h : i.toNat < xs.length) : setL xs i v = some (xs.set i.toNat v) := by
  unfold setL place
  rw [if_pos h0, if_pos (by omega)]; rfl
theorem cutP_drop {xs : List α} {i : Int} (h : 0 ≤ i) : cutP xs (some i) none = xs.drop i.toNat := by
  unfold cutP sIx
  simp only
  rw [if_neg (by omega)]
  by_cases hi : i ≤ xs.length
  · rw [Int.min_eq_left hi, List.take_of_length_le (by simp)]
  · rw [Int.min_eq_right (by omega), List.take_of_length_le (by simp), List.drop_of_length_le (by simp), List.drop_of_length_le (by omega)]
theorem cutP_take {xs : List α} {i : Int} (h : 0 ≤ i) : cutP xs none (some i) = xs.take i.toNat := by
  unfold cutP sIx
  simp only
  rw [if_neg (by omega)]
  simp only [List.drop_zero, Nat.sub_zero]
  by_cases hi : i ≤ xs.length
  · rw [Int.min_eq_left hi]
  · rw [Int.min_eq_right (by omega), List.take_of_length_le (by simp), List.take_of_length_le (by omega)]
@[simp] theorem cutP_1 {xs : List α} : cutP xs (some 1) none = xs.drop 1 := cutP_drop (by decide)
theorem rangeL_ok {n : Nat} (h : n < 4611686018427387904) : rangeL 0 (n : Int) = some ((List.range n).map fun (k : Nat) => (k : Int)) := by
  unfold rangeL lineR
  rw [if_pos (by omega)]
  simp
theorem rangeL_ge {n : Int} (h0 : 0 ≤ n) (h : n < 4611686018427387904) : rangeL 0 n = some ((List.range n.toNat).map fun (k : Nat) => (k : Int)) := by
  obtain ⟨m, rfl⟩ := Int.eq_ofNat_of_zero_le h0
  exact rangeL_ok (by omega)
theorem repL_one {x : α} {n : Int} (h0 : 0 ≤ n) (h : n ≤ 16777216) : repL [x] n = some (List.replicate n.toNat x) := by
  unfold repL
  have hf : (List.replicate n.toNat [x]).flatten = List.replicate n.toNat x := by
    induction n.toNat with
    | zero => rfl
    | succ m ih => rw [List.replicate_succ, List.flatten_cons, ih, List.replicate_succ]; rfl
  rw [if_pos ⟨by simp; omega, by omega, by omega⟩, hf, mkL_ok (by simp; omega)]
theorem memB_iff [DecidableEq α] {a : α} {xs : List α} : memB a xs = true ↔ a ∈ xs := by simp [memB]
theorem eqB_iff [DecidableEq α] {a b : α} : eqB a b = true ↔ a = b := by simp [eqB]
@[simp] theorem eqB_self [DecidableEq α] {a : α} : eqB a a = true := by simp [eqB]
theorem mulI_ok {i j : Int} (h : -(2 ^ 64) < i) (h2 : i < 2 ^ 64) : binP .Mult i j = some (i * j) := binP_mul (mulOk_l h h2)
theorem divI_ok {i j : Int} (h : 0 < j) (h2 : j < 2 ^ 64) : binP .FloorDiv i j = some (i / j) := binP_div h (by have : (2:Int) ^ 64 < 2 ^ 250 := by decide
                                                                                                                omega)
theorem modI_ok {i j : Int} (h : 0 < j) : binP .Mod i j = some (i % j) := binP_mod h
/-! ### dicts -/
namespace Dc
variable [DecidableEq κ] {d : Dc κ ν} {k k' : κ} {v : ν}
theorem get_nil : (Dc.nil : Dc κ ν).get k = none := rfl
theorem has_nil : (Dc.nil : Dc κ ν).has k = false := rfl
theorem get_cons {p : κ × ν} {kvs : List (κ × ν)} : (Dc.mk (p :: kvs)).get k = if p.1 = k then some p.2 else (Dc.mk kvs).get k := by
  unfold Dc.get
  by_cases h : p.1 = k <;> simp [List.find?_cons, h]
theorem has_iff : d.has k = true ↔ k ∈ d.keys := by
  unfold Dc.has Dc.keys
  obtain ⟨kvs⟩ := d
  induction kvs with
  | nil => simp [Dc.get]
  | cons p kvs ih =>
    rw [get_cons]
    by_cases h : p.1 = k
    · simp [h]
    · rw [if_neg h, ih]
      simp [Ne.symm h]
theorem any_iff : (d.kvs.any fun p => decide (p.1 = k)) = d.has k := by
  rw [Bool.eq_iff_iff, has_iff]
  unfold Dc.keys
  simp
theorem get_set : (d.set k v).get k' = if k' = k then some v else d.get k' := by
  unfold Dc.set
  by_cases hk : (d.kvs.any fun p => decide (p.1 = k)) = true
  · rw [if_pos hk]
    obtain ⟨kvs⟩ := d
    simp only at hk ⊢
    induction kvs with
    | nil => simp at hk
    | cons p kvs ih =>
      rw [List.map_cons, get_cons, get_cons]
      by_cases h : p.1 = k
      · simp only [h, if_true]
        by_cases h' : k = k'
        · simp [h']
        · rw [if_neg h', if_neg (fun z => h' z.symm)]
          by_cases h2 : (kvs.any fun p => decide (p.1 = k)) = true
          · rw [ih h2, if_neg (fun z => h' z.symm), if_neg h']
          · have e : kvs.map (fun p => if p.1 = k then (p.1, v) else p) = kvs := by
              apply (List.map_congr_left (g := id) ?_).trans (List.map_id _)
              intro q hq
              rw [if_neg]; rfl
              intro z
              apply h2
              rw [List.any_eq_true]
              exact ⟨q, hq, by simp [z]⟩
            rw [e, if_neg h']
      · have hk' : (kvs.any fun p => decide (p.1 = k)) = true := by simpa [h] using hk
        rw [if_neg h, ih hk']
        by_cases h' : p.1 = k'
        · rw [if_pos h', if_pos h', if_neg (fun z => h (h'.trans z))]
        · rw [if_neg h', if_neg h']
  · rw [if_neg hk]
    obtain ⟨kvs⟩ := d
    simp only at hk ⊢
    induction kvs with
    | nil =>
      show (Dc.mk [(k, v)]).get k' = _
      rw [get_cons]
      by_cases h : k = k'
      · simp [h]
      · rw [if_neg h, if_neg (fun z => h z.symm)]
    | cons p kvs ih =>
      have h1 : ¬ p.1 = k := fun z => hk (by simp [z])
      have h2 : ¬ (kvs.any fun p => decide (p.1 = k)) = true := fun z => hk (by simp at z ⊢; exact .inr z)
      rw [List.cons_append, get_cons, get_cons, ih h2]
      by_cases h' : p.1 = k'
      · rw [if_pos h', if_pos h', if_neg (fun z => h1 (h'.trans z))]
      · rw [if_neg h', if_neg h']
theorem has_set : (d.set k v).has k' = (decide (k' = k) || d.has k') := by
  unfold Dc.has
  rw [get_set]
  by_cases h : k' = k <;> simp [h]
theorem keys_set : (d.set k v).keys = if d.has k = true then d.keys else d.keys ++ [k] := by
  unfold Dc.set Dc.keys
  rw [any_iff]
  by_cases h : d.has k = true
  · rw [if_pos h, if_pos h]
    simp only [List.map_map]
    apply List.map_congr_left
    intro q _
    simp only [Function.comp]
    split <;> rfl
  · rw [if_neg h, if_neg h]
    simp
theorem nodup_set (h : d.keys.Nodup) : (d.set k v).keys.Nodup := by
  rw [keys_set]
  by_cases hk : d.has k = true
  · rw [if_pos hk]; exact h
  · rw [if_neg hk, List.nodup_append]
    refine ⟨h, by simp, ?_⟩
    intro a ha b hb e
    simp at hb
    subst hb
    exact hk (has_iff.mpr (e ▸ ha))
theorem len_keys : d.keys.length = d.len := by simp [Dc.keys, Dc.len]
theorem len_set : (d.set k v).len ≤ d.len + 1 := by
  rw [← len_keys, ← len_keys, keys_set]
  split <;> simp
theorem put_ok (h : d.len < 16777216) : d.put k v = some (d.set k v) := if_pos h
theorem get_del : (d.del k).get k' = if k' = k then none else d.get k' := by
  unfold Dc.del
  obtain ⟨kvs⟩ := d
  simp only
  induction kvs with
  | nil => simp [Dc.get]
  | cons p kvs ih =>
    by_cases h : p.1 = k
    · rw [List.filter_cons_of_neg (by simp [h]), ih, get_cons]
      by_cases h' : k' = k
      · simp [h']
      · rw [if_neg h', if_neg h', if_neg (fun z => h' (z.symm.trans h))]
    · rw [List.filter_cons_of_pos (by simp [h]), get_cons, ih, get_cons]
      by_cases h' : k' = k
      · rw [if_pos h', if_neg (fun z => h (z.trans h'))]; simp [h']
      · rw [if_neg h', if_neg h']
theorem keys_del : (d.del k).keys = d.keys.filter fun x => decide (x ≠ k) := by
  unfold Dc.del Dc.keys
  rw [List.filter_map]
  rfl
theorem has_del : (d.del k).has k' = (d.has k' && decide (k' ≠ k)) := by
  unfold Dc.has
  rw [get_del]
  by_cases h : k' = k <;> simp [h]
theorem get_has (h : d.has k = true) : ∃ v, d.get k = some v := Option.isSome_iff_exists.mp h
theorem has_get (h : d.get k = some v) : d.has k = true := by unfold Dc.has; rw [h]; rfl
theorem pop_ok (h : d.get k = some v) : d.pop k = some (v, d.del k) := by unfold Dc.pop; rw [h]; rfl
end Dc
end
/-! ### lengths -/
theorem nodup_len {α : Type} [DecidableEq α] : ∀ {xs ys : List α}, xs.Nodup → (∀ x ∈ xs, x ∈ ys) → xs.length ≤ ys.length
  | [], _, _, _ => Nat.zero_le _
  | x :: xs, ys, h, hs => by
    have hx : x ∈ ys := hs x List.mem_cons_self
    have h' := List.nodup_cons.mp h
    have := nodup_len (xs := xs) (ys := ys.erase x) h'.2 (fun y hy => by
      rw [List.mem_erase_of_ne]
      · exact hs y (List.mem_cons_of_mem _ hy)
      · rintro rfl; exact h'.1 hy)
    rw [List.length_erase_of_mem hx] at this
    have hp : 0 < ys.length := List.length_pos_of_mem hx
    simp only [List.length_cons]
    omega
/-! ### sorting -/
theorem sortL_pts (xs : List Pt) : (sortL xs).Perm xs := List.mergeSort_perm xs _
theorem sortL_sds (xs : List Sd) : (sortL xs).Perm xs := List.mergeSort_perm xs _
theorem leP_trans (a b c : Pt) (h1 : leP a b = true) (h2 : leP b c = true) : leP a c = true := by
  simp only [leP, Bool.not_eq_true', decide_eq_false_iff_not] at *
  unfold ltP at *; omega
theorem leP_total (a b : Pt) : (leP a b || leP b a) = true := by
  by_cases h : ltP b a
  · have h2 : ¬ ltP a b := fun z => ltP_irrefl (ltP_trans h z)
    simp [leP, h2]
  · simp [leP, h]
theorem leS_trans (a b c : Sd) (h1 : leS a b = true) (h2 : leS b c = true) : leS a c = true := by
  simp only [leS, Bool.not_eq_true', decide_eq_false_iff_not] at *
  intro h
  rcases ltS_total (s := a) (t := b) with h3 | h3 | h3
  · exact h2 (ltS_trans h h3)
  · subst h3; exact h2 h
  · exact h1 h3
theorem leS_total (a b : Sd) : (leS a b || leS b a) = true := by
  by_cases h : ltS b a
  · have h2 : ¬ ltS a b := fun z => ltS_irrefl (ltS_trans h z)
    simp [leS, h2]
  · simp [leS, h]
theorem sortL_lt {xs : List Pt} (h : xs.Nodup) : (sortL xs).Pairwise ltP := by
  have h1 : (sortL xs).Pairwise (fun a b => leP a b = true) := List.pairwise_mergeSort leP_trans leP_total xs
  have h2 : (sortL xs).Nodup := (sortL_pts xs).nodup_iff.mpr h
  have := List.Pairwise.and h1 h2
  refine this.imp ?_
  intro a b hab
  simp only [leP, Bool.not_eq_true', decide_eq_false_iff_not] at hab
  rcases ltP_total (p := a) (q := b) with h3 | h3 | h3
  · exact h3
  · exact absurd h3 hab.2
  · exact absurd h3 hab.1
theorem sortL_ltS {xs : List Sd} (h : xs.Nodup) : (sortL xs).Pairwise ltS := by
  have h1 : (sortL xs).Pairwise (fun a b => leS a b = true) := List.pairwise_mergeSort leS_trans leS_total xs
  have h2 : (sortL xs).Nodup := (sortL_sds xs).nodup_iff.mpr h
  have := List.Pairwise.and h1 h2
  refine this.imp ?_
  intro a b hab
  simp only [leS, Bool.not_eq_true', decide_eq_false_iff_not] at hab
  rcases ltS_total (s := a) (t := b) with h3 | h3 | h3
  · exact h3
  · exact absurd h3 hab.2
  · exact absurd h3 hab.1
theorem nodup_of_lt {xs : List Pt} (h : xs.Pairwise ltP) : xs.Nodup := by
  unfold List.Nodup
  refine h.imp ?_
  rintro a b hab rfl
  exact ltP_irrefl hab
theorem nodup_of_ltS {xs : List Sd} (h : xs.Pairwise ltS) : xs.Nodup := by
  unfold List.Nodup
  refine h.imp ?_
  rintro a b hab rfl
  exact ltS_irrefl hab
/-- two sorted lists with the same members are equal -/
theorem sorted_ext {α : Type} {lt : α → α → Prop} (irr : ∀ a, ¬ lt a a) (tr : ∀ a b c, lt a b → lt b c → lt a c) : ∀ {xs ys : List α}, xs.Pairwise lt → ys.Pairwise lt → (∀ a, a ∈ xs ↔ a ∈ ys) → xs = ys
  | [], [], _, _, _ => rfl
  | [], y :: ys, _, _, h => absurd ((h y).mpr List.mem_cons_self) List.not_mem_nil
  | x :: xs, [], _, _, h => absurd ((h x).mp List.mem_cons_self) List.not_mem_nil
  | x :: xs, y :: ys, hx, hy, h => by
    have hx' := List.pairwise_cons.mp hx
    have hy' := List.pairwise_cons.mp hy
    have e : x = y := by
      rcases List.mem_cons.mp ((h x).mp List.mem_cons_self) with e | hm
      · exact e
      · rcases List.mem_cons.mp ((h y).mpr List.mem_cons_self) with e | hm'
        · exact e.symm
        · exact absurd (tr _ _ _ (hx'.1 y hm') (hy'.1 x hm)) (irr _)
    subst e
    congr 1
    refine sorted_ext irr tr hx'.2 hy'.2 fun a => ⟨fun ha => ?_, fun ha => ?_⟩
    · rcases List.mem_cons.mp ((h a).mp (List.mem_cons_of_mem _ ha)) with e | hm
      · subst e; exact absurd (hx'.1 _ ha) (irr _)
      · exact hm
    · rcases List.mem_cons.mp ((h a).mpr (List.mem_cons_of_mem _ ha)) with e | hm
      · subst e; exact absurd (hy'.1 _ ha) (irr _)
      · exact hm
theorem sortL_id {xs : List Pt} (h : xs.Pairwise ltP) : sortL xs = xs :=
  sorted_ext (fun _ => ltP_irrefl) (fun _ _ _ => ltP_trans) (sortL_lt (nodup_of_lt h)) h fun a => (sortL_pts xs).mem_iff
theorem sortL_idS {xs : List Sd} (h : xs.Pairwise ltS) : sortL xs = xs :=
  sorted_ext (fun _ => ltS_irrefl) (fun _ _ _ => ltS_trans) (sortL_ltS (nodup_of_ltS h)) h fun a => (sortL_sds xs).mem_iff
theorem mem_sortL {xs : List Pt} {a : Pt} : a ∈ sortL xs ↔ a ∈ xs := (sortL_pts xs).mem_iff
theorem mem_sortLS {xs : List Sd} {a : Sd} : a ∈ sortL xs ↔ a ∈ xs := (sortL_sds xs).mem_iff
theorem len_sortL {xs : List Pt} : (sortL xs).length = xs.length := (sortL_pts xs).length_eq
theorem len_sortLS {xs : List Sd} : (sortL xs).length = xs.length := (sortL_sds xs).length_eq
end Ev

namespace K03
open PySem PySem.Spec PyProof.Rows L2 Ev
def top (i : Nat) : Stmt := PySem.Challenge.pw_floortwos_k03_a_floor_made.main.body.getD i (.Pass ⟨0, 0, 0, 0⟩)
abbrev xs : List (Str × Bool) := [("TileError", false), ("NoFloor", true), ("NoTile", false), ("NoLaying", false), ("NoTurn", false), ("NoText", false), ("TooWide", false), ("Holed", false), ("NoHeights", false), ("NotAlike", false), ("NoNumber", false), ("NoTable", false)]
abbrev rz : List Nat := [1]
abbrev i_is_number : Nat := 0
abbrev i_is_cell : Nat := 1
abbrev i_gathered : Nat := 2
abbrev i__law_cell_at : Nat := 3
abbrev i__law_whole : Nat := 4
abbrev i__law_cell : Nat := 5
abbrev i__law_right : Nat := 6
abbrev i__law_refused : Nat := 7
abbrev i__law_made : Nat := 8
abbrev i__law_spoiled : Nat := 9
abbrev i__law_many : Nat := 10
abbrev i_law : Nat := 11
/-- is_number(thing); slots 0 thing -/
def F_is_number : Fn := ⟨1, 1, [
    .ite (.isi (.var 0) .bool) [
      .ret (.cst (.bl false))] [],
    .ret (.isi (.var 0) .int)]⟩
/-- is_cell(thing); slots 0 thing -/
def F_is_cell : Fn := ⟨1, 1, [
    .ite (.bop .Or [.not (.isi (.var 0) .tuple), .cmp .NotEq (.bi .len [.var 0]) (.cst (.int 2))]) [
      .ret (.cst (.bl false))] [],
    .ret (.bop .And [.fn i_is_number [.ix (.var 0) (.cst (.int 0))], .fn i_is_number [.ix (.var 0) (.cst (.int 1))]])]⟩
/-- gathered(cells); slots 0 cells, 1 found, 2 cell -/
def L_gathered_1 : S := .fo (.nm 2) (.seq (.var 0)) [
    .ite (.not (.fn i_is_cell [.var 2])) [
      .rai 1 []] [],
    .put (.var 1) (.var 2) (.cst (.bl true))]
def F_gathered : Fn := ⟨1, 3, [
    .asg (.nm 1) (.dct0),
    L_gathered_1,
    .ite (.cmp .Gt (.bi .len [.var 1]) (.cst (.int (64)))) [
      .rai 1 []] [],
    .ret (.bi .sorted [.var 1])]⟩
/-- _law_cell_at(_law_script, _law_k); slots 0 _law_script, 1 _law_k -/
def F__law_cell_at : Fn := ⟨2, 2, [
    .ite (.cmp .Lt (.var 1) (.bi .len [.var 0])) [
      .ret (.ix (.var 0) (.var 1))] [],
    .ret (.cst (.int 0))]⟩
/-- _law_whole(_law_found); slots 0 _law_found -/
def F__law_whole : Fn := ⟨1, 1, [
    .ret (.bop .And [.isi (.var 0) .int, .not (.isi (.var 0) .bool)])]⟩
/-- _law_cell(_law_found); slots 0 _law_found -/
def F__law_cell : Fn := ⟨1, 1, [
    .ite (.bop .Or [.not (.isi (.var 0) .tuple), .cmp .NotEq (.bi .len [.var 0]) (.cst (.int 2))]) [
      .ret (.cst (.bl false))] [],
    .ret (.bop .And [.fn i__law_whole [.ix (.var 0) (.cst (.int 0))], .fn i__law_whole [.ix (.var 0) (.cst (.int 1))]])]⟩
/-- _law_right(_law_found, _law_cells); slots 0 _law_found, 1 _law_cells, 2 _law_seen, 3 _law_cell_here, 4 _law_k -/
def L__law_right_1 : S := .fo (.nm 3) (.seq (.var 1)) [
    .put (.var 2) (.var 3) (.cst (.bl true))]
def L__law_right_2 : S := .fo (.nm 4) (.rng1 (.bi .len [.var 0])) [
    .ite (.bop .Or [.not (.fn i__law_cell [.ix (.var 0) (.var 4)]), .cmp .NotIn (.ix (.var 0) (.var 4)) (.var 2), .bop .And [.cmp .Gt (.var 4) (.cst (.int 0)), .not (.cmp .Lt (.ix (.var 0) (.bin .Sub (.var 4) (.cst (.int 1)))) (.ix (.var 0) (.var 4)))]]) [
      .ret (.cst (.bl false))] []]
def F__law_right : Fn := ⟨2, 5, [
    .ite (.not (.isi (.var 0) .list)) [
      .ret (.cst (.bl false))] [],
    .asg (.nm 2) (.dct0),
    L__law_right_1,
    .ite (.cmp .NotEq (.bi .len [.var 0]) (.bi .len [.var 2])) [
      .ret (.cst (.bl false))] [],
    L__law_right_2,
    .ret (.cst (.bl true))]⟩
/-- _law_refused(_law_cells); slots 0 _law_cells, 1 _law_handed, 2 _law_told, 3 error -/
def F__law_refused : Fn := ⟨1, 4, [
    .asg (.nm 1) (.bi .list [.var 0]),
    .asg (.nm 2) (.cst (.int 0)),
    .tri rz [
      .exp (.fn i_gathered [.var 1])] [⟨1, some 3, [.asg 2 (.int 1), .ite (.isx [.own 2, .own 3, .own 4, .own 5, .own 6]) [.asg 2 (.int 2)], .ite (.isx [.own 7, .own 8, .own 9, .own 10, .own 11]) [.asg 2 (.int 2)]]⟩],
    .ite (.bop .Or [.cmp .NotEq (.var 2) (.cst (.int 1)), .cmp .NotEq (.var 1) (.var 0)]) [
      .ret (.cst (.bl false))] [],
    .tri rz [
      .exp (.fn i_gathered [.var 1])] [⟨0, some 3, [.asg 2 (.mul (.int 3) (.toI (.isx [.ve])))]⟩],
    .ret (.cmp .Eq (.var 2) (.cst (.int 3)))]⟩
/-- _law_made(_law_cells); slots 0 _law_cells, 1 _law_handed, 2 _law_found, 3 _law_held -/
def F__law_made : Fn := ⟨1, 4, [
    .asg (.nm 1) (.bi .list [.var 0]),
    .asg (.nm 2) (.fn i_gathered [.var 1]),
    .ite (.bop .Or [.not (.fn i__law_right [.var 2, .var 0]), .cmp .NotEq (.var 1) (.var 0)]) [
      .ret (.cst (.bl false))] [],
    .asg (.nm 3) (.bi .list [.var 2]),
    .exp (.mt .clear (.var 1) []),
    .ite (.cmp .NotEq (.var 2) (.var 3)) [
      .ret (.cst (.bl false))] [],
    .exp (.mt .append (.var 2) [.tup [.cst (.int 0), .cst (.int 0)]]),
    .ret (.fn i__law_right [.fn i_gathered [.var 0], .var 0])]⟩
/-- _law_spoiled(_law_cells, _law_cell_here); slots 0 _law_cells, 1 _law_cell_here, 2 _law_some, 3 _law_at -/
def F__law_spoiled : Fn := ⟨2, 4, [
    .asg (.nm 2) (.lst [.cst .non, .cst (.int 3), .cst (.str "ab"), .tup [.cst (.int 1)], .tup [.cst (.int 1), .cst (.int 2), .cst (.int 3)], .lst [.cst (.int 0), .cst (.int 1)], .tup [.cst (.int 0), .cst (.bl true)], .tup [.cst (.str "0"), .cst (.int 1)], .tup [.cst .non, .cst (.int 2)], .tup [.lst [.cst (.int 0)], .cst (.int 1)], .tup [.cst (.int 0), .lst [.cst (.int 1)]]]),
    .asg (.nm 3) (.bin .Mod (.bin .FloorDiv (.var 1) (.cst (.int 11))) (.bin .Add (.bi .len [.var 0]) (.cst (.int 1)))),
    .ret (.bin .Add (.bin .Add (.sl (.var 0) none (some (.var 3))) (.lst [.ix (.var 2) (.bin .Mod (.var 1) (.cst (.int 11)))])) (.sl (.var 0) (some (.var 3)) none))]⟩
/-- _law_many(_law_cell_here); slots 0 _law_cell_here, 1 _law_many_here, 2 _law_step, 3 _law_cells, 4 _law_k -/
def C__law_many_1 : E := .lc [4] (.nm 4) (.rng1 (.var 1)) [] (.tup [.bin .FloorDiv (.bin .Mod (.bin .Mult (.var 4) (.var 2)) (.var 1)) (.cst (.int 9)), .bin .Mod (.bin .Mod (.bin .Mult (.var 4) (.var 2)) (.var 1)) (.cst (.int 9))])
def F__law_many : Fn := ⟨1, 5, [
    .asg (.nm 1) (.bin .Add (.cst (.int 61)) (.bin .Mod (.var 0) (.cst (.int 9)))),
    .asg (.nm 2) (.ix (.lst [.cst (.int 1), .cst (.int 29), .cst (.int 37), .cst (.int 43), .cst (.int 59)]) (.bin .Mod (.bin .FloorDiv (.var 0) (.cst (.int 9))) (.cst (.int 5)))),
    .asg (.nm 3) (C__law_many_1),
    .ret (.bin .Add (.var 3) (.sl (.var 3) none (some (.bin .Mod (.bin .FloorDiv (.var 0) (.cst (.int 45))) (.cst (.int 5))))))]⟩
/-- law(_law_script); slots 0 _law_script, 1 _law_down, 2 _law_right_here, 3 _law_cells, 4 _law_many_here, 5 _law_cell_here -/
def C_law_1 : E := .lc [5] (.nm 5) (.seq (.var 0)) [] (.tup [.bin .Add (.var 1) (.bin .Mod (.var 5) (.cst (.int 8))), .bin .Add (.var 2) (.bin .Mod (.bin .FloorDiv (.var 5) (.cst (.int 8))) (.cst (.int 8)))])
def F_law : Fn := ⟨1, 6, [
    .asg (.nm 1) (.bin .Sub (.bin .Mod (.bin .FloorDiv (.fn i__law_cell_at [.var 0, .cst (.int 0)]) (.cst (.int 64))) (.bin .Add (.bin .Mult (.cst (.int 2)) (.bin .Pow (.cst (.int 10)) (.cst (.int 18)))) (.cst (.int 1)))) (.bin .Pow (.cst (.int 10)) (.cst (.int 18)))),
    .asg (.nm 2) (.bin .Sub (.bin .Mod (.bin .FloorDiv (.fn i__law_cell_at [.var 0, .cst (.int 1)]) (.cst (.int 64))) (.bin .Add (.bin .Mult (.cst (.int 2)) (.bin .Pow (.cst (.int 10)) (.cst (.int 18)))) (.cst (.int 1)))) (.bin .Pow (.cst (.int 10)) (.cst (.int 18)))),
    .asg (.nm 3) (C_law_1),
    .ite (.not (.fn i__law_made [.var 3])) [
      .ret (.cst (.bl false))] [],
    .ite (.bop .Or [.not (.fn i__law_refused [.fn i__law_spoiled [.var 3, .fn i__law_cell_at [.var 0, .cst (.int 2)]]]), .not (.fn i__law_made [.var 3])]) [
      .ret (.cst (.bl false))] [],
    .asg (.nm 4) (.fn i__law_many [.fn i__law_cell_at [.var 0, .cst (.int 3)]]),
    .ite (.cmp .Gt (.bin .Add (.cst (.int 61)) (.bin .Mod (.fn i__law_cell_at [.var 0, .cst (.int 3)]) (.cst (.int 9)))) (.cst (.int 64))) [
      .ret (.fn i__law_refused [.var 4])] [],
    .ret (.fn i__law_made [.var 4])]⟩
def d_is_number : Df := ⟨"is_number", top 14, ["thing"], ["thing"], F_is_number, 0⟩
def d_is_cell : Df := ⟨"is_cell", top 15, ["thing"], ["thing"], F_is_cell, 0⟩
def d_gathered : Df := ⟨"gathered", top 18, ["cells", "found", "cell"], ["cells"], F_gathered, 0⟩
def d__law_cell_at : Df := ⟨"_law_cell_at", top 20, ["_law_script", "_law_k"], ["_law_script", "_law_k"], F__law_cell_at, 0⟩
def d__law_whole : Df := ⟨"_law_whole", top 21, ["_law_found"], ["_law_found"], F__law_whole, 0⟩
def d__law_cell : Df := ⟨"_law_cell", top 22, ["_law_found"], ["_law_found"], F__law_cell, 0⟩
def d__law_right : Df := ⟨"_law_right", top 23, ["_law_found", "_law_cells", "_law_seen", "_law_cell_here", "_law_k"], ["_law_found", "_law_cells"], F__law_right, 0⟩
def d__law_refused : Df := ⟨"_law_refused", top 24, ["_law_cells", "_law_handed", "_law_told", "error"], ["_law_cells"], F__law_refused, 0⟩
def d__law_made : Df := ⟨"_law_made", top 25, ["_law_cells", "_law_handed", "_law_found", "_law_held"], ["_law_cells"], F__law_made, 0⟩
def d__law_spoiled : Df := ⟨"_law_spoiled", top 26, ["_law_cells", "_law_cell_here", "_law_some", "_law_at"], ["_law_cells", "_law_cell_here"], F__law_spoiled, 0⟩
def d__law_many : Df := ⟨"_law_many", top 27, ["_law_cell_here", "_law_many_here", "_law_step", "_law_cells", "_law_k"], ["_law_cell_here"], F__law_many, 0⟩
def d_law : Df := ⟨"law", top 28, ["_law_script", "_law_down", "_law_right_here", "_law_cells", "_law_many_here", "_law_cell_here"], ["_law_script"], F_law, 0⟩
def tab : List Df := [d_is_number, d_is_cell, d_gathered, d__law_cell_at, d__law_whole, d__law_cell, d__law_right, d__law_refused, d__law_made, d__law_spoiled, d__law_many, d_law]
abbrev gs : List (Str × Int) := [("MOST", 64)]
abbrev M : Md := ⟨gs, xs⟩
def T : List Fn := [F_is_number, F_is_cell, F_gathered, F__law_cell_at, F__law_whole, F__law_cell, F__law_right, F__law_refused, F__law_made, F__law_spoiled, F__law_many, F_law]
theorem o_is_number : DfOk tab M d_is_number := ⟨⟨rfl, rfl, rfl, by decide +kernel, rfl, by decide +kernel, by decide +kernel⟩, by kernel_rfl, rfl, rfl, .inl ⟨rfl, fun _ _ _ _ _ _ us hl => match us, hl with | [_], _ => rfl⟩, by decide +kernel⟩
theorem o_is_cell : DfOk tab M d_is_cell := ⟨⟨rfl, rfl, rfl, by decide +kernel, rfl, by decide +kernel, by decide +kernel⟩, by kernel_rfl, rfl, rfl, .inl ⟨rfl, fun _ _ _ _ _ _ us hl => match us, hl with | [_], _ => rfl⟩, by decide +kernel⟩
theorem o_gathered : DfOk tab M d_gathered := ⟨⟨rfl, rfl, rfl, by decide +kernel, rfl, by decide +kernel, by decide +kernel⟩, by kernel_rfl, rfl, rfl, .inl ⟨rfl, fun _ _ _ _ _ _ us hl => match us, hl with | [_], _ => rfl⟩, by decide +kernel⟩
theorem o__law_cell_at : DfOk tab M d__law_cell_at := ⟨⟨rfl, rfl, rfl, by decide +kernel, rfl, by decide +kernel, by decide +kernel⟩, by kernel_rfl, rfl, rfl, .inl ⟨rfl, fun _ _ _ _ _ _ us hl => match us, hl with | [_, _], _ => rfl⟩, by decide +kernel⟩
theorem o__law_whole : DfOk tab M d__law_whole := ⟨⟨rfl, rfl, rfl, by decide +kernel, rfl, by decide +kernel, by decide +kernel⟩, by kernel_rfl, rfl, rfl, .inl ⟨rfl, fun _ _ _ _ _ _ us hl => match us, hl with | [_], _ => rfl⟩, by decide +kernel⟩
theorem o__law_cell : DfOk tab M d__law_cell := ⟨⟨rfl, rfl, rfl, by decide +kernel, rfl, by decide +kernel, by decide +kernel⟩, by kernel_rfl, rfl, rfl, .inl ⟨rfl, fun _ _ _ _ _ _ us hl => match us, hl with | [_], _ => rfl⟩, by decide +kernel⟩
theorem o__law_right : DfOk tab M d__law_right := ⟨⟨rfl, rfl, rfl, by decide +kernel, rfl, by decide +kernel, by decide +kernel⟩, by kernel_rfl, rfl, rfl, .inl ⟨rfl, fun _ _ _ _ _ _ us hl => match us, hl with | [_, _], _ => rfl⟩, by decide +kernel⟩
theorem o__law_refused : DfOk tab M d__law_refused := ⟨⟨rfl, rfl, rfl, by decide +kernel, rfl, by decide +kernel, by decide +kernel⟩, by kernel_rfl, rfl, rfl, .inl ⟨rfl, fun _ _ _ _ _ _ us hl => match us, hl with | [_], _ => rfl⟩, by decide +kernel⟩
theorem o__law_made : DfOk tab M d__law_made := ⟨⟨rfl, rfl, rfl, by decide +kernel, rfl, by decide +kernel, by decide +kernel⟩, by kernel_rfl, rfl, rfl, .inl ⟨rfl, fun _ _ _ _ _ _ us hl => match us, hl with | [_], _ => rfl⟩, by decide +kernel⟩
theorem o__law_spoiled : DfOk tab M d__law_spoiled := ⟨⟨rfl, rfl, rfl, by decide +kernel, rfl, by decide +kernel, by decide +kernel⟩, by kernel_rfl, rfl, rfl, .inl ⟨rfl, fun _ _ _ _ _ _ us hl => match us, hl with | [_, _], _ => rfl⟩, by decide +kernel⟩
theorem o__law_many : DfOk tab M d__law_many := ⟨⟨rfl, rfl, rfl, by decide +kernel, rfl, by decide +kernel, by decide +kernel⟩, by kernel_rfl, rfl, rfl, .inl ⟨rfl, fun _ _ _ _ _ _ us hl => match us, hl with | [_], _ => rfl⟩, by decide +kernel⟩
theorem o_law : DfOk tab M d_law := ⟨⟨rfl, rfl, rfl, by decide +kernel, rfl, by decide +kernel, by decide +kernel⟩, by kernel_rfl, rfl, rfl, .inl ⟨rfl, fun _ _ _ _ _ _ us hl => match us, hl with | [_], _ => rfl⟩, by decide +kernel⟩
theorem tab_all : ∀ d ∈ tab, DfOk tab M d := by
  intro d hd
  simp only [tab, List.mem_cons, List.not_mem_nil, or_false] at hd
  rcases hd with rfl | rfl | rfl | rfl | rfl | rfl | rfl | rfl | rfl | rfl | rfl | rfl
  · exact o_is_number
  · exact o_is_cell
  · exact o_gathered
  · exact o__law_cell_at
  · exact o__law_whole
  · exact o__law_cell
  · exact o__law_right
  · exact o__law_refused
  · exact o__law_made
  · exact o__law_spoiled
  · exact o__law_many
  · exact o_law
theorem at_is_number : T[i_is_number]? = some F_is_number := rfl
theorem at_is_cell : T[i_is_cell]? = some F_is_cell := rfl
theorem at_gathered : T[i_gathered]? = some F_gathered := rfl
theorem at__law_cell_at : T[i__law_cell_at]? = some F__law_cell_at := rfl
theorem at__law_whole : T[i__law_whole]? = some F__law_whole := rfl
theorem at__law_cell : T[i__law_cell]? = some F__law_cell := rfl
theorem at__law_right : T[i__law_right]? = some F__law_right := rfl
theorem at__law_refused : T[i__law_refused]? = some F__law_refused := rfl
theorem at__law_made : T[i__law_made]? = some F__law_made := rfl
theorem at__law_spoiled : T[i__law_spoiled]? = some F__law_spoiled := rfl
theorem at__law_many : T[i__law_many]? = some F__law_many := rfl
theorem at_law : T[i_law]? = some F_law := rfl
def ms : List (List Mode) := [[.rd], [.rd], [.rd], [.rd, .rd], [.rd], [.rd], [.rd, .rd], [.rd], [.rd], [.rd, .rd], [.rd], [.sh]]
@[simp] theorem ms_is_number : msAt ms i_is_number = [.rd] := (rfl)
@[simp] theorem ms_is_cell : msAt ms i_is_cell = [.rd] := (rfl)
@[simp] theorem ms_gathered : msAt ms i_gathered = [.rd] := (rfl)
@[simp] theorem ms__law_cell_at : msAt ms i__law_cell_at = [.rd, .rd] := (rfl)
@[simp] theorem ms__law_whole : msAt ms i__law_whole = [.rd] := (rfl)
@[simp] theorem ms__law_cell : msAt ms i__law_cell = [.rd] := (rfl)
@[simp] theorem ms__law_right : msAt ms i__law_right = [.rd, .rd] := (rfl)
@[simp] theorem ms__law_refused : msAt ms i__law_refused = [.rd] := (rfl)
@[simp] theorem ms__law_made : msAt ms i__law_made = [.rd] := (rfl)
@[simp] theorem ms__law_spoiled : msAt ms i__law_spoiled = [.rd, .rd] := (rfl)
@[simp] theorem ms__law_many : msAt ms i__law_many = [.rd] := (rfl)
@[simp] theorem ms_law : msAt ms i_law = [.sh] := (rfl)
end K03

namespace Pg
open PySem Ev
def l_cell_at (script0 : List Int) (k_0 : Int) : R (Int) := Fw.out (σ := Unit) (
  if (decide (k_0 < (script0.length : Int))) = true then ((R.of (itemL script0 k_0)).fw fun x1 =>
  .rt x1)
  else (.rt 0))
def check_width (floor0 : List (Int × Int)) : R (Unit) := Fw.outN (σ := Unit) (fun s => (())) (
  (R.of (mkL (floor0.map (fun y1 => y1.2)))).fw fun x2 =>
  ((R.and (.ok (!eqB x2 [])) ((R.of (most x2)).bind fun x3 => (R.of (least x2)).bind fun x4 => .ok (decide (7 < (x3 - x4)))))).fw fun b5 =>
  if b5 = true then (.exc .tooWide [])
  else (.nx ()))
def cells_without (cells0 : List (Int × Int)) (tile0 : ((Int × Int) × (Int × Int))) : R (List (Int × Int)) := Fw.out (σ := Unit) (
  (R.of (mkL (cells0.filter (fun y1 => (!memB y1 [tile0.1, tile0.2]))))).fw fun x2 =>
  .rt x2)
def partners_of (cells0 : List (Int × Int)) (first0 : (Int × Int)) : R (List (Int × Int)) := Fw.out (σ := Unit) (
  (R.of (mkL ([(first0.1, (first0.2 + 1)), ((first0.1 + 1), first0.2)].filter (fun y1 => (memB y1 cells0))))).fw fun x2 =>
  .rt x2)
def count_cases (w : Nat) : Nat → (List (Int × Int)) → (Dc (Tu (Int × Int)) Int) → R (Int × Dc (Tu (Int × Int)) Int)
  | 0, _, _ => .bad
  | n + 1, cells0, known0 => Fw.out (σ := Unit) (
  if (decide ((cells0.length : Int) = 0)) = true then (.rt (1, known0))
  else ((if (!known0.has (Tu.mk cells0)) = true then ((R.of (itemL cells0 0)).fw fun x1 =>
  (partners_of cells0 x1).fw fun r2 =>
  (forF (σ := (Dc (Tu (Int × Int)) Int) × Int) (fun (y3 : (Int × Int)) (known4, many5) =>
  (cells_without cells0 (x1, y3)).fw fun r6 =>
  (count_cases w n r6 known4).fw fun r7 =>
  .nx (r7.2, (many5 + r7.1))) r2 (known0, 0)).bind fun (known8, many9) =>
  (R.of (known8.put (Tu.mk cells0) many9)).fw fun known10 =>
  .nx known10)
  else (.nx known0) : Fw ((Dc (Tu (Int × Int)) Int)) _).bind fun known11 =>
  (R.of (known11.get (Tu.mk cells0))).fw fun x12 =>
  .rt (x12, known11)))
def by_cases (w : Nat) (n : Nat) (floor0 : List (Int × Int)) : R (Int) := Fw.out (σ := Unit) (
  (check_width floor0).fw fun r1 =>
  (count_cases w n floor0 (Dc.nil : Dc (Tu (Int × Int)) Int)).fw fun r2 =>
  .rt r2.1)
def l_whole (found0 : Int) : R (Bool) := Fw.out (σ := Unit) (
  .rt (true && (!false)))
def l_cell (found0 : (Int × Int)) : R (Bool) := Fw.out (σ := Unit) (
  if ((!true) || (!decide (2 = 2))) = true then (.rt false)
  else (((R.and ((l_whole found0.1).bind fun r1 => .ok r1) ((l_whole found0.2).bind fun r2 => .ok r2))).fw fun b3 =>
  .rt b3))
def is_number (thing0 : Int) : R (Bool) := Fw.out (σ := Unit) (
  if false = true then (.rt false)
  else (.rt true))
def is_cell (thing0 : (Int × Int)) : R (Bool) := Fw.out (σ := Unit) (
  if ((!true) || (!decide (2 = 2))) = true then (.rt false)
  else (((R.and ((is_number thing0.1).bind fun r1 => .ok r1) ((is_number thing0.2).bind fun r2 => .ok r2))).fw fun b3 =>
  .rt b3))
def gathered (cells0 : List (Int × Int)) : R (List (Int × Int)) := Fw.out (σ := Unit) (
  (forF (σ := (Dc (Int × Int) Bool)) (fun (y1 : (Int × Int)) found2 =>
  ((R.not ((is_cell y1).bind fun r3 => .ok r3))).fw fun b4 =>
  if b4 = true then (.exc .noFloor [])
  else ((R.of (found2.put y1 true)).fw fun found5 =>
  .nx found5)) cells0 (Dc.nil : Dc (Int × Int) Bool)).bind fun found6 =>
  if (decide (64 < (found6.len : Int))) = true then (.exc .noFloor [])
  else ((R.of (mkL (sortL found6.keys))).fw fun x7 =>
  .rt x7))
def l_right_4 (found0 : List (Int × Int)) (cells0 : List (Int × Int)) : R (Bool) := Fw.out (σ := Unit) (
  if (!true) = true then (.rt false)
  else ((forF (σ := (Dc (Int × Int) Bool)) (fun (y1 : (Int × Int)) seen2 =>
  (R.of (seen2.put y1 true)).fw fun seen3 =>
  .nx seen3) cells0 (Dc.nil : Dc (Int × Int) Bool)).bind fun seen4 =>
  if (!decide ((found0.length : Int) = (seen4.len : Int))) = true then (.rt false)
  else ((R.of (rangeL 0 (found0.length : Int))).fw fun x5 =>
  (forF (σ := Unit) (fun (y6 : Int) _ =>
  ((R.or (R.not ((R.of (itemL found0 y6)).bind fun x7 => (l_cell x7).bind fun r8 => .ok r8)) (R.or ((R.of (itemL found0 y6)).bind fun x9 => .ok (!seen4.has x9)) (R.and (.ok (decide (0 < y6))) (R.not ((R.of (itemL found0 (y6 - 1))).bind fun x10 => (R.of (itemL found0 y6)).bind fun x11 => .ok (Lo.lt x10 x11))))))).fw fun b12 =>
  if b12 = true then (.rt false)
  else (.nx ())) x5 ()).bind fun _ =>
  .rt true)))
def l_made (cells0 : List (Int × Int)) : R (Bool) := Fw.out (σ := Unit) (
  (R.of (mkL cells0)).fw fun x1 =>
  (gathered x1).fw fun r2 =>
  ((R.or (R.not ((l_right_4 r2 cells0).bind fun r3 => .ok r3)) (.ok (!eqB x1 cells0)))).fw fun b4 =>
  if b4 = true then (.rt false)
  else ((R.of (mkL r2)).fw fun x5 =>
  if (!eqB r2 x5) = true then (.rt false)
  else ((R.of (pushL r2 (0, 0))).fw fun found6 =>
  (gathered cells0).fw fun r7 =>
  (l_right_4 r7 cells0).fw fun r8 =>
  .rt r8)))
def l_spoiled (cells0 : List (Int × Int)) (cell_here0 : Int) : R (List (Ev.T)) := Fw.out (σ := Unit) (
  (R.of (binP .Mod (cell_here0 / 11) ((cells0.length : Int) + 1))).fw fun x1 =>
  (R.of (itemL [(Ev.T.non : Ev.T), (Ev.T.int 3 : Ev.T), (Ev.T.str ("ab" : Str) : Ev.T), (Ev.T.tup [Ev.T.int 1]), (Tv.t ((P3.mk 1 2 3) : (P3 Int Int Int)) : Ev.T), (Tv.t ([0, 1] : List Int) : Ev.T), (Tv.t ((0, true) : (Int × Bool)) : Ev.T), (Tv.t ((("0" : Str), 1) : (Str × Int)) : Ev.T), (Tv.t (((), 2) : (Unit × Int)) : Ev.T), (Tv.t (([0], 1) : (List Int × Int)) : Ev.T), (Tv.t ((0, [1]) : (Int × List Int)) : Ev.T)] (cell_here0 % 11))).fw fun x2 =>
  (R.of (mkL (((cutP cells0 none (some x1)).map Tv.t) ++ [x2]))).fw fun x3 =>
  (R.of (mkL (x3 ++ ((cutP cells0 (some x1) none).map Tv.t)))).fw fun x4 =>
  .rt x4)
def l_many (cell_here0 : Int) : R (List (Int × Int)) := Fw.out (σ := Unit) (
  (R.of (itemL [1, 29, 37, 43, 59] ((cell_here0 / 9) % 5))).fw fun x1 =>
  (R.of (rangeL 0 (61 + (cell_here0 % 9)))).fw fun x2 =>
  (R.calm (compR (fun y3 => .ok true) (fun y3 => (R.of (binP .Mult y3 x1)).bind fun x4 => (R.of (binP .Mod x4 (61 + (cell_here0 % 9)))).bind fun x5 => .ok ((x5 / 9), (x5 % 9))) x2)).fw fun x6 =>
  (R.of (mkL x6)).fw fun x7 =>
  (R.of (mkL (x7 ++ (cutP x7 none (some ((cell_here0 / 45) % 5)))))).fw fun x8 =>
  .rt x8)
def is_number_2 (thing0 : Ev.T) : R (Bool) := Fw.out (σ := Unit) (
  (R.of (isiT thing0 .bool)).fw fun x1 =>
  if x1 = true then (.rt false)
  else ((R.of (isiT thing0 .int)).fw fun x2 =>
  .rt x2))
def is_cell_2 (thing0 : Ev.T) : R (Bool) := Fw.out (σ := Unit) (
  ((R.or (R.not ((R.of (isiT thing0 .tuple)).bind fun x1 => .ok x1)) ((R.of (lenA thing0)).bind fun x2 => .ok (!decide (x2 = 2))))).fw fun b3 =>
  if b3 = true then (.rt false)
  else (((R.and ((R.of (ixT thing0 (.int 0))).bind fun x4 => (is_number_2 x4).bind fun r5 => .ok r5) ((R.of (ixT thing0 (.int 1))).bind fun x6 => (is_number_2 x6).bind fun r7 => .ok r7))).fw fun b8 =>
  .rt b8))
def gathered_2 (cells0 : List (Ev.T)) : R (List (Ev.T)) := Fw.out (σ := Unit) (
  (forF (σ := Dc (Ev.T) Bool) (fun (y1 : Ev.T) found2 =>
  ((R.not ((is_cell_2 y1).bind fun r3 => .ok r3))).fw fun b4 =>
  if b4 = true then (.exc .noFloor [])
  else ((R.of (found2.putA y1 true)).fw fun found5 =>
  .nx found5)) cells0 (Dc.nil : Dc (Ev.T) Bool)).bind fun found6 =>
  if (decide (64 < (found6.len : Int))) = true then (.exc .noFloor [])
  else ((R.of (sortA found6.keys)).fw fun x7 =>
  .rt x7))
def l_refused (cells0 : List (Ev.T)) : R (Bool) := Fw.out (σ := Unit) (
  (R.of (mkL cells0)).fw fun x1 =>
  (tryF (σ := Int) ((gathered_2 x1).fw fun r2 =>
  .nx 0) (fun c => if ([.noFloor] : List Cl).contains c = true then (if c.is .noFloor = true then ((if (Cl.is c .noTile || (Cl.is c .noLaying || (Cl.is c .noTurn || (Cl.is c .noText || (Cl.is c .tooWide || false))))) = true then (.nx 2)
  else (.nx 1) : Fw (Int) _).bind fun told3 =>
  (if (Cl.is c .holed || (Cl.is c .noHeights || (Cl.is c .notAlike || (Cl.is c .noNumber || (Cl.is c .noTable || false))))) = true then (.nx 2)
  else (.nx told3) : Fw (Int) _).bind fun told4 =>
  .nx told4)
  else (.exc c [])) else .bad)).bind fun told5 =>
  ((R.or (.ok (!decide (told5 = 1))) ((R.of (eqT (Tv.t x1) (Tv.t cells0))).bind fun x6 => .ok (!x6)))).fw fun b7 =>
  if b7 = true then (.rt false)
  else ((tryF (σ := Int) ((gathered_2 x1).fw fun r8 =>
  .nx told5) (fun c => if ([.noFloor] : List Cl).contains c = true then (if c.is .tile = true then (.nx (3 * (if (true || false) = true then (1 : Int) else 0)))
  else (.exc c [])) else .bad)).bind fun told9 =>
  .rt (decide (told9 = 3))))
def l_refused_2 (cells0 : List (Int × Int)) : R (Bool) := Fw.out (σ := Unit) (
  (R.of (mkL cells0)).fw fun x1 =>
  (tryF (σ := Int) ((gathered x1).fw fun r2 =>
  .nx 0) (fun c => if ([.noFloor] : List Cl).contains c = true then (if c.is .noFloor = true then ((if (Cl.is c .noTile || (Cl.is c .noLaying || (Cl.is c .noTurn || (Cl.is c .noText || (Cl.is c .tooWide || false))))) = true then (.nx 2)
  else (.nx 1) : Fw (Int) _).bind fun told3 =>
  (if (Cl.is c .holed || (Cl.is c .noHeights || (Cl.is c .notAlike || (Cl.is c .noNumber || (Cl.is c .noTable || false))))) = true then (.nx 2)
  else (.nx told3) : Fw (Int) _).bind fun told4 =>
  .nx told4)
  else (.exc c [])) else .bad)).bind fun told5 =>
  if ((!decide (told5 = 1)) || (!eqB x1 cells0)) = true then (.rt false)
  else ((tryF (σ := Int) ((gathered x1).fw fun r6 =>
  .nx told5) (fun c => if ([.noFloor] : List Cl).contains c = true then (if c.is .tile = true then (.nx (3 * (if (true || false) = true then (1 : Int) else 0)))
  else (.exc c [])) else .bad)).bind fun told7 =>
  .rt (decide (told7 = 3))))
def law_k03 (script0 : List Int) : R (Bool) := Fw.out (σ := Unit) (
  (l_cell_at script0 0).fw fun r1 =>
  (l_cell_at script0 1).fw fun r2 =>
  (R.of (mkL (script0.map (fun y3 => (((((r1 / 64) % 2000000000000000001) - 1000000000000000000) + (y3 % 8)), ((((r2 / 64) % 2000000000000000001) - 1000000000000000000) + ((y3 / 8) % 8))))))).fw fun x4 =>
  ((R.not ((l_made x4).bind fun r5 => .ok r5))).fw fun b6 =>
  if b6 = true then (.rt false)
  else (((R.or (R.not ((l_cell_at script0 2).bind fun r7 => (l_spoiled x4 r7).bind fun r8 => (l_refused r8).bind fun r9 => .ok r9)) (R.not ((l_made x4).bind fun r10 => .ok r10)))).fw fun b11 =>
  if b11 = true then (.rt false)
  else ((l_cell_at script0 3).fw fun r12 =>
  (l_many r12).fw fun r13 =>
  if (decide (64 < (61 + (r12 % 9)))) = true then ((l_refused_2 r13).fw fun r14 =>
  .rt r14)
  else ((l_made r13).fw fun r15 =>
  .rt r15))))
end Pg

namespace K03
open PySem Ev Pg
def cm : Cl → Nat
  | .tile => 0
  | .noFloor => 1
  | .noTile => 2
  | .noLaying => 3
  | .noTurn => 4
  | .noText => 5
  | .tooWide => 6
  | .holed => 7
  | .noHeights => 8
  | .notAlike => 9
  | .noNumber => 10
  | .noTable => 11
theorem x_0 (c : Cl) : xsub (cm c) 0 = c.is .tile := by cases c <;> rfl
theorem x_1 (c : Cl) : xsub (cm c) 1 = c.is .noFloor := by cases c <;> rfl
theorem x_2 (c : Cl) : xsub (cm c) 2 = c.is .noTile := by cases c <;> rfl
theorem x_3 (c : Cl) : xsub (cm c) 3 = c.is .noLaying := by cases c <;> rfl
theorem x_4 (c : Cl) : xsub (cm c) 4 = c.is .noTurn := by cases c <;> rfl
theorem x_5 (c : Cl) : xsub (cm c) 5 = c.is .noText := by cases c <;> rfl
theorem x_6 (c : Cl) : xsub (cm c) 6 = c.is .tooWide := by cases c <;> rfl
theorem x_7 (c : Cl) : xsub (cm c) 7 = c.is .holed := by cases c <;> rfl
theorem x_8 (c : Cl) : xsub (cm c) 8 = c.is .noHeights := by cases c <;> rfl
theorem x_9 (c : Cl) : xsub (cm c) 9 = c.is .notAlike := by cases c <;> rfl
theorem x_10 (c : Cl) : xsub (cm c) 10 = c.is .noNumber := by cases c <;> rfl
theorem x_11 (c : Cl) : xsub (cm c) 11 = c.is .noTable := by cases c <;> rfl
theorem rz_ok : ∀ c : Cl, ([.noFloor] : List Cl).contains c = true → rz.contains (cm c) = true := by intro c; cases c <;> first | (intro _; rfl) | (intro h; cases h)
theorem pw_10_18 : binP .Pow 10 18 = some 1000000000000000000 := by decide +kernel
local macro_rules
  | `(tactic| infer_instance) => `(tactic| ((simp only [vs_asg, vs_asgt, asg_vT, asg_vF, asg_p, vs_par, vs_put, vs_aug, vs_exp, vs_ret, ret_v, ret_p, vs_retN, vs_con, vs_pas, vs_rai, vss_nil, vss_cons, vr_ok, vr_exc, vr_bad, vr_of_some, vr_of_none, vf_ok, vf_exc, vf_bad, vfl_nx, vfl_rt, vfl_exc, lk_is, ldV_is, peek_v, peek_p, take_v, take_p, isM_none, isM_s, isM_l, isM_r, isM_b, isM_m, isM_ob, stV_is, ownOk_nil, ownOk_cons, own_ob, join_ob, t_s, t_l, t_m, t_r, t_b, mut_s, mut_m, mut_l, mut_r, mut_b, flat_tup, flat_int, flat_bl, flat_str, flat_non, flats_nil, flats_cons, bindV_nm, bindVs_nil, bindVs_cons, bd_pair, bd_p3, bd_h2, bd_l2, bd_l4, wipeV_nil, wipeV_cons, unlock_nil, unlock_cons, ve_var, ve_cst, cst_int, cst_bl, cst_str, cst_non, ve_tup, ve_lst, ve_dct0, ve_dct1, ve_bin, ve_neg, ve_not, ve_cmp, ve_chn, ve_bop, ve_ite, ve_fn, ve_min2, ve_max2, ve_bi1, ve_divmod, ve_get1, ve_get2, ve_mut, ve_ix, ve_sl, ve_isi, vts_nil, vts_cons, va_nil, va_cons, arg_sh, arg_rdv, arg_rdp, arg_ioT, arg_iop, vo_none, vo_some, vb_one, vb_and, vb_or, vt_nil, vt_one, vi_seq, vi_rng1, vi_rng2, vi_enm, vi_zip, asBo_v, asIn_v, asBo_p, asIn_p, lock_v, lock_p, argsT_nil, argsT_v, argsT_n, argsT_p, aslots_nil, aslots_v, aslots_n, aslots_p, ios_nil, ios_sh, ios_rd, ios_iov, ios_ion, ios_iop, aok_nil, aok_shv, aok_rdv, aok_rdp, aok_iop, aok_ion, ismut_s, ismut_m, gb_nil, gb_sh, gb_rd, gb_n, gb_p, call_is, om_nil, om_sh, om_rd, om_io, eq_iT, ne_iT, eq_bT, ne_bT, lt_iT, le_iT, gt_iT, ge_iT, isx_int, isx_non, isxn_int, isxn_non, in_T, nin_T, isi_nT, isi_bT, isi_iT, isi_sT, isi_rT, bin_iT, binP_add, binP_sub, binP_and, binP_or, binP_xor, binP_mod, binP_div, binP_mulL, binP_mulR, binP_pow, binP_shr, okL_ok, len_rT, abs_T, int_iT, int_bT, seq_rT, lis_rT, tv_int, tv_bool, tv_unit, tv_str, tv_T, tv_some, tv_none, f_ii, f_tt, f_ti, f_it, f_st, f_ttt, f_tti, f_stt, f_l1, f_l2, f_l3, f_l4, f_i2, f_i3, f_i4, f_i5, b_seqL, b_lisL, b_seqP, b_seqU, b_lenL, b_lenP, b_lenP3, b_lenU, b_lenD, b_ixL, b_ixS, b_ixP0, b_ixP1, b_ixQ0, b_ixQ1, b_ixQ2, b_ixH0, b_ixH1, b_ixK0, b_ixK1, b_ixK2, b_slL, b_slS, b_addL, b_mulL, b_sort, b_sortD, b_list, b_listS, b_tuple, b_sum, b_min, b_max, b_eqn, b_nen, b_eq, b_ne, b_lt, b_isN, b_isnN, b_isO, b_isnO, b_in, b_inP, b_inI, b_inO, b_isi, b_min2i, b_max2i, b_min2, b_max2, b_push, b_pushI, b_pushB, b_putLI, b_putLB, b_putI, b_putB, b_putO, b_putON, b_get2I, b_get2B, b_clear, b_pop0, b_pop1L, b_kL, b_kD, b_putL, b_get, b_has, b_put, b_popD, b_get2, b_get1, b_key, b_flat, b_range, b_enum, b_zip, bind_ob, b_eqA, b_neA, b_putA, b_sortDA, b_addLT, b_addTP, divmod_T, mm_1, mm_2, mm_3, mm_4, mm_5, mo_1, mo_2, mo_3, mo_4, mo_5, mo_6, mo_7, mo_8, f_b1, f_i1, wb_andT, wb_orT, wb_and, wb_or, wb_ite, wb_int, wb_tv, vqs_asg, vqs_ret, vqs_ite, vq_int, vq_bl, vq_isx, vq_var, vq_toI, vq_add, vq_mul, vq_or, wo_none, wo_some, xis, List.getElem?_cons_zero, List.getElem?_cons_succ, List.set_cons_zero, List.set_cons_succ, List.getElem?_nil, Option.join_some, Option.join_none, Option.map_some, Option.map_none, Option.bind_some, Option.some.injEq, List.length_cons, List.length_nil, List.map_cons, List.map_nil, List.any_cons, List.any_nil, List.all_cons, List.all_nil, Bool.false_eq_true, Bool.not_true, Bool.not_false, Bool.and_true, Bool.true_and, Bool.or_false, if_true, if_false, ite_true, ite_false, and_self, and_true, true_and, decide_true, decide_false, reduceCtorEq, ne_eq, not_false_eq_true, List.isEmpty_nil, List.isEmpty_cons, List.contains_cons, List.contains_nil, Nat.zero_add, Bool.or_self, Bool.and_self, Nat.reduceBEq, Bool.or_true, Bool.true_or, Nat.zero_lt_succ, beq_self_eq_true, Nat.reduceAdd, Nat.reduceSub, Nat.reduceLeDiff, Nat.reduceEqDiff, Int.reduceLT, Int.reduceLE, Int.reduceNeg, Int.reducePow, Int.reduceMul, Int.reduceAdd, Int.reduceSub, Int.reduceToNat, Int.reduceEq, Nat.zero_le, Nat.reduceMul, Nat.reducePow, Int.reduceNegSucc, reduceIte, Nat.reduceLT, ms_is_number, ms_is_cell, ms_gathered, ms__law_cell_at, ms__law_whole, ms__law_cell, ms__law_right, ms__law_refused, ms__law_made, ms__law_spoiled, ms__law_many, ms_law, x_0, x_1, x_2, x_3, x_4, x_5, x_6, x_7, x_8, x_9, x_10, x_11, pw_10_18, *]) <;> rfl))
theorem c_l_cell_at (w n : Nat) : ∀ K, n + 1 ≤ K → ∀ (script0 : List Int) (k_0 : Int), RelF cm 0 (fun r => .int r) (fun r => []) (some false) (vrun T ms w K i__law_cell_at [.scr script0, .int k_0]) (Pg.l_cell_at script0 k_0) := by
  intro K hK script0 k_0
  obtain ⟨k, rfl⟩ : ∃ k, K = k + 1 := ⟨K - 1, by omega⟩
  rw [vrun_fn at__law_cell_at ms__law_cell_at rfl rfl]
  unfold Pg.l_cell_at
  dsimp only [F__law_cell_at]
  refine rf_out ?_
  refine rs_start (env := [some (.r (.scr script0)), some (.r (.int k_0))]) rfl ?_
  refine rs_itex (env1 := [some (.r (.scr script0)), some (.r (.int k_0))]) (k := (decide (k_0 < (script0.length : Int)))) (by infer_instance) ?_ ?_
  · refine rs_o fun x1 hx1 => ?_
    exact rs_ret (t := .int x1) (fr := false) (env' := [some (.r (.scr script0)), some (.r (.int k_0))]) (by infer_instance) ⟨rfl, (fun b h => by first | (cases h; rfl) | cases h), rfl⟩
  exact rs_ret (t := .int 0) (fr := false) (env' := [some (.r (.scr script0)), some (.r (.int k_0))]) (by infer_instance) ⟨rfl, (fun b h => by first | (cases h; rfl) | cases h), rfl⟩
theorem c_is_number (w n : Nat) : ∀ K, n + 1 ≤ K → ∀ (thing0 : Int), RelF cm 0 (fun r => .bl r) (fun r => []) (some false) (vrun T ms w K i_is_number [.int thing0]) (Pg.is_number thing0) := by
  intro K hK thing0
  obtain ⟨k, rfl⟩ : ∃ k, K = k + 1 := ⟨K - 1, by omega⟩
  rw [vrun_fn at_is_number ms_is_number rfl rfl]
  unfold Pg.is_number
  dsimp only [F_is_number]
  refine rf_out ?_
  refine rs_start (env := [some (.r (.int thing0))]) rfl ?_
  refine rs_itex (env1 := [some (.r (.int thing0))]) (k := false) (by infer_instance) ?_ ?_
  · exact rs_ret (t := .bl false) (fr := false) (env' := [some (.r (.int thing0))]) (by infer_instance) ⟨rfl, (fun b h => by first | (cases h; rfl) | cases h), rfl⟩
  exact rs_ret (t := .bl true) (fr := false) (env' := [some (.r (.int thing0))]) (by infer_instance) ⟨rfl, (fun b h => by first | (cases h; rfl) | cases h), rfl⟩
theorem c_is_cell (w n : Nat) : ∀ K, n + 2 ≤ K → ∀ (thing0 : (Int × Int)), RelF cm 0 (fun r => .bl r) (fun r => []) (some false) (vrun T ms w K i_is_cell [Tv.t thing0]) (Pg.is_cell thing0) := by
  intro K hK thing0
  obtain ⟨k, rfl⟩ : ∃ k, K = k + 1 := ⟨K - 1, by omega⟩
  rw [vrun_fn at_is_cell ms_is_cell rfl rfl]
  unfold Pg.is_cell
  dsimp only [F_is_cell]
  refine rf_out ?_
  refine rs_start (env := [some (.r (Tv.t thing0))]) rfl ?_
  refine rs_itex (env1 := [some (.r (Tv.t thing0))]) (k := ((!true) || (!decide (2 = 2)))) (by infer_instance) ?_ ?_
  · exact rs_ret (t := .bl false) (fr := false) (env' := [some (.r (Tv.t thing0))]) (by infer_instance) ⟨rfl, (fun b h => by first | (cases h; rfl) | cases h), rfl⟩
  have vb3 : RelV cm (XF [.rd] 0) [some (.r (Tv.t thing0))] false (vE ⟨msAt ms, vrun T ms w k⟩ (.bop .And [.fn i_is_number [.ix (.var 0) (.cst (.int 0))], .fn i_is_number [.ix (.var 0) (.cst (.int 1))]]) [some (.r (Tv.t thing0))]) ((R.and ((is_number thing0.1).bind fun r1 => .ok r1) ((is_number thing0.2).bind fun r2 => .ok r2))) := by
    refine rv_bop ?_
    refine rb_and ?_ ?_
    · have vr1 := c_is_number w n k (by omega) thing0.1
      refine rp_m (fun c fs hr1 => ?_) fun r1 hr1 => ?_
      · have ur1 := rf_exc vr1 hr1
        try simp only [tv_int, tv_bool, tv_unit, tv_str, tv_T, tv_some, tv_none, f_ii] at ur1
        exact ⟨[some (.r (Tv.t thing0))], by infer_instance, ⟨_, rfl, rfl⟩⟩
      have ur1 := rf_ok vr1 hr1
      clear vr1
      try simp only [tv_int, tv_bool, tv_unit, tv_str, tv_T, tv_some, tv_none, f_ii] at ur1
      exact rp_v (fr := false) (rv_ok (a := (r1 : Bool)) (by infer_instance))
    refine rb_one ?_
    have vr2 := c_is_number w n k (by omega) thing0.2
    refine rp_m (fun c fs hr2 => ?_) fun r2 hr2 => ?_
    · have ur2 := rf_exc vr2 hr2
      try simp only [tv_int, tv_bool, tv_unit, tv_str, tv_T, tv_some, tv_none, f_ii] at ur2
      exact ⟨[some (.r (Tv.t thing0))], by infer_instance, ⟨_, rfl, rfl⟩⟩
    have ur2 := rf_ok vr2 hr2
    clear vr2
    try simp only [tv_int, tv_bool, tv_unit, tv_str, tv_T, tv_some, tv_none, f_ii] at ur2
    exact rp_v (fr := false) (rv_ok (a := (r2 : Bool)) (by infer_instance))
  refine rs_m (fun c fs hb3 => ?_) fun b3 hb3 => ?_
  · obtain ⟨e, u, hX⟩ := rv_exc vb3 hb3
    exact rs_exc (env' := e) (by first | (rw [vs_ret, u]; rfl) | (rw [vs_asg, u]; rfl) | infer_instance) hX
  have ub3 := rv_get vb3 hb3
  clear vb3
  try simp only [tv_bool] at ub3
  exact rs_ret (t := .bl b3) (fr := false) (env' := [some (.r (Tv.t thing0))]) (by rw [vs_ret, ub3]; first | rfl | infer_instance) ⟨rfl, (fun b h => by first | (cases h; rfl) | cases h), rfl⟩
theorem c_gathered (w n : Nat) : ∀ K, n + 3 ≤ K → ∀ (cells0 : List (Int × Int)), RelF cm 0 (fun r => Tv.t r) (fun r => []) (some true) (vrun T ms w K i_gathered [Tv.t cells0]) (Pg.gathered cells0) := by
  intro K hK cells0
  obtain ⟨k, rfl⟩ : ∃ k, K = k + 1 := ⟨K - 1, by omega⟩
  rw [vrun_fn at_gathered ms_gathered rfl rfl]
  unfold Pg.gathered
  dsimp only [F_gathered]
  refine rf_out ?_
  refine rs_start (env := [some (.r (Tv.t cells0)), none, none]) rfl ?_
  refine rs_nx (env' := [some (.r (Tv.t cells0)), some (.s (Tv.t ((Dc.nil : Dc (Int × Int) Bool) : Dc (Int × Int) Bool))), none]) (by infer_instance) ?_
  refine rs_seq (E1 := (fun (s : (Dc (Int × Int) Bool)) env => ∃ (o2 : Option Ev.T), env = [some (.r (Tv.t cells0)), some (.s (Tv.t s)), ob o2])) ?_ ?_
  · unfold L_gathered_1
    refine rs_fo (em := Tv.t) (as := cells0) (E1 := (fun (s : (Dc (Int × Int) Bool)) env => ∃ (o2 : Option Ev.T), env = [some (.r (Tv.t cells0)), some (.s (Tv.t s)), ob o2])) (lks := []) (env1 := [some (.r (Tv.t cells0)), some (.s (Tv.t ((Dc.nil : Dc (Int × Int) Bool) : Dc (Int × Int) Bool))), none]) (by infer_instance) ⟨none, rfl⟩ ?_ ?_
    · rintro y1 found2 _ ⟨o2_10, rfl⟩
      try dsimp only
      refine rs_bd (env1 := [some (.r (Tv.t cells0)), some (.s (Tv.t found2)), some (.b (Tv.t y1))]) (by infer_instance) ?_
      have vb4 : RelV cm (XF [.rd] 0) [some (.r (Tv.t cells0)), some (.s (Tv.t found2)), some (.b (Tv.t y1))] false (vE ⟨msAt ms, vrun T ms w k⟩ (.not (.fn i_is_cell [.var 2])) [some (.r (Tv.t cells0)), some (.s (Tv.t found2)), some (.b (Tv.t y1))]) ((R.not ((is_cell y1).bind fun r3 => .ok r3))) := by
        refine rv_not ?_
        have vr3 := c_is_cell w n k (by omega) y1
        refine rp_m (fun c fs hr3 => ?_) fun r3 hr3 => ?_
        · have ur3 := rf_exc vr3 hr3
          try simp only [tv_int, tv_bool, tv_unit, tv_str, tv_T, tv_some, tv_none, f_ii] at ur3
          exact ⟨[some (.r (Tv.t cells0)), some (.s (Tv.t found2)), some (.b (Tv.t y1))], by infer_instance, ⟨_, rfl, rfl⟩⟩
        have ur3 := rf_ok vr3 hr3
        clear vr3
        try simp only [tv_int, tv_bool, tv_unit, tv_str, tv_T, tv_some, tv_none, f_ii] at ur3
        exact rp_v (fr := false) (rv_ok (a := (r3 : Bool)) (by infer_instance))
      refine rs_m (fun c fs hb4 => ?_) fun b4 hb4 => ?_
      · obtain ⟨e, u, hX⟩ := rv_exc vb4 hb4
        exact rs_exci (env' := e) (by rw [u]; rfl) hX
      have ub4 := rv_get vb4 hb4
      clear vb4
      try simp only [tv_bool] at ub4
      refine rs_itex (env1 := [some (.r (Tv.t cells0)), some (.s (Tv.t found2)), some (.b (Tv.t y1))]) (k := b4) (by rw [ub4]; rfl) ?_ ?_
      · exact rs_exc (c := .noFloor) (fs := []) (env' := [some (.r (Tv.t cells0)), some (.s (Tv.t found2)), some (.b (Tv.t y1))]) (by infer_instance) ⟨_, rfl, rfl⟩
      refine rs_o fun found5 hfound5 => ?_
      refine rs_nx (env' := [some (.r (Tv.t cells0)), some (.s (Tv.t found5)), some (.b (Tv.t y1))]) (by infer_instance) ?_
      exact rs_end ⟨some (Tv.t y1), rfl⟩
    · exact fun _ _ h => h
  rintro found6 _ ⟨o2_14, rfl⟩
  try dsimp only
  refine rs_itex (env1 := [some (.r (Tv.t cells0)), some (.s (Tv.t found6)), ob o2_14]) (k := (decide (64 < (found6.len : Int)))) (by infer_instance) ?_ ?_
  · exact rs_exc (c := .noFloor) (fs := []) (env' := [some (.r (Tv.t cells0)), some (.s (Tv.t found6)), ob o2_14]) (by infer_instance) ⟨_, rfl, rfl⟩
  refine rs_o fun x7 hx7 => ?_
  exact rs_ret (t := Tv.t x7) (fr := true) (env' := [some (.r (Tv.t cells0)), some (.s (Tv.t found6)), ob o2_14]) (by infer_instance) ⟨rfl, (fun b h => by first | (cases h; rfl) | cases h), rfl⟩
theorem c_l_whole (w n : Nat) : ∀ K, n + 1 ≤ K → ∀ (found0 : Int), RelF cm 0 (fun r => .bl r) (fun r => []) (some false) (vrun T ms w K i__law_whole [.int found0]) (Pg.l_whole found0) := by
  intro K hK found0
  obtain ⟨k, rfl⟩ : ∃ k, K = k + 1 := ⟨K - 1, by omega⟩
  rw [vrun_fn at__law_whole ms__law_whole rfl rfl]
  unfold Pg.l_whole
  dsimp only [F__law_whole]
  refine rf_out ?_
  refine rs_start (env := [some (.r (.int found0))]) rfl ?_
  exact rs_ret (t := .bl (true && (!false))) (fr := false) (env' := [some (.r (.int found0))]) (by infer_instance) ⟨rfl, (fun b h => by first | (cases h; rfl) | cases h), rfl⟩
theorem c_l_cell (w n : Nat) : ∀ K, n + 2 ≤ K → ∀ (found0 : (Int × Int)), RelF cm 0 (fun r => .bl r) (fun r => []) (some false) (vrun T ms w K i__law_cell [Tv.t found0]) (Pg.l_cell found0) := by
  intro K hK found0
  obtain ⟨k, rfl⟩ : ∃ k, K = k + 1 := ⟨K - 1, by omega⟩
  rw [vrun_fn at__law_cell ms__law_cell rfl rfl]
  unfold Pg.l_cell
  dsimp only [F__law_cell]
  refine rf_out ?_
  refine rs_start (env := [some (.r (Tv.t found0))]) rfl ?_
  refine rs_itex (env1 := [some (.r (Tv.t found0))]) (k := ((!true) || (!decide (2 = 2)))) (by infer_instance) ?_ ?_
  · exact rs_ret (t := .bl false) (fr := false) (env' := [some (.r (Tv.t found0))]) (by infer_instance) ⟨rfl, (fun b h => by first | (cases h; rfl) | cases h), rfl⟩
  have vb3 : RelV cm (XF [.rd] 0) [some (.r (Tv.t found0))] false (vE ⟨msAt ms, vrun T ms w k⟩ (.bop .And [.fn i__law_whole [.ix (.var 0) (.cst (.int 0))], .fn i__law_whole [.ix (.var 0) (.cst (.int 1))]]) [some (.r (Tv.t found0))]) ((R.and ((l_whole found0.1).bind fun r1 => .ok r1) ((l_whole found0.2).bind fun r2 => .ok r2))) := by
    refine rv_bop ?_
    refine rb_and ?_ ?_
    · have vr1 := c_l_whole w n k (by omega) found0.1
      refine rp_m (fun c fs hr1 => ?_) fun r1 hr1 => ?_
      · have ur1 := rf_exc vr1 hr1
        try simp only [tv_int, tv_bool, tv_unit, tv_str, tv_T, tv_some, tv_none, f_ii] at ur1
        exact ⟨[some (.r (Tv.t found0))], by infer_instance, ⟨_, rfl, rfl⟩⟩
      have ur1 := rf_ok vr1 hr1
      clear vr1
      try simp only [tv_int, tv_bool, tv_unit, tv_str, tv_T, tv_some, tv_none, f_ii] at ur1
      exact rp_v (fr := false) (rv_ok (a := (r1 : Bool)) (by infer_instance))
    refine rb_one ?_
    have vr2 := c_l_whole w n k (by omega) found0.2
    refine rp_m (fun c fs hr2 => ?_) fun r2 hr2 => ?_
    · have ur2 := rf_exc vr2 hr2
      try simp only [tv_int, tv_bool, tv_unit, tv_str, tv_T, tv_some, tv_none, f_ii] at ur2
      exact ⟨[some (.r (Tv.t found0))], by infer_instance, ⟨_, rfl, rfl⟩⟩
    have ur2 := rf_ok vr2 hr2
    clear vr2
    try simp only [tv_int, tv_bool, tv_unit, tv_str, tv_T, tv_some, tv_none, f_ii] at ur2
    exact rp_v (fr := false) (rv_ok (a := (r2 : Bool)) (by infer_instance))
  refine rs_m (fun c fs hb3 => ?_) fun b3 hb3 => ?_
  · obtain ⟨e, u, hX⟩ := rv_exc vb3 hb3
    exact rs_exc (env' := e) (by first | (rw [vs_ret, u]; rfl) | (rw [vs_asg, u]; rfl) | infer_instance) hX
  have ub3 := rv_get vb3 hb3
  clear vb3
  try simp only [tv_bool] at ub3
  exact rs_ret (t := .bl b3) (fr := false) (env' := [some (.r (Tv.t found0))]) (by rw [vs_ret, ub3]; first | rfl | infer_instance) ⟨rfl, (fun b h => by first | (cases h; rfl) | cases h), rfl⟩
theorem c_l_right_4 (w n : Nat) : ∀ K, n + 3 ≤ K → ∀ (found0 : List (Int × Int)) (cells0 : List (Int × Int)), RelF cm 0 (fun r => .bl r) (fun r => []) (some false) (vrun T ms w K i__law_right [Tv.t found0, Tv.t cells0]) (Pg.l_right_4 found0 cells0) := by
  intro K hK found0 cells0
  obtain ⟨k, rfl⟩ : ∃ k, K = k + 1 := ⟨K - 1, by omega⟩
  rw [vrun_fn at__law_right ms__law_right rfl rfl]
  unfold Pg.l_right_4
  dsimp only [F__law_right]
  refine rf_out ?_
  refine rs_start (env := [some (.r (Tv.t found0)), some (.r (Tv.t cells0)), none, none, none]) rfl ?_
  refine rs_itex (env1 := [some (.r (Tv.t found0)), some (.r (Tv.t cells0)), none, none, none]) (k := (!true)) (by infer_instance) ?_ ?_
  · exact rs_ret (t := .bl false) (fr := false) (env' := [some (.r (Tv.t found0)), some (.r (Tv.t cells0)), none, none, none]) (by infer_instance) ⟨rfl, (fun b h => by first | (cases h; rfl) | cases h), rfl⟩
  refine rs_nx (env' := [some (.r (Tv.t found0)), some (.r (Tv.t cells0)), some (.s (Tv.t ((Dc.nil : Dc (Int × Int) Bool) : Dc (Int × Int) Bool))), none, none]) (by infer_instance) ?_
  refine rs_seq (E1 := (fun (s : (Dc (Int × Int) Bool)) env => ∃ (o3 : Option Ev.T), env = [some (.r (Tv.t found0)), some (.r (Tv.t cells0)), some (.s (Tv.t s)), ob o3, none])) ?_ ?_
  · unfold L__law_right_1
    refine rs_fo (em := Tv.t) (as := cells0) (E1 := (fun (s : (Dc (Int × Int) Bool)) env => ∃ (o3 : Option Ev.T), env = [some (.r (Tv.t found0)), some (.r (Tv.t cells0)), some (.s (Tv.t s)), ob o3, none])) (lks := []) (env1 := [some (.r (Tv.t found0)), some (.r (Tv.t cells0)), some (.s (Tv.t ((Dc.nil : Dc (Int × Int) Bool) : Dc (Int × Int) Bool))), none, none]) (by infer_instance) ⟨none, rfl⟩ ?_ ?_
    · rintro y1 seen2 _ ⟨o3_6, rfl⟩
      try dsimp only
      refine rs_bd (env1 := [some (.r (Tv.t found0)), some (.r (Tv.t cells0)), some (.s (Tv.t seen2)), some (.b (Tv.t y1)), none]) (by infer_instance) ?_
      refine rs_o fun seen3 hseen3 => ?_
      refine rs_nx (env' := [some (.r (Tv.t found0)), some (.r (Tv.t cells0)), some (.s (Tv.t seen3)), some (.b (Tv.t y1)), none]) (by infer_instance) ?_
      exact rs_end ⟨some (Tv.t y1), rfl⟩
    · exact fun _ _ h => h
  rintro seen4 _ ⟨o3_8, rfl⟩
  try dsimp only
  refine rs_itex (env1 := [some (.r (Tv.t found0)), some (.r (Tv.t cells0)), some (.s (Tv.t seen4)), ob o3_8, none]) (k := (!decide ((found0.length : Int) = (seen4.len : Int)))) (by infer_instance) ?_ ?_
  · exact rs_ret (t := .bl false) (fr := false) (env' := [some (.r (Tv.t found0)), some (.r (Tv.t cells0)), some (.s (Tv.t seen4)), ob o3_8, none]) (by infer_instance) ⟨rfl, (fun b h => by first | (cases h; rfl) | cases h), rfl⟩
  refine rs_o fun x5 hx5 => ?_
  refine rs_seq (E1 := (fun (s : Unit) env => ∃ (o3 : Option Ev.T) (o4 : Option Ev.T), env = [some (.r (Tv.t found0)), some (.r (Tv.t cells0)), some (.s (Tv.t seen4)), ob o3, ob o4])) ?_ ?_
  · unfold L__law_right_2
    refine rs_fo (em := Ev.T.int) (as := x5) (E1 := (fun (s : Unit) env => ∃ (o3 : Option Ev.T) (o4 : Option Ev.T), env = [some (.r (Tv.t found0)), some (.r (Tv.t cells0)), some (.s (Tv.t seen4)), ob o3, ob o4])) (lks := []) (env1 := [some (.r (Tv.t found0)), some (.r (Tv.t cells0)), some (.s (Tv.t seen4)), ob o3_8, none]) (by infer_instance) ⟨o3_8, none, rfl⟩ ?_ ?_
    · rintro y6 _ _ ⟨o3_25, o4_25, rfl⟩
      try dsimp only
      refine rs_bd (env1 := [some (.r (Tv.t found0)), some (.r (Tv.t cells0)), some (.s (Tv.t seen4)), ob o3_25, some (.b (.int y6))]) (by infer_instance) ?_
      have vb12 : RelV cm (XF [.rd, .rd] 0) [some (.r (Tv.t found0)), some (.r (Tv.t cells0)), some (.s (Tv.t seen4)), ob o3_25, some (.b (.int y6))] false (vE ⟨msAt ms, vrun T ms w k⟩ (.bop .Or [.not (.fn i__law_cell [.ix (.var 0) (.var 4)]), .cmp .NotIn (.ix (.var 0) (.var 4)) (.var 2), .bop .And [.cmp .Gt (.var 4) (.cst (.int 0)), .not (.cmp .Lt (.ix (.var 0) (.bin .Sub (.var 4) (.cst (.int 1)))) (.ix (.var 0) (.var 4)))]]) [some (.r (Tv.t found0)), some (.r (Tv.t cells0)), some (.s (Tv.t seen4)), ob o3_25, some (.b (.int y6))]) ((R.or (R.not ((R.of (itemL found0 y6)).bind fun x7 => (l_cell x7).bind fun r8 => .ok r8)) (R.or ((R.of (itemL found0 y6)).bind fun x9 => .ok (!seen4.has x9)) (R.and (.ok (decide (0 < y6))) (R.not ((R.of (itemL found0 (y6 - 1))).bind fun x10 => (R.of (itemL found0 y6)).bind fun x11 => .ok (Lo.lt x10 x11))))))) := by
        refine rv_bop ?_
        refine rb_or ?_ ?_
        · refine rp_v (rv_not ?_)
          refine rp_o fun x7 hx7 => ?_
          have vr8 := c_l_cell w n k (by omega) x7
          refine rp_m (fun c fs hr8 => ?_) fun r8 hr8 => ?_
          · have ur8 := rf_exc vr8 hr8
            try simp only [tv_int, tv_bool, tv_unit, tv_str, tv_T, tv_some, tv_none, f_ii] at ur8
            exact ⟨[some (.r (Tv.t found0)), some (.r (Tv.t cells0)), some (.s (Tv.t seen4)), ob o3_25, some (.b (.int y6))], by infer_instance, ⟨_, rfl, rfl⟩⟩
          have ur8 := rf_ok vr8 hr8
          clear vr8
          try simp only [tv_int, tv_bool, tv_unit, tv_str, tv_T, tv_some, tv_none, f_ii] at ur8
          exact rp_v (fr := false) (rv_ok (a := (r8 : Bool)) (by infer_instance))
        refine rb_or ?_ ?_
        · refine rp_o fun x9 hx9 => ?_
          exact rp_v (fr := false) (rv_ok (a := ((!seen4.has x9) : Bool)) (by infer_instance))
        refine rb_one ?_
        refine rp_v (rv_bop ?_)
        refine rb_and ?_ ?_
        · exact rp_v (fr := false) (rv_ok (a := ((decide (0 < y6)) : Bool)) (by infer_instance))
        refine rb_one ?_
        refine rp_v (rv_not ?_)
        refine rp_o fun x10 hx10 => ?_
        refine rp_o fun x11 hx11 => ?_
        exact rp_v (fr := false) (rv_ok (a := ((Lo.lt x10 x11) : Bool)) (by infer_instance))
      refine rs_m (fun c fs hb12 => ?_) fun b12 hb12 => ?_
      · obtain ⟨e, u, hX⟩ := rv_exc vb12 hb12
        exact rs_exci (env' := e) (by rw [u]; rfl) hX
      have ub12 := rv_get vb12 hb12
      clear vb12
      try simp only [tv_bool] at ub12
      refine rs_itex (env1 := [some (.r (Tv.t found0)), some (.r (Tv.t cells0)), some (.s (Tv.t seen4)), ob o3_25, some (.b (.int y6))]) (k := b12) (by rw [ub12]; rfl) ?_ ?_
      · exact rs_ret (t := .bl false) (fr := false) (env' := [some (.r (Tv.t found0)), some (.r (Tv.t cells0)), some (.s (Tv.t seen4)), ob o3_25, some (.b (.int y6))]) (by infer_instance) ⟨rfl, (fun b h => by first | (cases h; rfl) | cases h), rfl⟩
      exact rs_end ⟨o3_25, some (.int y6), rfl⟩
    · exact fun _ _ h => h
  rintro _ _ ⟨o3_32, o4_32, rfl⟩
  try dsimp only
  exact rs_ret (t := .bl true) (fr := false) (env' := [some (.r (Tv.t found0)), some (.r (Tv.t cells0)), some (.s (Tv.t seen4)), ob o3_32, ob o4_32]) (by infer_instance) ⟨rfl, (fun b h => by first | (cases h; rfl) | cases h), rfl⟩
theorem c_l_made (w n : Nat) : ∀ K, n + 4 ≤ K → ∀ (cells0 : List (Int × Int)), RelF cm 0 (fun r => .bl r) (fun r => []) (some false) (vrun T ms w K i__law_made [Tv.t cells0]) (Pg.l_made cells0) := by
  intro K hK cells0
  obtain ⟨k, rfl⟩ : ∃ k, K = k + 1 := ⟨K - 1, by omega⟩
  rw [vrun_fn at__law_made ms__law_made rfl rfl]
  unfold Pg.l_made
  dsimp only [F__law_made]
  refine rf_out ?_
  refine rs_start (env := [some (.r (Tv.t cells0)), none, none, none]) rfl ?_
  refine rs_o fun x1 hx1 => ?_
  refine rs_nx (env' := [some (.r (Tv.t cells0)), some (.s (Tv.t x1)), none, none]) (by infer_instance) ?_
  have vr2 := c_gathered w n k (by omega) x1
  refine rs_m (fun c fs hr2 => ?_) fun r2 hr2 => ?_
  · have ur2 := rf_exc vr2 hr2
    try simp only [tv_int, tv_bool, tv_unit, tv_str, tv_T, tv_some, tv_none, f_ii] at ur2
    exact rs_exc (env' := [some (.r (Tv.t cells0)), some (.s (Tv.t x1)), none, none]) (by infer_instance) ⟨_, rfl, rfl⟩
  have ur2 := rf_ok vr2 hr2
  clear vr2
  try simp only [tv_int, tv_bool, tv_unit, tv_str, tv_T, tv_some, tv_none, f_ii] at ur2
  refine rs_nx (env' := [some (.r (Tv.t cells0)), some (.s (Tv.t x1)), some (.s (Tv.t r2)), none]) (by infer_instance) ?_
  have vb4 : RelV cm (XF [.rd] 0) [some (.r (Tv.t cells0)), some (.s (Tv.t x1)), some (.s (Tv.t r2)), none] false (vE ⟨msAt ms, vrun T ms w k⟩ (.bop .Or [.not (.fn i__law_right [.var 2, .var 0]), .cmp .NotEq (.var 1) (.var 0)]) [some (.r (Tv.t cells0)), some (.s (Tv.t x1)), some (.s (Tv.t r2)), none]) ((R.or (R.not ((l_right_4 r2 cells0).bind fun r3 => .ok r3)) (.ok (!eqB x1 cells0)))) := by
    refine rv_bop ?_
    refine rb_or ?_ ?_
    · refine rp_v (rv_not ?_)
      have vr3 := c_l_right_4 w n k (by omega) r2 cells0
      refine rp_m (fun c fs hr3 => ?_) fun r3 hr3 => ?_
      · have ur3 := rf_exc vr3 hr3
        try simp only [tv_int, tv_bool, tv_unit, tv_str, tv_T, tv_some, tv_none, f_ii] at ur3
        exact ⟨[some (.r (Tv.t cells0)), some (.s (Tv.t x1)), some (.s (Tv.t r2)), none], by infer_instance, ⟨_, rfl, rfl⟩⟩
      have ur3 := rf_ok vr3 hr3
      clear vr3
      try simp only [tv_int, tv_bool, tv_unit, tv_str, tv_T, tv_some, tv_none, f_ii] at ur3
      exact rp_v (fr := false) (rv_ok (a := (r3 : Bool)) (by infer_instance))
    refine rb_one ?_
    exact rp_v (fr := false) (rv_ok (a := ((!eqB x1 cells0) : Bool)) (by infer_instance))
  refine rs_m (fun c fs hb4 => ?_) fun b4 hb4 => ?_
  · obtain ⟨e, u, hX⟩ := rv_exc vb4 hb4
    exact rs_exci (env' := e) (by rw [u]; rfl) hX
  have ub4 := rv_get vb4 hb4
  clear vb4
  try simp only [tv_bool] at ub4
  refine rs_itex (env1 := [some (.r (Tv.t cells0)), some (.s (Tv.t x1)), some (.s (Tv.t r2)), none]) (k := b4) (by rw [ub4]; rfl) ?_ ?_
  · exact rs_ret (t := .bl false) (fr := false) (env' := [some (.r (Tv.t cells0)), some (.s (Tv.t x1)), some (.s (Tv.t r2)), none]) (by infer_instance) ⟨rfl, (fun b h => by first | (cases h; rfl) | cases h), rfl⟩
  refine rs_o fun x5 hx5 => ?_
  refine rs_nx (env' := [some (.r (Tv.t cells0)), some (.s (Tv.t x1)), some (.s (Tv.t r2)), some (.s (Tv.t x5))]) (by infer_instance) ?_
  refine rs_nx (env' := [some (.r (Tv.t cells0)), some (.s (Tv.t ([] : List (Int × Int)))), some (.s (Tv.t r2)), some (.s (Tv.t x5))]) (by infer_instance) ?_
  refine rs_itex (env1 := [some (.r (Tv.t cells0)), some (.s (Tv.t ([] : List (Int × Int)))), some (.s (Tv.t r2)), some (.s (Tv.t x5))]) (k := (!eqB r2 x5)) (by infer_instance) ?_ ?_
  · exact rs_ret (t := .bl false) (fr := false) (env' := [some (.r (Tv.t cells0)), some (.s (Tv.t ([] : List (Int × Int)))), some (.s (Tv.t r2)), some (.s (Tv.t x5))]) (by infer_instance) ⟨rfl, (fun b h => by first | (cases h; rfl) | cases h), rfl⟩
  refine rs_o fun found6 hfound6 => ?_
  refine rs_nx (env' := [some (.r (Tv.t cells0)), some (.s (Tv.t ([] : List (Int × Int)))), some (.s (Tv.t found6)), some (.s (Tv.t x5))]) (by infer_instance) ?_
  have vr7 := c_gathered w n k (by omega) cells0
  refine rs_m (fun c fs hr7 => ?_) fun r7 hr7 => ?_
  · have ur7 := rf_exc vr7 hr7
    try simp only [tv_int, tv_bool, tv_unit, tv_str, tv_T, tv_some, tv_none, f_ii] at ur7
    exact rs_exc (env' := [some (.r (Tv.t cells0)), some (.s (Tv.t ([] : List (Int × Int)))), some (.s (Tv.t found6)), some (.s (Tv.t x5))]) (by infer_instance) ⟨_, rfl, rfl⟩
  have ur7 := rf_ok vr7 hr7
  clear vr7
  try simp only [tv_int, tv_bool, tv_unit, tv_str, tv_T, tv_some, tv_none, f_ii] at ur7
  have vr8 := c_l_right_4 w n k (by omega) r7 cells0
  refine rs_m (fun c fs hr8 => ?_) fun r8 hr8 => ?_
  · have ur8 := rf_exc vr8 hr8
    try simp only [tv_int, tv_bool, tv_unit, tv_str, tv_T, tv_some, tv_none, f_ii] at ur8
    exact rs_exc (env' := [some (.r (Tv.t cells0)), some (.s (Tv.t ([] : List (Int × Int)))), some (.s (Tv.t found6)), some (.s (Tv.t x5))]) (by infer_instance) ⟨_, rfl, rfl⟩
  have ur8 := rf_ok vr8 hr8
  clear vr8
  try simp only [tv_int, tv_bool, tv_unit, tv_str, tv_T, tv_some, tv_none, f_ii] at ur8
  exact rs_ret (t := .bl r8) (fr := false) (env' := [some (.r (Tv.t cells0)), some (.s (Tv.t ([] : List (Int × Int)))), some (.s (Tv.t found6)), some (.s (Tv.t x5))]) (by infer_instance) ⟨rfl, (fun b h => by first | (cases h; rfl) | cases h), rfl⟩
theorem c_l_spoiled (w n : Nat) : ∀ K, n + 1 ≤ K → ∀ (cells0 : List (Int × Int)) (cell_here0 : Int), RelF cm 0 (fun r => Tv.t r) (fun r => []) (some true) (vrun T ms w K i__law_spoiled [Tv.t cells0, .int cell_here0]) (Pg.l_spoiled cells0 cell_here0) := by
  intro K hK cells0 cell_here0
  obtain ⟨k, rfl⟩ : ∃ k, K = k + 1 := ⟨K - 1, by omega⟩
  rw [vrun_fn at__law_spoiled ms__law_spoiled rfl rfl]
  unfold Pg.l_spoiled
  dsimp only [F__law_spoiled]
  refine rf_out ?_
  refine rs_start (env := [some (.r (Tv.t cells0)), some (.r (.int cell_here0)), none, none]) rfl ?_
  refine rs_nx (env' := [some (.r (Tv.t cells0)), some (.r (.int cell_here0)), some (.s (Tv.t ([(Ev.T.non : Ev.T), (Ev.T.int 3 : Ev.T), (Ev.T.str ("ab" : Str) : Ev.T), (Ev.T.tup [Ev.T.int 1]), (Tv.t ((P3.mk 1 2 3) : (P3 Int Int Int)) : Ev.T), (Tv.t ([0, 1] : List Int) : Ev.T), (Tv.t ((0, true) : (Int × Bool)) : Ev.T), (Tv.t ((("0" : Str), 1) : (Str × Int)) : Ev.T), (Tv.t (((), 2) : (Unit × Int)) : Ev.T), (Tv.t (([0], 1) : (List Int × Int)) : Ev.T), (Tv.t ((0, [1]) : (Int × List Int)) : Ev.T)] : List (Ev.T)))), none]) (by infer_instance) ?_
  refine rs_o fun x1 hx1 => ?_
  refine rs_nx (env' := [some (.r (Tv.t cells0)), some (.r (.int cell_here0)), some (.s (Tv.t ([(Ev.T.non : Ev.T), (Ev.T.int 3 : Ev.T), (Ev.T.str ("ab" : Str) : Ev.T), (Ev.T.tup [Ev.T.int 1]), (Tv.t ((P3.mk 1 2 3) : (P3 Int Int Int)) : Ev.T), (Tv.t ([0, 1] : List Int) : Ev.T), (Tv.t ((0, true) : (Int × Bool)) : Ev.T), (Tv.t ((("0" : Str), 1) : (Str × Int)) : Ev.T), (Tv.t (((), 2) : (Unit × Int)) : Ev.T), (Tv.t (([0], 1) : (List Int × Int)) : Ev.T), (Tv.t ((0, [1]) : (Int × List Int)) : Ev.T)] : List (Ev.T)))), some (.b (.int x1))]) (by infer_instance) ?_
  refine rs_o fun x2 hx2 => ?_
  refine rs_o fun x3 hx3 => ?_
  refine rs_o fun x4 hx4 => ?_
  exact rs_ret (t := Tv.t x4) (fr := true) (env' := [some (.r (Tv.t cells0)), some (.r (.int cell_here0)), some (.s (Tv.t ([(Ev.T.non : Ev.T), (Ev.T.int 3 : Ev.T), (Ev.T.str ("ab" : Str) : Ev.T), (Ev.T.tup [Ev.T.int 1]), (Tv.t ((P3.mk 1 2 3) : (P3 Int Int Int)) : Ev.T), (Tv.t ([0, 1] : List Int) : Ev.T), (Tv.t ((0, true) : (Int × Bool)) : Ev.T), (Tv.t ((("0" : Str), 1) : (Str × Int)) : Ev.T), (Tv.t (((), 2) : (Unit × Int)) : Ev.T), (Tv.t (([0], 1) : (List Int × Int)) : Ev.T), (Tv.t ((0, [1]) : (Int × List Int)) : Ev.T)] : List (Ev.T)))), some (.b (.int x1))]) (by infer_instance) ⟨rfl, (fun b h => by first | (cases h; rfl) | cases h), rfl⟩
theorem c_l_many (w n : Nat) : ∀ K, n + 1 ≤ K → ∀ (cell_here0 : Int), RelF cm 0 (fun r => Tv.t r) (fun r => []) (some true) (vrun T ms w K i__law_many [.int cell_here0]) (Pg.l_many cell_here0) := by
  intro K hK cell_here0
  obtain ⟨k, rfl⟩ : ∃ k, K = k + 1 := ⟨K - 1, by omega⟩
  rw [vrun_fn at__law_many ms__law_many rfl rfl]
  unfold Pg.l_many
  dsimp only [F__law_many]
  refine rf_out ?_
  refine rs_start (env := [some (.r (.int cell_here0)), none, none, none, none]) rfl ?_
  refine rs_nx (env' := [some (.r (.int cell_here0)), some (.b (.int (61 + (cell_here0 % 9)))), none, none, none]) (by infer_instance) ?_
  refine rs_o fun x1 hx1 => ?_
  refine rs_nx (env' := [some (.r (.int cell_here0)), some (.b (.int (61 + (cell_here0 % 9)))), some (.b (.int x1)), none, none]) (by infer_instance) ?_
  refine rs_o fun x2 hx2 => ?_
  refine rs_m (fun c fs hx6 => ?_) fun x6 hx6 => ?_
  · exact (calm_exc hx6).elim
  refine rs_o fun x7 hx7 => ?_
  have uc8q : vE ⟨msAt ms, vrun T ms w k⟩ C__law_many_1 [some (.r (.int cell_here0)), some (.b (.int (61 + (cell_here0 % 9)))), some (.b (.int x1)), none, none] = .ok (.v (Tv.t x7) true) [some (.r (.int cell_here0)), some (.b (.int (61 + (cell_here0 % 9)))), some (.b (.int x1)), none, none] := by
    unfold C__law_many_1
    refine lc_mon (cm := cm) (em := Ev.T.int) (e := fun (y3 : Int) => [some (.r (.int cell_here0)), some (.b (.int (61 + (cell_here0 % 9)))), some (.b (.int x1)), none, some (.b (.int y3))]) (env1 := [some (.r (.int cell_here0)), some (.b (.int (61 + (cell_here0 % 9)))), some (.b (.int x1)), none, none]) x2 (fun y3 => .ok true) (fun y3 => (R.of (binP .Mult y3 x1)).bind fun x4 => (R.of (binP .Mod x4 (61 + (cell_here0 % 9)))).bind fun x5 => .ok ((x5 / 9), (x5 % 9))) (by infer_instance) (by first | rfl | infer_instance) (by rfl) (fun _ => by infer_instance) ?_ ?_ (calm_ok hx6) hx7 (by infer_instance)
    · intro y3
      exact by infer_instance
    · intro y3
      refine rr_t (fr := false) ?_
      refine rv_o fun x4 hx4 => ?_
      refine rv_o fun x5 hx5 => ?_
      exact rv_ok (a := (((x5 / 9), (x5 % 9)) : (Int × Int))) (by infer_instance)
  refine rs_nx (env' := [some (.r (.int cell_here0)), some (.b (.int (61 + (cell_here0 % 9)))), some (.b (.int x1)), some (.s (Tv.t x7)), none]) (by infer_instance) ?_
  refine rs_o fun x8 hx8 => ?_
  exact rs_ret (t := Tv.t x8) (fr := true) (env' := [some (.r (.int cell_here0)), some (.b (.int (61 + (cell_here0 % 9)))), some (.b (.int x1)), some (.s (Tv.t x7)), none]) (by infer_instance) ⟨rfl, (fun b h => by first | (cases h; rfl) | cases h), rfl⟩
theorem c_is_number_2 (w n : Nat) : ∀ K, n + 1 ≤ K → ∀ (thing0 : Ev.T), RelF cm 0 (fun r => .bl r) (fun r => []) (some false) (vrun T ms w K i_is_number [thing0]) (Pg.is_number_2 thing0) := by
  intro K hK thing0
  obtain ⟨k, rfl⟩ : ∃ k, K = k + 1 := ⟨K - 1, by omega⟩
  rw [vrun_fn at_is_number ms_is_number rfl rfl]
  unfold Pg.is_number_2
  dsimp only [F_is_number]
  refine rf_out ?_
  refine rs_start (env := [some (.r (thing0))]) rfl ?_
  refine rs_o fun x1 hx1 => ?_
  refine rs_itex (env1 := [some (.r (thing0))]) (k := x1) (by infer_instance) ?_ ?_
  · exact rs_ret (t := .bl false) (fr := false) (env' := [some (.r (thing0))]) (by infer_instance) ⟨rfl, (fun b h => by first | (cases h; rfl) | cases h), rfl⟩
  refine rs_o fun x2 hx2 => ?_
  exact rs_ret (t := .bl x2) (fr := false) (env' := [some (.r (thing0))]) (by infer_instance) ⟨rfl, (fun b h => by first | (cases h; rfl) | cases h), rfl⟩
theorem c_is_cell_2 (w n : Nat) : ∀ K, n + 2 ≤ K → ∀ (thing0 : Ev.T), RelF cm 0 (fun r => .bl r) (fun r => []) (some false) (vrun T ms w K i_is_cell [thing0]) (Pg.is_cell_2 thing0) := by
  intro K hK thing0
  obtain ⟨k, rfl⟩ : ∃ k, K = k + 1 := ⟨K - 1, by omega⟩
  rw [vrun_fn at_is_cell ms_is_cell rfl rfl]
  unfold Pg.is_cell_2
  dsimp only [F_is_cell]
  refine rf_out ?_
  refine rs_start (env := [some (.r (thing0))]) rfl ?_
  have vb3 : RelV cm (XF [.rd] 0) [some (.r (thing0))] false (vE ⟨msAt ms, vrun T ms w k⟩ (.bop .Or [.not (.isi (.var 0) .tuple), .cmp .NotEq (.bi .len [.var 0]) (.cst (.int 2))]) [some (.r (thing0))]) ((R.or (R.not ((R.of (isiT thing0 .tuple)).bind fun x1 => .ok x1)) ((R.of (lenA thing0)).bind fun x2 => .ok (!decide (x2 = 2))))) := by
    refine rv_bop ?_
    refine rb_or ?_ ?_
    · refine rp_v (rv_not ?_)
      refine rp_o fun x1 hx1 => ?_
      exact rp_v (fr := false) (rv_ok (a := (x1 : Bool)) (by infer_instance))
    refine rb_one ?_
    refine rp_o fun x2 hx2 => ?_
    have ex2 := lenA_eq hx2
    exact rp_v (fr := false) (rv_ok (a := ((!decide (x2 = 2)) : Bool)) (by infer_instance))
  refine rs_m (fun c fs hb3 => ?_) fun b3 hb3 => ?_
  · obtain ⟨e, u, hX⟩ := rv_exc vb3 hb3
    exact rs_exci (env' := e) (by rw [u]; rfl) hX
  have ub3 := rv_get vb3 hb3
  clear vb3
  try simp only [tv_bool] at ub3
  refine rs_itex (env1 := [some (.r (thing0))]) (k := b3) (by rw [ub3]; rfl) ?_ ?_
  · exact rs_ret (t := .bl false) (fr := false) (env' := [some (.r (thing0))]) (by infer_instance) ⟨rfl, (fun b h => by first | (cases h; rfl) | cases h), rfl⟩
  have vb8 : RelV cm (XF [.rd] 0) [some (.r (thing0))] false (vE ⟨msAt ms, vrun T ms w k⟩ (.bop .And [.fn i_is_number [.ix (.var 0) (.cst (.int 0))], .fn i_is_number [.ix (.var 0) (.cst (.int 1))]]) [some (.r (thing0))]) ((R.and ((R.of (ixT thing0 (.int 0))).bind fun x4 => (is_number_2 x4).bind fun r5 => .ok r5) ((R.of (ixT thing0 (.int 1))).bind fun x6 => (is_number_2 x6).bind fun r7 => .ok r7))) := by
    refine rv_bop ?_
    refine rb_and ?_ ?_
    · refine rp_o fun x4 hx4 => ?_
      have vr5 := c_is_number_2 w n k (by omega) x4
      refine rp_m (fun c fs hr5 => ?_) fun r5 hr5 => ?_
      · have ur5 := rf_exc vr5 hr5
        try simp only [tv_int, tv_bool, tv_unit, tv_str, tv_T, tv_some, tv_none, f_ii] at ur5
        exact ⟨[some (.r (thing0))], by infer_instance, ⟨_, rfl, rfl⟩⟩
      have ur5 := rf_ok vr5 hr5
      clear vr5
      try simp only [tv_int, tv_bool, tv_unit, tv_str, tv_T, tv_some, tv_none, f_ii] at ur5
      exact rp_v (fr := false) (rv_ok (a := (r5 : Bool)) (by infer_instance))
    refine rb_one ?_
    refine rp_o fun x6 hx6 => ?_
    have vr7 := c_is_number_2 w n k (by omega) x6
    refine rp_m (fun c fs hr7 => ?_) fun r7 hr7 => ?_
    · have ur7 := rf_exc vr7 hr7
      try simp only [tv_int, tv_bool, tv_unit, tv_str, tv_T, tv_some, tv_none, f_ii] at ur7
      exact ⟨[some (.r (thing0))], by infer_instance, ⟨_, rfl, rfl⟩⟩
    have ur7 := rf_ok vr7 hr7
    clear vr7
    try simp only [tv_int, tv_bool, tv_unit, tv_str, tv_T, tv_some, tv_none, f_ii] at ur7
    exact rp_v (fr := false) (rv_ok (a := (r7 : Bool)) (by infer_instance))
  refine rs_m (fun c fs hb8 => ?_) fun b8 hb8 => ?_
  · obtain ⟨e, u, hX⟩ := rv_exc vb8 hb8
    exact rs_exc (env' := e) (by first | (rw [vs_ret, u]; rfl) | (rw [vs_asg, u]; rfl) | infer_instance) hX
  have ub8 := rv_get vb8 hb8
  clear vb8
  try simp only [tv_bool] at ub8
  exact rs_ret (t := .bl b8) (fr := false) (env' := [some (.r (thing0))]) (by rw [vs_ret, ub8]; first | rfl | infer_instance) ⟨rfl, (fun b h => by first | (cases h; rfl) | cases h), rfl⟩
theorem c_gathered_2 (w n : Nat) : ∀ K, n + 3 ≤ K → ∀ (cells0 : List (Ev.T)), RelF cm 0 (fun r => Tv.t r) (fun r => []) (some true) (vrun T ms w K i_gathered [Tv.t cells0]) (Pg.gathered_2 cells0) := by
  intro K hK cells0
  obtain ⟨k, rfl⟩ : ∃ k, K = k + 1 := ⟨K - 1, by omega⟩
  rw [vrun_fn at_gathered ms_gathered rfl rfl]
  unfold Pg.gathered_2
  dsimp only [F_gathered]
  refine rf_out ?_
  refine rs_start (env := [some (.r (Tv.t cells0)), none, none]) rfl ?_
  refine rs_nx (env' := [some (.r (Tv.t cells0)), some (.s (Tv.t ((Dc.nil : Dc (Ev.T) Bool) : Dc (Ev.T) Bool))), none]) (by infer_instance) ?_
  refine rs_seq (E1 := (fun (s : Dc (Ev.T) Bool) env => ∃ (o2 : Option Ev.T), env = [some (.r (Tv.t cells0)), some (.s (Tv.t s)), ob o2])) ?_ ?_
  · unfold L_gathered_1
    refine rs_fo (em := id) (as := cells0) (E1 := (fun (s : Dc (Ev.T) Bool) env => ∃ (o2 : Option Ev.T), env = [some (.r (Tv.t cells0)), some (.s (Tv.t s)), ob o2])) (lks := []) (env1 := [some (.r (Tv.t cells0)), some (.s (Tv.t ((Dc.nil : Dc (Ev.T) Bool) : Dc (Ev.T) Bool))), none]) (by infer_instance) ⟨none, rfl⟩ ?_ ?_
    · rintro y1 found2 _ ⟨o2_10, rfl⟩
      try dsimp only
      refine rs_bd (env1 := [some (.r (Tv.t cells0)), some (.s (Tv.t found2)), some (.b (y1))]) (by infer_instance) ?_
      have vb4 : RelV cm (XF [.rd] 0) [some (.r (Tv.t cells0)), some (.s (Tv.t found2)), some (.b (y1))] false (vE ⟨msAt ms, vrun T ms w k⟩ (.not (.fn i_is_cell [.var 2])) [some (.r (Tv.t cells0)), some (.s (Tv.t found2)), some (.b (y1))]) ((R.not ((is_cell_2 y1).bind fun r3 => .ok r3))) := by
        refine rv_not ?_
        have vr3 := c_is_cell_2 w n k (by omega) y1
        refine rp_m (fun c fs hr3 => ?_) fun r3 hr3 => ?_
        · have ur3 := rf_exc vr3 hr3
          try simp only [tv_int, tv_bool, tv_unit, tv_str, tv_T, tv_some, tv_none, f_ii] at ur3
          exact ⟨[some (.r (Tv.t cells0)), some (.s (Tv.t found2)), some (.b (y1))], by infer_instance, ⟨_, rfl, rfl⟩⟩
        have ur3 := rf_ok vr3 hr3
        clear vr3
        try simp only [tv_int, tv_bool, tv_unit, tv_str, tv_T, tv_some, tv_none, f_ii] at ur3
        exact rp_v (fr := false) (rv_ok (a := (r3 : Bool)) (by infer_instance))
      refine rs_m (fun c fs hb4 => ?_) fun b4 hb4 => ?_
      · obtain ⟨e, u, hX⟩ := rv_exc vb4 hb4
        exact rs_exci (env' := e) (by rw [u]; rfl) hX
      have ub4 := rv_get vb4 hb4
      clear vb4
      try simp only [tv_bool] at ub4
      refine rs_itex (env1 := [some (.r (Tv.t cells0)), some (.s (Tv.t found2)), some (.b (y1))]) (k := b4) (by rw [ub4]; rfl) ?_ ?_
      · exact rs_exc (c := .noFloor) (fs := []) (env' := [some (.r (Tv.t cells0)), some (.s (Tv.t found2)), some (.b (y1))]) (by infer_instance) ⟨_, rfl, rfl⟩
      refine rs_o fun found5 hfound5 => ?_
      refine rs_nx (env' := [some (.r (Tv.t cells0)), some (.s (Tv.t found5)), some (.b (y1))]) (by infer_instance) ?_
      exact rs_end ⟨some (y1), rfl⟩
    · exact fun _ _ h => h
  rintro found6 _ ⟨o2_14, rfl⟩
  try dsimp only
  refine rs_itex (env1 := [some (.r (Tv.t cells0)), some (.s (Tv.t found6)), ob o2_14]) (k := (decide (64 < (found6.len : Int)))) (by infer_instance) ?_ ?_
  · exact rs_exc (c := .noFloor) (fs := []) (env' := [some (.r (Tv.t cells0)), some (.s (Tv.t found6)), ob o2_14]) (by infer_instance) ⟨_, rfl, rfl⟩
  refine rs_o fun x7 hx7 => ?_
  exact rs_ret (t := Tv.t x7) (fr := true) (env' := [some (.r (Tv.t cells0)), some (.s (Tv.t found6)), ob o2_14]) (by infer_instance) ⟨rfl, (fun b h => by first | (cases h; rfl) | cases h), rfl⟩
theorem c_l_refused (w n : Nat) : ∀ K, n + 4 ≤ K → ∀ (cells0 : List (Ev.T)), RelF cm 0 (fun r => .bl r) (fun r => []) (some false) (vrun T ms w K i__law_refused [Tv.t cells0]) (Pg.l_refused cells0) := by
  intro K hK cells0
  obtain ⟨k, rfl⟩ : ∃ k, K = k + 1 := ⟨K - 1, by omega⟩
  rw [vrun_fn at__law_refused ms__law_refused rfl rfl]
  unfold Pg.l_refused
  dsimp only [F__law_refused]
  refine rf_out ?_
  refine rs_start (env := [some (.r (Tv.t cells0)), none, none, none]) rfl ?_
  refine rs_o fun x1 hx1 => ?_
  refine rs_nx (env' := [some (.r (Tv.t cells0)), some (.s (Tv.t x1)), none, none]) (by infer_instance) ?_
  refine rs_nx (env' := [some (.r (Tv.t cells0)), some (.s (Tv.t x1)), some (.b (.int 0)), none]) (by infer_instance) ?_
  refine rs_seq (E1 := (fun (s : Int) env => ∃ (a1 : VS), env = [some (.r (Tv.t cells0)), some a1, some (.b (.int s)), none] ∧ (a1 = .s (Tv.t x1) ∨ a1 = .b (Tv.t x1)))) (rs_tri (RZ := [.noFloor]) (Xh := (fun env => ∃ (a1 : VS), env = [some (.r (Tv.t cells0)), some a1, some (.b (.int 0)), none] ∧ (a1 = .s (Tv.t x1) ∨ a1 = .b (Tv.t x1)))) rz_ok ?_ ?_) ?_
  · have vr2 := c_gathered_2 w n k (by omega) x1
    refine rs_m (fun c fs hr2 => ?_) fun r2 hr2 => ?_
    · have ur2 := rf_exc vr2 hr2
      try simp only [tv_int, tv_bool, tv_unit, tv_str, tv_T, tv_some, tv_none, f_ii] at ur2
      exact rs_exc (env' := [some (.r (Tv.t cells0)), some (.s (Tv.t x1)), some (.b (.int 0)), none]) (by infer_instance) ⟨_, rfl, .inl rfl⟩
    have ur2 := rf_ok vr2 hr2
    clear vr2
    try simp only [tv_int, tv_bool, tv_unit, tv_str, tv_T, tv_some, tv_none, f_ii] at ur2
    refine rs_nx (env' := [some (.r (Tv.t cells0)), some (.s (Tv.t x1)), some (.b (.int 0)), none]) (by infer_instance) ?_
    exact rs_end ⟨_, rfl, .inl rfl⟩
  · rintro c _ ⟨a1_7, rfl, ha1_7⟩
    refine rh_one (d := .noFloor) (env1 := [some (.r (Tv.t cells0)), some a1_7, some (.b (.int 0)), none]) (x_1 c) (by infer_instance) ?_ ?_
    · refine rq_gone (E1 := (fun (s : Int) env => ∃ (a1 : VS), env = [some (.r (Tv.t cells0)), some a1, some (.b (.int s)), none] ∧ (a1 = .s (Tv.t x1) ∨ a1 = .b (Tv.t x1)))) ?_ ?_
      · refine rq_nx (env' := [some (.r (Tv.t cells0)), some a1_7, some (.b (.int 1)), none]) (by infer_instance) ?_
        refine rq_seq (E1 := (fun (s : Int) env => env = [some (.r (Tv.t cells0)), some a1_7, some (.b (.int s)), none])) (rq_ite (k := (Cl.is c .noTile || (Cl.is c .noLaying || (Cl.is c .noTurn || (Cl.is c .noText || (Cl.is c .tooWide || false)))))) (by infer_instance) ?_ ?_) ?_
        · refine rq_nx (env' := [some (.r (Tv.t cells0)), some a1_7, some (.b (.int 2)), none]) (by infer_instance) ?_
          exact rq_end rfl
        · exact rq_skip rfl
        rintro told3 _ rfl
        try dsimp only
        refine rq_seq (E1 := (fun (s : Int) env => env = [some (.r (Tv.t cells0)), some a1_7, some (.b (.int s)), none])) (rq_ite (k := (Cl.is c .holed || (Cl.is c .noHeights || (Cl.is c .notAlike || (Cl.is c .noNumber || (Cl.is c .noTable || false)))))) (by infer_instance) ?_ ?_) ?_
        · refine rq_nx (env' := [some (.r (Tv.t cells0)), some a1_7, some (.b (.int 2)), none]) (by infer_instance) ?_
          exact rq_end rfl
        · exact rq_skip rfl
        rintro told4 _ rfl
        try dsimp only
        exact rq_end ⟨_, rfl, ha1_7⟩
      · rintro told10q _ ⟨a1_10, rfl, ha1_10⟩
        exact ⟨[some (.r (Tv.t cells0)), some a1_10, some (.b (.int told10q)), none], by infer_instance, ⟨_, rfl, ha1_10⟩⟩
    exact rh_nil ⟨_, rfl, rfl⟩
  rintro told5 _ ⟨a1_11, rfl, ha1_11⟩
  try dsimp only
  rcases ha1_11 with rfl | rfl
  · have vb7 : RelV cm (XF [.rd] 0) [some (.r (Tv.t cells0)), some (.s (Tv.t x1)), some (.b (.int told5)), none] false (vE ⟨msAt ms, vrun T ms w k⟩ (.bop .Or [.cmp .NotEq (.var 2) (.cst (.int 1)), .cmp .NotEq (.var 1) (.var 0)]) [some (.r (Tv.t cells0)), some (.s (Tv.t x1)), some (.b (.int told5)), none]) ((R.or (.ok (!decide (told5 = 1))) ((R.of (eqT (Tv.t x1) (Tv.t cells0))).bind fun x6 => .ok (!x6)))) := by
      refine rv_bop ?_
      refine rb_or ?_ ?_
      · exact rp_v (fr := false) (rv_ok (a := ((!decide (told5 = 1)) : Bool)) (by infer_instance))
      refine rb_one ?_
      refine rp_o fun x6 hx6 => ?_
      exact rp_v (fr := false) (rv_ok (a := ((!x6) : Bool)) (by infer_instance))
    refine rs_m (fun c fs hb7 => ?_) fun b7 hb7 => ?_
    · obtain ⟨e, u, hX⟩ := rv_exc vb7 hb7
      exact rs_exci (env' := e) (by rw [u]; rfl) hX
    have ub7 := rv_get vb7 hb7
    clear vb7
    try simp only [tv_bool] at ub7
    refine rs_itex (env1 := [some (.r (Tv.t cells0)), some (.s (Tv.t x1)), some (.b (.int told5)), none]) (k := b7) (by rw [ub7]; rfl) ?_ ?_
    · exact rs_ret (t := .bl false) (fr := false) (env' := [some (.r (Tv.t cells0)), some (.s (Tv.t x1)), some (.b (.int told5)), none]) (by infer_instance) ⟨rfl, (fun b h => by first | (cases h; rfl) | cases h), rfl⟩
    refine rs_seq (E1 := (fun (s : Int) env => ∃ (j1 : Option VS), env = [some (.r (Tv.t cells0)), j1, some (.b (.int s)), none] ∧ isM j1 = false)) (rs_tri (RZ := [.noFloor]) (Xh := (fun env => ∃ (a1 : VS), env = [some (.r (Tv.t cells0)), some a1, some (.b (.int told5)), none] ∧ (a1 = .s (Tv.t x1) ∨ a1 = .b (Tv.t x1)))) rz_ok ?_ ?_) ?_
    · have vr8 := c_gathered_2 w n k (by omega) x1
      refine rs_m (fun c fs hr8 => ?_) fun r8 hr8 => ?_
      · have ur8 := rf_exc vr8 hr8
        try simp only [tv_int, tv_bool, tv_unit, tv_str, tv_T, tv_some, tv_none, f_ii] at ur8
        exact rs_exc (env' := [some (.r (Tv.t cells0)), some (.s (Tv.t x1)), some (.b (.int told5)), none]) (by infer_instance) ⟨_, rfl, .inl rfl⟩
      have ur8 := rf_ok vr8 hr8
      clear vr8
      try simp only [tv_int, tv_bool, tv_unit, tv_str, tv_T, tv_some, tv_none, f_ii] at ur8
      refine rs_nx (env' := [some (.r (Tv.t cells0)), some (.s (Tv.t x1)), some (.b (.int told5)), none]) (by infer_instance) ?_
      exact rs_end ⟨_, rfl, rfl⟩
    · rintro c _ ⟨a1_17, rfl, ha1_17⟩
      refine rh_one (d := .tile) (env1 := [some (.r (Tv.t cells0)), some a1_17, some (.b (.int told5)), none]) (x_0 c) (by infer_instance) ?_ ?_
      · refine rq_gone (E1 := (fun (s : Int) env => ∃ (j1 : Option VS), env = [some (.r (Tv.t cells0)), j1, some (.b (.int s)), none] ∧ isM j1 = false)) ?_ ?_
        · refine rq_nx (env' := [some (.r (Tv.t cells0)), some a1_17, some (.b (.int (3 * (if (true || false) = true then (1 : Int) else 0)))), none]) (by infer_instance) ?_
          exact rq_end ⟨_, rfl, (isM_any ha1_17)⟩
        · rintro told18q _ ⟨j1_18, rfl, hj1_18⟩
          exact ⟨[some (.r (Tv.t cells0)), j1_18, some (.b (.int told18q)), none], by infer_instance, ⟨_, rfl, hj1_18⟩⟩
      exact rh_nil ⟨_, rfl, rfl⟩
    rintro told9 _ ⟨j1_19, rfl, hj1_19⟩
    try dsimp only
    exact rs_ret (t := .bl (decide (told9 = 3))) (fr := false) (env' := [some (.r (Tv.t cells0)), j1_19, some (.b (.int told9)), none]) (by infer_instance) ⟨rfl, (fun b h => by first | (cases h; rfl) | cases h), rfl⟩
  have vb7 : RelV cm (XF [.rd] 0) [some (.r (Tv.t cells0)), some (.b (Tv.t x1)), some (.b (.int told5)), none] false (vE ⟨msAt ms, vrun T ms w k⟩ (.bop .Or [.cmp .NotEq (.var 2) (.cst (.int 1)), .cmp .NotEq (.var 1) (.var 0)]) [some (.r (Tv.t cells0)), some (.b (Tv.t x1)), some (.b (.int told5)), none]) ((R.or (.ok (!decide (told5 = 1))) ((R.of (eqT (Tv.t x1) (Tv.t cells0))).bind fun x6 => .ok (!x6)))) := by
    refine rv_bop ?_
    refine rb_or ?_ ?_
    · exact rp_v (fr := false) (rv_ok (a := ((!decide (told5 = 1)) : Bool)) (by infer_instance))
    refine rb_one ?_
    refine rp_o fun x6 hx6 => ?_
    exact rp_v (fr := false) (rv_ok (a := ((!x6) : Bool)) (by infer_instance))
  refine rs_m (fun c fs hb7 => ?_) fun b7 hb7 => ?_
  · obtain ⟨e, u, hX⟩ := rv_exc vb7 hb7
    exact rs_exci (env' := e) (by rw [u]; rfl) hX
  have ub7 := rv_get vb7 hb7
  clear vb7
  try simp only [tv_bool] at ub7
  refine rs_itex (env1 := [some (.r (Tv.t cells0)), some (.b (Tv.t x1)), some (.b (.int told5)), none]) (k := b7) (by rw [ub7]; rfl) ?_ ?_
  · exact rs_ret (t := .bl false) (fr := false) (env' := [some (.r (Tv.t cells0)), some (.b (Tv.t x1)), some (.b (.int told5)), none]) (by infer_instance) ⟨rfl, (fun b h => by first | (cases h; rfl) | cases h), rfl⟩
  refine rs_seq (E1 := (fun (s : Int) env => env = [some (.r (Tv.t cells0)), some (.b (Tv.t x1)), some (.b (.int s)), none])) (rs_tri (RZ := [.noFloor]) (Xh := (fun env => env = [some (.r (Tv.t cells0)), some (.b (Tv.t x1)), some (.b (.int told5)), none])) rz_ok ?_ ?_) ?_
  · have vr8 := c_gathered_2 w n k (by omega) x1
    refine rs_m (fun c fs hr8 => ?_) fun r8 hr8 => ?_
    · have ur8 := rf_exc vr8 hr8
      try simp only [tv_int, tv_bool, tv_unit, tv_str, tv_T, tv_some, tv_none, f_ii] at ur8
      exact rs_exc (env' := [some (.r (Tv.t cells0)), some (.b (Tv.t x1)), some (.b (.int told5)), none]) (by infer_instance) rfl
    have ur8 := rf_ok vr8 hr8
    clear vr8
    try simp only [tv_int, tv_bool, tv_unit, tv_str, tv_T, tv_some, tv_none, f_ii] at ur8
    refine rs_nx (env' := [some (.r (Tv.t cells0)), some (.b (Tv.t x1)), some (.b (.int told5)), none]) (by infer_instance) ?_
    exact rs_end rfl
  · rintro c _ rfl
    refine rh_one (d := .tile) (env1 := [some (.r (Tv.t cells0)), some (.b (Tv.t x1)), some (.b (.int told5)), none]) (x_0 c) (by infer_instance) ?_ ?_
    · refine rq_gone (E1 := (fun (s : Int) env => env = [some (.r (Tv.t cells0)), some (.b (Tv.t x1)), some (.b (.int s)), none])) ?_ ?_
      · refine rq_nx (env' := [some (.r (Tv.t cells0)), some (.b (Tv.t x1)), some (.b (.int (3 * (if (true || false) = true then (1 : Int) else 0)))), none]) (by infer_instance) ?_
        exact rq_end rfl
      · rintro told18q _ rfl
        exact ⟨[some (.r (Tv.t cells0)), some (.b (Tv.t x1)), some (.b (.int told18q)), none], by infer_instance, rfl⟩
    exact rh_nil ⟨_, rfl, rfl⟩
  rintro told9 _ rfl
  try dsimp only
  exact rs_ret (t := .bl (decide (told9 = 3))) (fr := false) (env' := [some (.r (Tv.t cells0)), some (.b (Tv.t x1)), some (.b (.int told9)), none]) (by infer_instance) ⟨rfl, (fun b h => by first | (cases h; rfl) | cases h), rfl⟩
theorem c_l_refused_2 (w n : Nat) : ∀ K, n + 4 ≤ K → ∀ (cells0 : List (Int × Int)), RelF cm 0 (fun r => .bl r) (fun r => []) (some false) (vrun T ms w K i__law_refused [Tv.t cells0]) (Pg.l_refused_2 cells0) := by
  intro K hK cells0
  obtain ⟨k, rfl⟩ : ∃ k, K = k + 1 := ⟨K - 1, by omega⟩
  rw [vrun_fn at__law_refused ms__law_refused rfl rfl]
  unfold Pg.l_refused_2
  dsimp only [F__law_refused]
  refine rf_out ?_
  refine rs_start (env := [some (.r (Tv.t cells0)), none, none, none]) rfl ?_
  refine rs_o fun x1 hx1 => ?_
  refine rs_nx (env' := [some (.r (Tv.t cells0)), some (.s (Tv.t x1)), none, none]) (by infer_instance) ?_
  refine rs_nx (env' := [some (.r (Tv.t cells0)), some (.s (Tv.t x1)), some (.b (.int 0)), none]) (by infer_instance) ?_
  refine rs_seq (E1 := (fun (s : Int) env => ∃ (a1 : VS), env = [some (.r (Tv.t cells0)), some a1, some (.b (.int s)), none] ∧ (a1 = .s (Tv.t x1) ∨ a1 = .b (Tv.t x1)))) (rs_tri (RZ := [.noFloor]) (Xh := (fun env => ∃ (a1 : VS), env = [some (.r (Tv.t cells0)), some a1, some (.b (.int 0)), none] ∧ (a1 = .s (Tv.t x1) ∨ a1 = .b (Tv.t x1)))) rz_ok ?_ ?_) ?_
  · have vr2 := c_gathered w n k (by omega) x1
    refine rs_m (fun c fs hr2 => ?_) fun r2 hr2 => ?_
    · have ur2 := rf_exc vr2 hr2
      try simp only [tv_int, tv_bool, tv_unit, tv_str, tv_T, tv_some, tv_none, f_ii] at ur2
      exact rs_exc (env' := [some (.r (Tv.t cells0)), some (.s (Tv.t x1)), some (.b (.int 0)), none]) (by infer_instance) ⟨_, rfl, .inl rfl⟩
    have ur2 := rf_ok vr2 hr2
    clear vr2
    try simp only [tv_int, tv_bool, tv_unit, tv_str, tv_T, tv_some, tv_none, f_ii] at ur2
    refine rs_nx (env' := [some (.r (Tv.t cells0)), some (.s (Tv.t x1)), some (.b (.int 0)), none]) (by infer_instance) ?_
    exact rs_end ⟨_, rfl, .inl rfl⟩
  · rintro c _ ⟨a1_7, rfl, ha1_7⟩
    refine rh_one (d := .noFloor) (env1 := [some (.r (Tv.t cells0)), some a1_7, some (.b (.int 0)), none]) (x_1 c) (by infer_instance) ?_ ?_
    · refine rq_gone (E1 := (fun (s : Int) env => ∃ (a1 : VS), env = [some (.r (Tv.t cells0)), some a1, some (.b (.int s)), none] ∧ (a1 = .s (Tv.t x1) ∨ a1 = .b (Tv.t x1)))) ?_ ?_
      · refine rq_nx (env' := [some (.r (Tv.t cells0)), some a1_7, some (.b (.int 1)), none]) (by infer_instance) ?_
        refine rq_seq (E1 := (fun (s : Int) env => env = [some (.r (Tv.t cells0)), some a1_7, some (.b (.int s)), none])) (rq_ite (k := (Cl.is c .noTile || (Cl.is c .noLaying || (Cl.is c .noTurn || (Cl.is c .noText || (Cl.is c .tooWide || false)))))) (by infer_instance) ?_ ?_) ?_
        · refine rq_nx (env' := [some (.r (Tv.t cells0)), some a1_7, some (.b (.int 2)), none]) (by infer_instance) ?_
          exact rq_end rfl
        · exact rq_skip rfl
        rintro told3 _ rfl
        try dsimp only
        refine rq_seq (E1 := (fun (s : Int) env => env = [some (.r (Tv.t cells0)), some a1_7, some (.b (.int s)), none])) (rq_ite (k := (Cl.is c .holed || (Cl.is c .noHeights || (Cl.is c .notAlike || (Cl.is c .noNumber || (Cl.is c .noTable || false)))))) (by infer_instance) ?_ ?_) ?_
        · refine rq_nx (env' := [some (.r (Tv.t cells0)), some a1_7, some (.b (.int 2)), none]) (by infer_instance) ?_
          exact rq_end rfl
        · exact rq_skip rfl
        rintro told4 _ rfl
        try dsimp only
        exact rq_end ⟨_, rfl, ha1_7⟩
      · rintro told10q _ ⟨a1_10, rfl, ha1_10⟩
        exact ⟨[some (.r (Tv.t cells0)), some a1_10, some (.b (.int told10q)), none], by infer_instance, ⟨_, rfl, ha1_10⟩⟩
    exact rh_nil ⟨_, rfl, rfl⟩
  rintro told5 _ ⟨a1_11, rfl, ha1_11⟩
  try dsimp only
  rcases ha1_11 with rfl | rfl
  · refine rs_itex (env1 := [some (.r (Tv.t cells0)), some (.s (Tv.t x1)), some (.b (.int told5)), none]) (k := ((!decide (told5 = 1)) || (!eqB x1 cells0))) (by infer_instance) ?_ ?_
    · exact rs_ret (t := .bl false) (fr := false) (env' := [some (.r (Tv.t cells0)), some (.s (Tv.t x1)), some (.b (.int told5)), none]) (by infer_instance) ⟨rfl, (fun b h => by first | (cases h; rfl) | cases h), rfl⟩
    refine rs_seq (E1 := (fun (s : Int) env => ∃ (j1 : Option VS), env = [some (.r (Tv.t cells0)), j1, some (.b (.int s)), none] ∧ isM j1 = false)) (rs_tri (RZ := [.noFloor]) (Xh := (fun env => ∃ (a1 : VS), env = [some (.r (Tv.t cells0)), some a1, some (.b (.int told5)), none] ∧ (a1 = .s (Tv.t x1) ∨ a1 = .b (Tv.t x1)))) rz_ok ?_ ?_) ?_
    · have vr6 := c_gathered w n k (by omega) x1
      refine rs_m (fun c fs hr6 => ?_) fun r6 hr6 => ?_
      · have ur6 := rf_exc vr6 hr6
        try simp only [tv_int, tv_bool, tv_unit, tv_str, tv_T, tv_some, tv_none, f_ii] at ur6
        exact rs_exc (env' := [some (.r (Tv.t cells0)), some (.s (Tv.t x1)), some (.b (.int told5)), none]) (by infer_instance) ⟨_, rfl, .inl rfl⟩
      have ur6 := rf_ok vr6 hr6
      clear vr6
      try simp only [tv_int, tv_bool, tv_unit, tv_str, tv_T, tv_some, tv_none, f_ii] at ur6
      refine rs_nx (env' := [some (.r (Tv.t cells0)), some (.s (Tv.t x1)), some (.b (.int told5)), none]) (by infer_instance) ?_
      exact rs_end ⟨_, rfl, rfl⟩
    · rintro c _ ⟨a1_15, rfl, ha1_15⟩
      refine rh_one (d := .tile) (env1 := [some (.r (Tv.t cells0)), some a1_15, some (.b (.int told5)), none]) (x_0 c) (by infer_instance) ?_ ?_
      · refine rq_gone (E1 := (fun (s : Int) env => ∃ (j1 : Option VS), env = [some (.r (Tv.t cells0)), j1, some (.b (.int s)), none] ∧ isM j1 = false)) ?_ ?_
        · refine rq_nx (env' := [some (.r (Tv.t cells0)), some a1_15, some (.b (.int (3 * (if (true || false) = true then (1 : Int) else 0)))), none]) (by infer_instance) ?_
          exact rq_end ⟨_, rfl, (isM_any ha1_15)⟩
        · rintro told16q _ ⟨j1_16, rfl, hj1_16⟩
          exact ⟨[some (.r (Tv.t cells0)), j1_16, some (.b (.int told16q)), none], by infer_instance, ⟨_, rfl, hj1_16⟩⟩
      exact rh_nil ⟨_, rfl, rfl⟩
    rintro told7 _ ⟨j1_17, rfl, hj1_17⟩
    try dsimp only
    exact rs_ret (t := .bl (decide (told7 = 3))) (fr := false) (env' := [some (.r (Tv.t cells0)), j1_17, some (.b (.int told7)), none]) (by infer_instance) ⟨rfl, (fun b h => by first | (cases h; rfl) | cases h), rfl⟩
  refine rs_itex (env1 := [some (.r (Tv.t cells0)), some (.b (Tv.t x1)), some (.b (.int told5)), none]) (k := ((!decide (told5 = 1)) || (!eqB x1 cells0))) (by infer_instance) ?_ ?_
  · exact rs_ret (t := .bl false) (fr := false) (env' := [some (.r (Tv.t cells0)), some (.b (Tv.t x1)), some (.b (.int told5)), none]) (by infer_instance) ⟨rfl, (fun b h => by first | (cases h; rfl) | cases h), rfl⟩
  refine rs_seq (E1 := (fun (s : Int) env => env = [some (.r (Tv.t cells0)), some (.b (Tv.t x1)), some (.b (.int s)), none])) (rs_tri (RZ := [.noFloor]) (Xh := (fun env => env = [some (.r (Tv.t cells0)), some (.b (Tv.t x1)), some (.b (.int told5)), none])) rz_ok ?_ ?_) ?_
  · have vr6 := c_gathered w n k (by omega) x1
    refine rs_m (fun c fs hr6 => ?_) fun r6 hr6 => ?_
    · have ur6 := rf_exc vr6 hr6
      try simp only [tv_int, tv_bool, tv_unit, tv_str, tv_T, tv_some, tv_none, f_ii] at ur6
      exact rs_exc (env' := [some (.r (Tv.t cells0)), some (.b (Tv.t x1)), some (.b (.int told5)), none]) (by infer_instance) rfl
    have ur6 := rf_ok vr6 hr6
    clear vr6
    try simp only [tv_int, tv_bool, tv_unit, tv_str, tv_T, tv_some, tv_none, f_ii] at ur6
    refine rs_nx (env' := [some (.r (Tv.t cells0)), some (.b (Tv.t x1)), some (.b (.int told5)), none]) (by infer_instance) ?_
    exact rs_end rfl
  · rintro c _ rfl
    refine rh_one (d := .tile) (env1 := [some (.r (Tv.t cells0)), some (.b (Tv.t x1)), some (.b (.int told5)), none]) (x_0 c) (by infer_instance) ?_ ?_
    · refine rq_gone (E1 := (fun (s : Int) env => env = [some (.r (Tv.t cells0)), some (.b (Tv.t x1)), some (.b (.int s)), none])) ?_ ?_
      · refine rq_nx (env' := [some (.r (Tv.t cells0)), some (.b (Tv.t x1)), some (.b (.int (3 * (if (true || false) = true then (1 : Int) else 0)))), none]) (by infer_instance) ?_
        exact rq_end rfl
      · rintro told16q _ rfl
        exact ⟨[some (.r (Tv.t cells0)), some (.b (Tv.t x1)), some (.b (.int told16q)), none], by infer_instance, rfl⟩
    exact rh_nil ⟨_, rfl, rfl⟩
  rintro told7 _ rfl
  try dsimp only
  exact rs_ret (t := .bl (decide (told7 = 3))) (fr := false) (env' := [some (.r (Tv.t cells0)), some (.b (Tv.t x1)), some (.b (.int told7)), none]) (by infer_instance) ⟨rfl, (fun b h => by first | (cases h; rfl) | cases h), rfl⟩
theorem c_law_k03 (w n : Nat) : ∀ K, n + 5 ≤ K → ∀ (script0 : List Int), RelF cm 0 (fun r => .bl r) (fun r => []) (some false) (vrun T ms w K i_law [.scr script0]) (Pg.law_k03 script0) := by
  intro K hK script0
  obtain ⟨k, rfl⟩ : ∃ k, K = k + 1 := ⟨K - 1, by omega⟩
  rw [vrun_fn at_law ms_law rfl rfl]
  unfold Pg.law_k03
  dsimp only [F_law]
  refine rf_out ?_
  refine rs_start (env := [some (.b (.scr script0)), none, none, none, none, none]) rfl ?_
  have vr1 := c_l_cell_at w n k (by omega) script0 0
  refine rs_m (fun c fs hr1 => ?_) fun r1 hr1 => ?_
  · have ur1 := rf_exc vr1 hr1
    try simp only [tv_int, tv_bool, tv_unit, tv_str, tv_T, tv_some, tv_none, f_ii] at ur1
    exact rs_exc (env' := [some (.b (.scr script0)), none, none, none, none, none]) (by infer_instance) ⟨_, rfl, rfl⟩
  have ur1 := rf_ok vr1 hr1
  clear vr1
  try simp only [tv_int, tv_bool, tv_unit, tv_str, tv_T, tv_some, tv_none, f_ii] at ur1
  refine rs_nx (env' := [some (.b (.scr script0)), some (.b (.int (((r1 / 64) % 2000000000000000001) - 1000000000000000000))), none, none, none, none]) (by infer_instance) ?_
  have vr2 := c_l_cell_at w n k (by omega) script0 1
  refine rs_m (fun c fs hr2 => ?_) fun r2 hr2 => ?_
  · have ur2 := rf_exc vr2 hr2
    try simp only [tv_int, tv_bool, tv_unit, tv_str, tv_T, tv_some, tv_none, f_ii] at ur2
    exact rs_exc (env' := [some (.b (.scr script0)), some (.b (.int (((r1 / 64) % 2000000000000000001) - 1000000000000000000))), none, none, none, none]) (by infer_instance) ⟨_, rfl, rfl⟩
  have ur2 := rf_ok vr2 hr2
  clear vr2
  try simp only [tv_int, tv_bool, tv_unit, tv_str, tv_T, tv_some, tv_none, f_ii] at ur2
  refine rs_nx (env' := [some (.b (.scr script0)), some (.b (.int (((r1 / 64) % 2000000000000000001) - 1000000000000000000))), some (.b (.int (((r2 / 64) % 2000000000000000001) - 1000000000000000000))), none, none, none]) (by infer_instance) ?_
  refine rs_o fun x4 hx4 => ?_
  have uc5q : vE ⟨msAt ms, vrun T ms w k⟩ C_law_1 [some (.b (.scr script0)), some (.b (.int (((r1 / 64) % 2000000000000000001) - 1000000000000000000))), some (.b (.int (((r2 / 64) % 2000000000000000001) - 1000000000000000000))), none, none, none] = .ok (.v (Tv.t x4) true) [some (.b (.scr script0)), some (.b (.int (((r1 / 64) % 2000000000000000001) - 1000000000000000000))), some (.b (.int (((r2 / 64) % 2000000000000000001) - 1000000000000000000))), none, none, none] := by
    unfold C_law_1
    exact lc_map (em := Ev.T.int) (e := fun (y3 : Int) => [some (.b (.scr script0)), some (.b (.int (((r1 / 64) % 2000000000000000001) - 1000000000000000000))), some (.b (.int (((r2 / 64) % 2000000000000000001) - 1000000000000000000))), none, none, some (.b (.int y3))]) script0 (fun y3 => (((((r1 / 64) % 2000000000000000001) - 1000000000000000000) + (y3 % 8)), ((((r2 / 64) % 2000000000000000001) - 1000000000000000000) + ((y3 / 8) % 8)))) (env1 := [some (.b (.scr script0)), some (.b (.int (((r1 / 64) % 2000000000000000001) - 1000000000000000000))), some (.b (.int (((r2 / 64) % 2000000000000000001) - 1000000000000000000))), none, none, none]) (by infer_instance) (by first | rfl | infer_instance) (by rfl) (fun _ => by infer_instance) (fun _ => by infer_instance) hx4 (by infer_instance)
  refine rs_nx (env' := [some (.b (.scr script0)), some (.b (.int (((r1 / 64) % 2000000000000000001) - 1000000000000000000))), some (.b (.int (((r2 / 64) % 2000000000000000001) - 1000000000000000000))), some (.s (Tv.t x4)), none, none]) (by infer_instance) ?_
  have vb6 : RelV cm (XF [.sh] 0) [some (.b (.scr script0)), some (.b (.int (((r1 / 64) % 2000000000000000001) - 1000000000000000000))), some (.b (.int (((r2 / 64) % 2000000000000000001) - 1000000000000000000))), some (.s (Tv.t x4)), none, none] false (vE ⟨msAt ms, vrun T ms w k⟩ (.not (.fn i__law_made [.var 3])) [some (.b (.scr script0)), some (.b (.int (((r1 / 64) % 2000000000000000001) - 1000000000000000000))), some (.b (.int (((r2 / 64) % 2000000000000000001) - 1000000000000000000))), some (.s (Tv.t x4)), none, none]) ((R.not ((l_made x4).bind fun r5 => .ok r5))) := by
    refine rv_not ?_
    have vr5 := c_l_made w n k (by omega) x4
    refine rp_m (fun c fs hr5 => ?_) fun r5 hr5 => ?_
    · have ur5 := rf_exc vr5 hr5
      try simp only [tv_int, tv_bool, tv_unit, tv_str, tv_T, tv_some, tv_none, f_ii] at ur5
      exact ⟨[some (.b (.scr script0)), some (.b (.int (((r1 / 64) % 2000000000000000001) - 1000000000000000000))), some (.b (.int (((r2 / 64) % 2000000000000000001) - 1000000000000000000))), some (.s (Tv.t x4)), none, none], by infer_instance, ⟨_, rfl, rfl⟩⟩
    have ur5 := rf_ok vr5 hr5
    clear vr5
    try simp only [tv_int, tv_bool, tv_unit, tv_str, tv_T, tv_some, tv_none, f_ii] at ur5
    exact rp_v (fr := false) (rv_ok (a := (r5 : Bool)) (by infer_instance))
  refine rs_m (fun c fs hb6 => ?_) fun b6 hb6 => ?_
  · obtain ⟨e, u, hX⟩ := rv_exc vb6 hb6
    exact rs_exci (env' := e) (by rw [u]; rfl) hX
  have ub6 := rv_get vb6 hb6
  clear vb6
  try simp only [tv_bool] at ub6
  refine rs_itex (env1 := [some (.b (.scr script0)), some (.b (.int (((r1 / 64) % 2000000000000000001) - 1000000000000000000))), some (.b (.int (((r2 / 64) % 2000000000000000001) - 1000000000000000000))), some (.s (Tv.t x4)), none, none]) (k := b6) (by rw [ub6]; rfl) ?_ ?_
  · exact rs_ret (t := .bl false) (fr := false) (env' := [some (.b (.scr script0)), some (.b (.int (((r1 / 64) % 2000000000000000001) - 1000000000000000000))), some (.b (.int (((r2 / 64) % 2000000000000000001) - 1000000000000000000))), some (.s (Tv.t x4)), none, none]) (by infer_instance) ⟨rfl, (fun b h => by first | (cases h; rfl) | cases h), rfl⟩
  have vb11 : RelV cm (XF [.sh] 0) [some (.b (.scr script0)), some (.b (.int (((r1 / 64) % 2000000000000000001) - 1000000000000000000))), some (.b (.int (((r2 / 64) % 2000000000000000001) - 1000000000000000000))), some (.s (Tv.t x4)), none, none] false (vE ⟨msAt ms, vrun T ms w k⟩ (.bop .Or [.not (.fn i__law_refused [.fn i__law_spoiled [.var 3, .fn i__law_cell_at [.var 0, .cst (.int 2)]]]), .not (.fn i__law_made [.var 3])]) [some (.b (.scr script0)), some (.b (.int (((r1 / 64) % 2000000000000000001) - 1000000000000000000))), some (.b (.int (((r2 / 64) % 2000000000000000001) - 1000000000000000000))), some (.s (Tv.t x4)), none, none]) ((R.or (R.not ((l_cell_at script0 2).bind fun r7 => (l_spoiled x4 r7).bind fun r8 => (l_refused r8).bind fun r9 => .ok r9)) (R.not ((l_made x4).bind fun r10 => .ok r10)))) := by
    refine rv_bop ?_
    refine rb_or ?_ ?_
    · refine rp_v (rv_not ?_)
      have vr7 := c_l_cell_at w n k (by omega) script0 2
      refine rp_m (fun c fs hr7 => ?_) fun r7 hr7 => ?_
      · have ur7 := rf_exc vr7 hr7
        try simp only [tv_int, tv_bool, tv_unit, tv_str, tv_T, tv_some, tv_none, f_ii] at ur7
        exact ⟨[some (.b (.scr script0)), some (.b (.int (((r1 / 64) % 2000000000000000001) - 1000000000000000000))), some (.b (.int (((r2 / 64) % 2000000000000000001) - 1000000000000000000))), some (.s (Tv.t x4)), none, none], by infer_instance, ⟨_, rfl, rfl⟩⟩
      have ur7 := rf_ok vr7 hr7
      clear vr7
      try simp only [tv_int, tv_bool, tv_unit, tv_str, tv_T, tv_some, tv_none, f_ii] at ur7
      have vr8 := c_l_spoiled w n k (by omega) x4 r7
      refine rp_m (fun c fs hr8 => ?_) fun r8 hr8 => ?_
      · have ur8 := rf_exc vr8 hr8
        try simp only [tv_int, tv_bool, tv_unit, tv_str, tv_T, tv_some, tv_none, f_ii] at ur8
        exact ⟨[some (.b (.scr script0)), some (.b (.int (((r1 / 64) % 2000000000000000001) - 1000000000000000000))), some (.b (.int (((r2 / 64) % 2000000000000000001) - 1000000000000000000))), some (.s (Tv.t x4)), none, none], by infer_instance, ⟨_, rfl, rfl⟩⟩
      have ur8 := rf_ok vr8 hr8
      clear vr8
      try simp only [tv_int, tv_bool, tv_unit, tv_str, tv_T, tv_some, tv_none, f_ii] at ur8
      have vr9 := c_l_refused w n k (by omega) r8
      refine rp_m (fun c fs hr9 => ?_) fun r9 hr9 => ?_
      · have ur9 := rf_exc vr9 hr9
        try simp only [tv_int, tv_bool, tv_unit, tv_str, tv_T, tv_some, tv_none, f_ii] at ur9
        exact ⟨[some (.b (.scr script0)), some (.b (.int (((r1 / 64) % 2000000000000000001) - 1000000000000000000))), some (.b (.int (((r2 / 64) % 2000000000000000001) - 1000000000000000000))), some (.s (Tv.t x4)), none, none], by infer_instance, ⟨_, rfl, rfl⟩⟩
      have ur9 := rf_ok vr9 hr9
      clear vr9
      try simp only [tv_int, tv_bool, tv_unit, tv_str, tv_T, tv_some, tv_none, f_ii] at ur9
      exact rp_v (fr := false) (rv_ok (a := (r9 : Bool)) (by infer_instance))
    refine rb_one ?_
    refine rp_v (rv_not ?_)
    have vr10 := c_l_made w n k (by omega) x4
    refine rp_m (fun c fs hr10 => ?_) fun r10 hr10 => ?_
    · have ur10 := rf_exc vr10 hr10
      try simp only [tv_int, tv_bool, tv_unit, tv_str, tv_T, tv_some, tv_none, f_ii] at ur10
      exact ⟨[some (.b (.scr script0)), some (.b (.int (((r1 / 64) % 2000000000000000001) - 1000000000000000000))), some (.b (.int (((r2 / 64) % 2000000000000000001) - 1000000000000000000))), some (.s (Tv.t x4)), none, none], by infer_instance, ⟨_, rfl, rfl⟩⟩
    have ur10 := rf_ok vr10 hr10
    clear vr10
    try simp only [tv_int, tv_bool, tv_unit, tv_str, tv_T, tv_some, tv_none, f_ii] at ur10
    exact rp_v (fr := false) (rv_ok (a := (r10 : Bool)) (by infer_instance))
  refine rs_m (fun c fs hb11 => ?_) fun b11 hb11 => ?_
  · obtain ⟨e, u, hX⟩ := rv_exc vb11 hb11
    exact rs_exci (env' := e) (by rw [u]; rfl) hX
  have ub11 := rv_get vb11 hb11
  clear vb11
  try simp only [tv_bool] at ub11
  refine rs_itex (env1 := [some (.b (.scr script0)), some (.b (.int (((r1 / 64) % 2000000000000000001) - 1000000000000000000))), some (.b (.int (((r2 / 64) % 2000000000000000001) - 1000000000000000000))), some (.s (Tv.t x4)), none, none]) (k := b11) (by rw [ub11]; rfl) ?_ ?_
  · exact rs_ret (t := .bl false) (fr := false) (env' := [some (.b (.scr script0)), some (.b (.int (((r1 / 64) % 2000000000000000001) - 1000000000000000000))), some (.b (.int (((r2 / 64) % 2000000000000000001) - 1000000000000000000))), some (.s (Tv.t x4)), none, none]) (by infer_instance) ⟨rfl, (fun b h => by first | (cases h; rfl) | cases h), rfl⟩
  have vr12 := c_l_cell_at w n k (by omega) script0 3
  refine rs_m (fun c fs hr12 => ?_) fun r12 hr12 => ?_
  · have ur12 := rf_exc vr12 hr12
    try simp only [tv_int, tv_bool, tv_unit, tv_str, tv_T, tv_some, tv_none, f_ii] at ur12
    exact rs_exc (env' := [some (.b (.scr script0)), some (.b (.int (((r1 / 64) % 2000000000000000001) - 1000000000000000000))), some (.b (.int (((r2 / 64) % 2000000000000000001) - 1000000000000000000))), some (.s (Tv.t x4)), none, none]) (by infer_instance) ⟨_, rfl, rfl⟩
  have ur12 := rf_ok vr12 hr12
  clear vr12
  try simp only [tv_int, tv_bool, tv_unit, tv_str, tv_T, tv_some, tv_none, f_ii] at ur12
  have vr13 := c_l_many w n k (by omega) r12
  refine rs_m (fun c fs hr13 => ?_) fun r13 hr13 => ?_
  · have ur13 := rf_exc vr13 hr13
    try simp only [tv_int, tv_bool, tv_unit, tv_str, tv_T, tv_some, tv_none, f_ii] at ur13
    exact rs_exc (env' := [some (.b (.scr script0)), some (.b (.int (((r1 / 64) % 2000000000000000001) - 1000000000000000000))), some (.b (.int (((r2 / 64) % 2000000000000000001) - 1000000000000000000))), some (.s (Tv.t x4)), none, none]) (by infer_instance) ⟨_, rfl, rfl⟩
  have ur13 := rf_ok vr13 hr13
  clear vr13
  try simp only [tv_int, tv_bool, tv_unit, tv_str, tv_T, tv_some, tv_none, f_ii] at ur13
  refine rs_nx (env' := [some (.b (.scr script0)), some (.b (.int (((r1 / 64) % 2000000000000000001) - 1000000000000000000))), some (.b (.int (((r2 / 64) % 2000000000000000001) - 1000000000000000000))), some (.s (Tv.t x4)), some (.s (Tv.t r13)), none]) (by infer_instance) ?_
  refine rs_itex (env1 := [some (.b (.scr script0)), some (.b (.int (((r1 / 64) % 2000000000000000001) - 1000000000000000000))), some (.b (.int (((r2 / 64) % 2000000000000000001) - 1000000000000000000))), some (.s (Tv.t x4)), some (.s (Tv.t r13)), none]) (k := (decide (64 < (61 + (r12 % 9))))) (by infer_instance) ?_ ?_
  · have vr14 := c_l_refused_2 w n k (by omega) r13
    refine rs_m (fun c fs hr14 => ?_) fun r14 hr14 => ?_
    · have ur14 := rf_exc vr14 hr14
      try simp only [tv_int, tv_bool, tv_unit, tv_str, tv_T, tv_some, tv_none, f_ii] at ur14
      exact rs_exc (env' := [some (.b (.scr script0)), some (.b (.int (((r1 / 64) % 2000000000000000001) - 1000000000000000000))), some (.b (.int (((r2 / 64) % 2000000000000000001) - 1000000000000000000))), some (.s (Tv.t x4)), some (.s (Tv.t r13)), none]) (by infer_instance) ⟨_, rfl, rfl⟩
    have ur14 := rf_ok vr14 hr14
    clear vr14
    try simp only [tv_int, tv_bool, tv_unit, tv_str, tv_T, tv_some, tv_none, f_ii] at ur14
    exact rs_ret (t := .bl r14) (fr := false) (env' := [some (.b (.scr script0)), some (.b (.int (((r1 / 64) % 2000000000000000001) - 1000000000000000000))), some (.b (.int (((r2 / 64) % 2000000000000000001) - 1000000000000000000))), some (.s (Tv.t x4)), some (.s (Tv.t r13)), none]) (by infer_instance) ⟨rfl, (fun b h => by first | (cases h; rfl) | cases h), rfl⟩
  have vr15 := c_l_made w n k (by omega) r13
  refine rs_m (fun c fs hr15 => ?_) fun r15 hr15 => ?_
  · have ur15 := rf_exc vr15 hr15
    try simp only [tv_int, tv_bool, tv_unit, tv_str, tv_T, tv_some, tv_none, f_ii] at ur15
    exact rs_exc (env' := [some (.b (.scr script0)), some (.b (.int (((r1 / 64) % 2000000000000000001) - 1000000000000000000))), some (.b (.int (((r2 / 64) % 2000000000000000001) - 1000000000000000000))), some (.s (Tv.t x4)), some (.s (Tv.t r13)), none]) (by infer_instance) ⟨_, rfl, rfl⟩
  have ur15 := rf_ok vr15 hr15
  clear vr15
  try simp only [tv_int, tv_bool, tv_unit, tv_str, tv_T, tv_some, tv_none, f_ii] at ur15
  exact rs_ret (t := .bl r15) (fr := false) (env' := [some (.b (.scr script0)), some (.b (.int (((r1 / 64) % 2000000000000000001) - 1000000000000000000))), some (.b (.int (((r2 / 64) % 2000000000000000001) - 1000000000000000000))), some (.s (Tv.t x4)), some (.s (Tv.t r13)), none]) (by infer_instance) ⟨rfl, (fun b h => by first | (cases h; rfl) | cases h), rfl⟩
end K03

namespace Pg
open PySem Ev
theorem is_cell_pt (p : Pt) : is_cell p = .ok true := rfl
theorem l_cell_pt (p : Pt) : l_cell p = .ok true := rfl
theorem cell_at_ok3 (s : List Int) (i : Nat) : ∃ v, l_cell_at s i = .ok v := by
  unfold l_cell_at
  by_cases h : i < s.length
  · refine ⟨s[i], ?_⟩
    have h' : (i : Int) < s.length := by omega
    simp [h', itemL_nat, h]
  · have h' : ¬ (i : Int) < s.length := by omega
    exact ⟨0, by simp [h']⟩
/-- cells put down one by one -/
theorem put_all {ρ : Type} {κ : Type} [DecidableEq κ] (xs : List κ) (hl : xs.length ≤ 1000000) {body : κ → Dc κ Bool → Fw (Dc κ Bool) ρ} (hb : ∀ a ∈ xs, ∀ d : Dc κ Bool, d.len < 16777216 → body a d = .nx (d.set a true)) : ∃ d : Dc κ Bool, forF body xs Dc.nil = .nx d ∧ d.keys.Nodup ∧ (∀ p, p ∈ d.keys ↔ p ∈ xs) ∧ d.len ≤ xs.length := by
  refine forF_pre xs (fun pre (d : Dc κ Bool) => d.keys.Nodup ∧ (∀ p, p ∈ d.keys ↔ p ∈ pre) ∧ d.len ≤ pre.length) ?_ ⟨List.nodup_nil, fun p => Iff.rfl, Nat.le_refl _⟩
  intro pre a post e d hd
  obtain ⟨h1, h2, h3⟩ := hd
  have hp : pre.length < xs.length := by rw [e]; simp
  refine ⟨d.set a true, hb a (by rw [e]; simp) d (by omega), Dc.nodup_set h1, ?_, ?_⟩
  · intro p
    rw [← Dc.has_iff, Dc.has_set, Bool.or_eq_true, decide_eq_true_iff, Dc.has_iff, h2, List.mem_append, List.mem_singleton]
    exact Or.comm
  · have := Dc.len_set (d := d) (k := a) (v := true)
    simp; omega
theorem gathered_ok (cells : List Pt) (hl : cells.length ≤ 100000) : ∃ ks : List Pt, ks.Nodup ∧ (∀ p, p ∈ ks ↔ p ∈ cells) ∧ gathered cells = if ks.length ≤ 64 then .ok (sortL ks) else .exc .noFloor [] := by
  unfold gathered
  obtain ⟨d, e, h1, h2, h3⟩ := put_all (ρ := List Pt) cells (by omega) (body := fun (y1 : Pt) found2 =>
    ((R.not ((is_cell y1).bind fun r3 => .ok r3))).fw fun b4 =>
    if b4 = true then (.exc .noFloor [])
    else ((R.of (found2.put y1 true)).fw fun found5 =>
    .nx found5)) (fun a _ d hd => by simp [is_cell_pt, Dc.put_ok hd])
  refine ⟨d.keys, h1, h2, ?_⟩
  rw [show (forF (σ := Dc Pt Bool) (ρ := List Pt) _ _ _) = _ from e]
  simp only [Fw.bind_nx]
  rw [Dc.len_keys]
  by_cases hc : d.len ≤ 64
  · rw [if_pos hc, decide_eq_false (by omega)]
    simp only [Bool.false_eq_true, if_false]
    rw [mkL_ok (by rw [len_sortL, Dc.len_keys]; omega)]; rfl
  · rw [if_neg hc, decide_eq_true (by omega)]; rfl
theorem l_right_4_of {ks cells : List Pt} (hl : cells.length ≤ 100000) (h1 : ks.Nodup) (h2 : ∀ p, p ∈ ks ↔ p ∈ cells) : l_right_4 (sortL ks) cells = .ok true := by
  unfold l_right_4
  obtain ⟨d, e, g1, g2, g3⟩ := put_all (ρ := Bool) cells (by omega) (body := fun (y1 : Pt) seen2 => (R.of (seen2.put y1 true)).fw fun seen3 => .nx seen3) (fun a _ d hd => by simp [Dc.put_ok hd])
  rw [show (forF (σ := Dc Pt Bool) (ρ := Bool) _ _ _) = _ from e]
  have a1 := nodup_len h1 (ys := d.keys) (fun p hp => (g2 p).mpr ((h2 p).mp hp))
  have a2 := nodup_len g1 (ys := ks) (fun p hp => (h2 p).mpr ((g2 p).mp hp))
  rw [Dc.len_keys] at a1 a2
  have hlen : (sortL ks).length = d.len := by rw [len_sortL]; omega
  have hs := sortL_lt h1
  simp only [Bool.not_true, Bool.false_eq_true, if_false, Fw.bind_nx, hlen, decide_true]
  rw [rangeL_ok (show d.len < 4611686018427387904 by omega)]
  simp only [R.of_some, R.fw_ok]
  rw [forF_all]
  · rfl
  · intro a ha
    obtain ⟨k, hk, rfl⟩ := List.mem_map.mp ha
    rw [List.mem_range, ← hlen] at hk
    have hm : d.has (sortL ks)[k] = true := by
      rw [Dc.has_iff, g2, ← h2, ← mem_sortL]
      exact List.getElem_mem hk
    rw [itemL_nat, List.getElem?_eq_getElem hk]
    simp only [R.of_some, R.bind_ok, l_cell_pt, R.not_ok, Bool.not_true, R.or_false, hm]
    by_cases h0 : (0 : Int) < ((k : Nat) : Int)
    · have e1 : ((k : Nat) : Int) - 1 = ((k - 1 : Nat) : Int) := by omega
      have hlt : ltP (sortL ks)[k - 1] (sortL ks)[k] := List.pairwise_iff_getElem.mp hs (k - 1) k (by omega) hk (by omega)
      rw [e1, itemL_nat, List.getElem?_eq_getElem (by omega), decide_eq_true h0]
      have : Lo.lt (sortL ks)[k - 1] (sortL ks)[k] = true := decide_eq_true hlt
      simp [this]
    · rw [decide_eq_false h0]; rfl
theorem l_made_of {cells : List Pt} (hl : cells.length ≤ 100000) (h64 : ∀ ks : List Pt, ks.Nodup → (∀ p, p ∈ ks ↔ p ∈ cells) → ks.length ≤ 64) : l_made cells = .ok true := by
  unfold l_made
  obtain ⟨ks, h1, h2, e⟩ := gathered_ok cells hl
  rw [if_pos (h64 ks h1 h2)] at e
  have hk := h64 ks h1 h2
  have hr := l_right_4_of hl h1 h2
  simp only [mkL_ok (show cells.length ≤ 16777216 by omega), R.of_some, R.fw_ok, e, hr, R.bind_ok, R.not_ok, Bool.not_true, R.or_false, eqB_self, Bool.false_eq_true, if_false, mkL_ok (show (sortL ks).length ≤ 16777216 by rw [len_sortL]; omega), pushL_ok (show (sortL ks).length < 16777216 by rw [len_sortL]; omega), Fw.out_rt]
theorem l_refused_2_of {cells : List Pt} (hl : cells.length ≤ 100000) (h64 : ∀ ks : List Pt, ks.Nodup → (∀ p, p ∈ ks ↔ p ∈ cells) → 64 < ks.length) : l_refused_2 cells = .ok true := by
  unfold l_refused_2
  obtain ⟨ks, h1, h2, e⟩ := gathered_ok cells hl
  rw [if_neg (by have := h64 ks h1 h2; omega)] at e
  simp only [mkL_ok (show cells.length ≤ 16777216 by omega), R.of_some, R.fw_ok, e, R.fw_exc, tryF_exc, eqB_self]
  rfl
/-! things that are no cells -/
def somes : List Ev.T := [.non, .int 3, .str "ab", .tup [.int 1], .tup [.int 1, .int 2, .int 3], .lst [.int 0, .int 1], .tup [.int 0, .bl true], .tup [.str "0", .int 1], .tup [.non, .int 2], .tup [.lst [.int 0], .int 1], .tup [.int 0, .lst [.int 1]]]
theorem not_cell (x : Ev.T) (h : x ∈ somes) : is_cell_2 x = .ok false := by
  simp only [somes, List.mem_cons, List.not_mem_nil, or_false] at h
  rcases h with rfl | rfl | rfl | rfl | rfl | rfl | rfl | rfl | rfl | rfl | rfl <;> rfl
theorem cell_2_pt (p : Pt) : is_cell_2 (Tv.t p) = .ok true := rfl
theorem somes_p (x : Ev.T) (h : x ∈ somes) : (tP 11 x).isSome = true := by
  simp only [somes, List.mem_cons, List.not_mem_nil, or_false] at h
  rcases h with rfl | rfl | rfl | rfl | rfl | rfl | rfl | rfl | rfl | rfl | rfl <;> decide +kernel
theorem tPs_some : ∀ (ts : List Ev.T), (∀ t ∈ ts, (tP 11 t).isSome = true) → (tPs 11 ts).isSome = true
  | [], _ => rfl
  | t :: ts, h => by
    obtain ⟨d, hd⟩ := Option.isSome_iff_exists.mp (h t List.mem_cons_self)
    obtain ⟨ds, hds⟩ := Option.isSome_iff_exists.mp (tPs_some ts (fun u hu => h u (List.mem_cons_of_mem _ hu)))
    rw [tPs, hd, hds]; rfl
theorem gathered_2_bad (ps qs : List Pt) (x : Ev.T) (hx : x ∈ somes) (hl : ps.length ≤ 1000) : gathered_2 (ps.map Tv.t ++ [x] ++ qs.map Tv.t) = .exc .noFloor [] := by
  unfold gathered_2
  rw [List.append_assoc, forF_app]
  obtain ⟨d, e, -⟩ := put_all (ρ := List Ev.T) (ps.map (Tv.t (α := Pt))) (by simp; omega) (body := fun (y1 : Ev.T) found2 =>
    ((R.not ((is_cell_2 y1).bind fun r3 => .ok r3))).fw fun b4 =>
    if b4 = true then (.exc .noFloor [])
    else ((R.of (found2.putA y1 true)).fw fun found5 =>
    .nx found5)) (fun a ha d hd => by
      obtain ⟨p, -, rfl⟩ := List.mem_map.mp ha
      have hk : d.putA (Tv.t p) true = some (d.set (Tv.t p) true) := by
        unfold Dc.putA
        rw [if_pos (show isKeyT (Tv.t p) = true from rfl), Dc.put_ok hd]
      rw [cell_2_pt, hk]; rfl)
  rw [show (forF (σ := Dc Ev.T Bool) (ρ := List Ev.T) _ (ps.map Tv.t) _) = _ from e]
  simp only [Fw.bind_nx, List.singleton_append, forF_cons, not_cell x hx, R.bind_ok, R.not_ok, Bool.not_false, R.fw_ok, if_true, Fw.bind_exc, Fw.out_exc]
theorem l_refused_of (ps qs : List Pt) (x : Ev.T) (hx : x ∈ somes) (hl : ps.length ≤ 1000) (hl2 : qs.length ≤ 1000) : l_refused (ps.map Tv.t ++ [x] ++ qs.map Tv.t) = .ok true := by
  unfold l_refused
  have e := gathered_2_bad ps qs x hx hl
  have hm : mkL (ps.map Tv.t ++ [x] ++ qs.map Tv.t) = some (ps.map Tv.t ++ [x] ++ qs.map Tv.t) := mkL_ok (by simp; omega)
  have he : eqT (Tv.t (ps.map Tv.t ++ [x] ++ qs.map Tv.t)) (Tv.t (ps.map Tv.t ++ [x] ++ qs.map Tv.t)) = some true := by
    apply eqT_refl
    rw [tv_list, map_tT]
    show ((tPs 11 (ps.map Tv.t ++ [x] ++ qs.map Tv.t)).map PyData.list).isSome = true
    rw [Option.isSome_map]
    apply tPs_some
    intro t ht
    have hpt : ∀ p : Pt, (tP 11 (Tv.t p)).isSome = true := fun p => by rw [Cq.tp p 11 (by decide)]; rfl
    rcases List.mem_append.mp ht with ht | ht
    · rcases List.mem_append.mp ht with ht | ht
      · obtain ⟨p, -, rfl⟩ := List.mem_map.mp ht; exact hpt p
      · simp at ht; subst ht; exact somes_p _ hx
    · obtain ⟨p, -, rfl⟩ := List.mem_map.mp ht; exact hpt p
  simp only [hm, R.of_some, R.fw_ok, e, R.fw_exc, tryF_exc, he]
  rfl
theorem l_spoiled_ok (cells : List Pt) (hl : cells.length ≤ 1000) (v : Int) : ∃ (ps qs : List Pt) (x : Ev.T), x ∈ somes ∧ ps.length ≤ 1000 ∧ qs.length ≤ 1000 ∧ l_spoiled cells v = .ok (ps.map Tv.t ++ [x] ++ qs.map (Tv.t (α := Pt))) := by
  unfold l_spoiled
  have h0 : 0 ≤ v / 11 % ((cells.length : Int) + 1) := Int.emod_nonneg _ (by omega)
  rw [modI_ok (by omega)]
  generalize v / 11 % ((cells.length : Int) + 1) = at_ at *
  have hi : (v % 11).toNat < somes.length := by simp only [somes, List.length_cons, List.length_nil]; omega
  have hit : itemL somes (v % 11) = some somes[(v % 11).toNat] := itemL_at (by omega) hi
  refine ⟨cells.take at_.toNat, cells.drop at_.toNat, somes[(v % 11).toNat], List.getElem_mem hi, ?_, ?_, ?_⟩
  · rw [List.length_take]; omega
  · rw [List.length_drop]; omega
  · simp only [R.of_some, R.fw_ok]
    change ((R.of (itemL somes (v % 11))).fw _).out = _
    rw [hit]
    simp only [R.of_some, R.fw_ok, cutP_take h0, cutP_drop h0]
    rw [mkL_ok (by simp; omega)]
    simp only [R.of_some, R.fw_ok]
    rw [mkL_ok (by simp; omega)]
    rfl
/-! many cells -/
theorem steps_nodup : ∀ m ∈ [61, 62, 63, 64, 65, 66, 67, 68, 69], ∀ st ∈ [1, 29, 37, 43, 59], ((List.range m).map fun k => k * st % m).Nodup := by decide +kernel
theorem l_many_ok (v : Int) : ∃ m : Nat, 61 + v % 9 = (m : Int) ∧ ∃ cells, l_many v = .ok cells ∧ cells.length ≤ 1000 ∧ ∀ ks : List Pt, ks.Nodup → (∀ p, p ∈ ks ↔ p ∈ cells) → ks.length = m := by
  unfold l_many
  obtain ⟨m, hm, hmem⟩ : ∃ m : Nat, 61 + v % 9 = (m : Int) ∧ m ∈ [61, 62, 63, 64, 65, 66, 67, 68, 69] := by
    refine ⟨(61 + v % 9).toNat, by omega, ?_⟩
    simp only [List.mem_cons, List.not_mem_nil, or_false]
    omega
  have hm0 : 61 ≤ m ∧ m ≤ 69 := by
    simp only [List.mem_cons, List.not_mem_nil, or_false] at hmem
    omega
  refine ⟨m, hm, ?_⟩
  have hi : (v / 9 % 5).toNat < [(1 : Int), 29, 37, 43, 59].length := by simp only [List.length_cons, List.length_nil]; omega
  obtain ⟨st, hst, hsm⟩ : ∃ st : Nat, [(1 : Int), 29, 37, 43, 59][(v / 9 % 5).toNat] = (st : Int) ∧ st ∈ [1, 29, 37, 43, 59] := by
    have := List.getElem_mem hi
    refine ⟨([(1 : Int), 29, 37, 43, 59][(v / 9 % 5).toNat]).toNat, ?_, ?_⟩
    · simp only [List.mem_cons, List.not_mem_nil, or_false] at this
      omega
    · simp only [List.mem_cons, List.not_mem_nil, or_false] at this ⊢
      omega
  rw [itemL_at (by omega) hi, hst, hm]
  have hst60 : st ≤ 59 := by
    simp only [List.mem_cons, List.not_mem_nil, or_false] at hsm
    omega
  simp only [R.of_some, R.fw_ok, rangeL_ok (show m < 4611686018427387904 by omega)]
  have ec : compR (fun y3 => .ok true) (fun y3 => (R.of (binP .Mult y3 (st : Int))).bind fun x4 => (R.of (binP .Mod x4 (m : Int))).bind fun x5 => .ok ((x5 / 9), (x5 % 9))) ((List.range m).map fun (k : Nat) => (k : Int)) = .ok (((List.range m).map fun k => k * st % m).map fun q => (((q / 9 : Nat) : Int), ((q % 9 : Nat) : Int))) := by
    rw [compR_map (fun (y : Int) => ((((y.toNat * st % m) / 9 : Nat) : Int), (((y.toNat * st % m) % 9 : Nat) : Int)))]
    · rw [List.map_map, List.map_map]
      congr 1
    · intro a ha
      obtain ⟨k, hk, rfl⟩ := List.mem_map.mp ha
      rw [List.mem_range] at hk
      rw [mulI_ok (by omega) (by omega)]
      simp only [R.of_some, R.bind_ok]
      rw [modI_ok (by omega)]
      simp only [R.of_some, R.bind_ok, Int.toNat_natCast]
      have : ((k : Int) * (st : Int)) % (m : Int) = ((k * st % m : Nat) : Int) := by simp
      rw [this]
      generalize k * st % m = q
      congr 1
  rw [ec]
  simp only [R.calm_ok, R.fw_ok]
  have hn := steps_nodup m hmem st hsm
  generalize hb : ((List.range m).map fun k => k * st % m) = base at *
  have hbl : base.length = m := by rw [← hb]; simp
  have hcn : (base.map fun q => ((((q / 9 : Nat) : Int), ((q % 9 : Nat) : Int)) : Pt)).Nodup := by
    have : ∀ (l : List Nat), l.Nodup → (l.map fun q => ((((q / 9 : Nat) : Int), ((q % 9 : Nat) : Int)) : Pt)).Nodup := by
      intro l
      induction l with
      | nil => intro _; simp
      | cons a l ih =>
        intro h
        have h' := List.nodup_cons.mp h
        rw [List.map_cons, List.nodup_cons]
        refine ⟨?_, ih h'.2⟩
        intro hm
        obtain ⟨b, hb', e⟩ := List.mem_map.mp hm
        have : a = b := by
          simp only [Prod.mk.injEq] at e
          have e1 := Nat.div_add_mod a 9
          have e2 := Nat.div_add_mod b 9
          omega
        exact h'.1 (this ▸ hb')
    exact this base hn
  have h5 : 0 ≤ v / 45 % 5 := by omega
  rw [mkL_ok (by simp; omega)]
  simp only [R.of_some, R.fw_ok, cutP_take h5]
  have hlt : (v / 45 % 5).toNat ≤ 4 := by omega
  rw [mkL_ok (by simp; omega)]
  refine ⟨_, rfl, by simp; omega, ?_⟩
  intro ks hk1 hk2
  have a1 := nodup_len hk1 (ys := base.map fun q => ((((q / 9 : Nat) : Int), ((q % 9 : Nat) : Int)) : Pt)) (fun p hp => by
    rcases List.mem_append.mp ((hk2 p).mp hp) with h | h
    · exact h
    · exact List.mem_of_mem_take h)
  have a2 := nodup_len hcn (ys := ks) (fun p hp => (hk2 p).mpr (List.mem_append.mpr (.inl hp)))
  simp only [List.length_map] at a1 a2
  omega
theorem law_k03_ok (s : List Int) (hs : s.length ≤ 63) : law_k03 s = .ok true := by
  unfold law_k03
  obtain ⟨v0, h0⟩ := cell_at_ok3 s 0
  obtain ⟨v1, h1⟩ := cell_at_ok3 s 1
  obtain ⟨v2, h2⟩ := cell_at_ok3 s 2
  obtain ⟨v3, h3⟩ := cell_at_ok3 s 3
  rw [show l_cell_at s 0 = .ok v0 from h0, show l_cell_at s 1 = .ok v1 from h1, show l_cell_at s 2 = .ok v2 from h2, show l_cell_at s 3 = .ok v3 from h3]
  simp only [R.fw_ok]
  rw [mkL_ok (by simp; omega)]
  simp only [R.of_some, R.fw_ok]
  generalize hc : (s.map fun y3 => ((((v0 / 64) % 2000000000000000001 - 1000000000000000000) + (y3 % 8)), (((v1 / 64) % 2000000000000000001 - 1000000000000000000) + ((y3 / 8) % 8)))) = cells
  have hl : cells.length ≤ 63 := by rw [← hc]; simpa using hs
  have hmade : l_made cells = .ok true := l_made_of (by omega) (fun ks k1 k2 => by
    have := nodup_len k1 (ys := cells) (fun p hp => (k2 p).mp hp)
    omega)
  obtain ⟨ps, qs, x, hx, hp, hq, esp⟩ := l_spoiled_ok cells (by omega) v2
  obtain ⟨m, hm, many, em, hml, hmk⟩ := l_many_ok v3
  simp only [hmade, R.bind_ok, R.not_ok, Bool.not_true, R.fw_ok, Bool.false_eq_true, if_false, esp, l_refused_of ps qs x hx hp hq, R.or_false, em]
  by_cases h64 : 64 < 61 + v3 % 9
  · rw [decide_eq_true h64, if_pos rfl, l_refused_2_of (by omega) (fun ks k1 k2 => by have := hmk ks k1 k2; omega)]
    rfl
  · rw [decide_eq_false h64, if_neg (by simp), l_made_of (by omega) (fun ks k1 k2 => by have := hmk ks k1 k2; omega)]
    rfl
--! 10 0
theorem law_k03_fin (s : List Int) (hs : s.length ≤ 63) : law_k03 s = .ok true := law_k03_ok s hs
end Pg

namespace K03
open PySem Ev
theorem pure_law : ∀ ns : List Int, ns.length ≤ 63 → ∃ st, run T 10 5 i_law [.scr ns] [] = .ok (.bl true) st := by
  intro ns hns
  have h := c_law_k03 10 0 5 (by decide) ns
  rw [Pg.law_k03_fin ns hns] at h
  obtain ⟨fr, -, h⟩ := h
  exact law_of_trees (M := ms) (fr := fr) (os := []) rfl h
end K03
namespace K03
open PySem PySem.Spec PyProof.Rows L2 Ev
abbrev R : PySem.W.OpenRow := PySem.W.OpenLaw.row PySem.Challenge.rw_floortwos_k03_a_floor_made
abbrev hk : PySem.W.Hook := hookE 4 tab M
def ob (s : PySem.W.SharedT) : AlE := obsE 4 tab M (HandSHeadRun.getT s)
theorem ob_eq (s : PySem.W.SharedT) : ob s = hk.obs s.abs := obsE_eq (HandSHeadRun.getT_eq s)
theorem headRun (w : World) : HandSHeadRun.RunEq R (PySem.W.view R.prog [28]) hk ob 20000 ["is_number", "is_cell", "gathered", "_law_cell_at", "_law_whole", "_law_cell", "_law_right", "_law_refused", "_law_made", "_law_spoiled", "_law_many", "TileError", "NoFloor", "NoTile", "NoLaying", "NoTurn", "NoText", "TooWide", "Holed", "NoHeights", "NotAlike", "NoNumber", "NoTable", "MOST"] w := by
  intro os
  kernel_rfl
end K03
open PySem PySem.W PySem.Calls PyProof.Rows
theorem PySem.Challenge.cw_floortwos_k03_a_floor_made_holds : PySem.Challenge.rw_floortwos_k03_a_floor_made.Holds := by
  w_on; o_law
  refine HandSHeadRun.head_any (r := OpenLaw.row PySem.Challenge.rw_floortwos_k03_a_floor_made) (q := view (OpenLaw.row PySem.Challenge.rw_floortwos_k03_a_floor_made).prog [28]) (H := K03.hk) (ob := K03.ob) (M := 20000) (loose := ["is_number", "is_cell", "gathered", "_law_cell_at", "_law_whole", "_law_cell", "_law_right", "_law_refused", "_law_made", "_law_spoiled", "_law_many", "TileError", "NoFloor", "NoTile", "NoLaying", "NoTurn", "NoText", "TooWide", "Holed", "NoHeights", "NotAlike", "NoNumber", "NoTable", "MOST"])
    (d := HandSHeadRun.topDef (OpenLaw.row PySem.Challenge.rw_floortwos_k03_a_floor_made).prog 28) (kwd := []) K03.ob_eq
    (by kernel_rfl) (fun s => by kernel_rfl) K03.headRun (by kernel_rfl) (by kernel_rfl) (by kernel_rfl) (by rfl) (by first | assumption | decide +kernel) (by decide +kernel) ⟨rfl, rfl, rfl, rfl, rfl, by decide +kernel⟩ ?hw ?hc
  case hw => w_witness2
  case hc => exact Ev.law_walk (l := PySem.Challenge.rw_floortwos_k03_a_floor_made) (n := 63) (k := 5) (W := 10) (i := K03.i_law) (d := K03.d_law) (x := "_law_script") K03.tab_all rfl rfl (by kernel_rfl) rfl K03.pure_law (fun _ _ y => y) rfl (by decide) (by kernel_rfl) ⟨rfl, by decide, by decide⟩

