import PyProof.Rows.All
import Wide.All
import OpenK.AllK
import Wide.FinOn
import KE.LtData
import KE.SortData
import KE.KDictKeyed
import HandS.ForMost
import HandS.ForExc
import HandS.Deep
import HandS.Walk
import HandS.Wide
import HandS.IsInst
import HandS.Sort
import KE.DataMinMax
import HandS.Codes
import KE.KDictSum
import KE.KDictCopyH
import HandS.CallSlots
import HandS.ExcOwn
import HandS.NoneIn
import HandS.Head0
import HandS.Head1
import HandS.Head2
import HandS.HeadEnd
import HandS.HeadHook1
import HandS.HeadHook2
import HandS.Defaults
import HandS.Ends
import KE.BitLaws
import PySem.Challenge.RW_floortwos_k05_sides
set_option Elab.async false
set_option linter.all false
set_option maxRecDepth 100000
set_option maxHeartbeats 4000000
/-! A small language for the fragment of Python that the laws use, with its evaluator. -/
namespace Ev
open PySem

/-! ### values, objects, results -/
inductive D where
  | non | bl (b : Bool) | int (i : Int) | str (x : Str) | tup (ds : List D) | ref (l : Nat) | scr (ns : List Int)
  deriving Inhabited
namespace D
mutual
def beq : D → D → Bool
  | .non, .non => true
  | .bl a, .bl b => a == b
  | .int a, .int b => decide (a = b)
  | .str a, .str b => decide (a = b)
  | .tup a, .tup b => beqs a b
  | .ref a, .ref b => a == b
  | .scr a, .scr b => decide (a = b)
  | _, _ => false
def beqs : List D → List D → Bool
  | [], [] => true
  | a :: as, b :: bs => beq a b && beqs as bs
  | _, _ => false
end
mutual
theorem beq_self : ∀ a : D, beq a a = true
  | .non => rfl
  | .bl _ => by simp [beq]
  | .int _ => by simp [beq]
  | .str _ => by simp [beq]
  | .ref _ => by simp [beq]
  | .scr _ => by simp [beq]
  | .tup a => by rw [beq]; exact beqs_self a
theorem beqs_self : ∀ a : List D, beqs a a = true
  | [] => rfl
  | a :: as => by rw [beqs, beq_self a, beqs_self as]; rfl
end
mutual
theorem eq_of : ∀ a b : D, beq a b = true → a = b
  | .non, b, h => by cases b <;> simp [beq] at h; rfl
  | .bl a, b, h => by cases b <;> simp [beq] at h; rw [h]
  | .int a, b, h => by cases b <;> simp [beq] at h; rw [h]
  | .str a, b, h => by cases b <;> simp [beq] at h; rw [h]
  | .ref a, b, h => by cases b <;> simp [beq] at h; rw [h]
  | .scr a, b, h => by cases b <;> simp [beq] at h; rw [h]
  | .tup a, b, h => by
    cases b <;> simp [beq] at h
    rw [eqs_of a _ h]
theorem eqs_of : ∀ a b : List D, beqs a b = true → a = b
  | [], b, h => by cases b <;> simp [beqs] at h; rfl
  | a :: as, b, h => by
    cases b with
    | nil => simp [beqs] at h
    | cons b bs =>
      rw [beqs, Bool.and_eq_true] at h
      rw [eq_of a b h.1, eqs_of as bs h.2]
end
instance : DecidableEq D := fun a b => if h : beq a b = true then .isTrue (eq_of a b h) else .isFalse fun e => h (e ▸ beq_self a)
end D

inductive O where
  | lst (ds : List D) | dct (kvs : List (D × D))
  deriving DecidableEq, Inhabited
abbrev Sto := List O
abbrev En := List (Option D)

inductive Res (α : Type) where
  | ok (a : α) (st : Sto)
  | exc (c : Nat) (fs : List D) (st : Sto)
  | bad
namespace Res
def bind {α β : Type} (r : Res α) (f : α → Sto → Res β) : Res β := match r with
  | .ok a st => f a st
  | .exc c fs st => .exc c fs st
  | .bad => .bad
@[simp] theorem bind_ok {α β : Type} (a : α) (st : Sto) (f : α → Sto → Res β) : (Res.ok a st).bind f = f a st := (rfl)
@[simp] theorem bind_exc {α β : Type} (c : Nat) (fs : List D) (st : Sto) (f : α → Sto → Res β) : (Res.exc c fs st).bind f = .exc c fs st := (rfl)
@[simp] theorem bind_bad {α β : Type} (f : α → Sto → Res β) : (Res.bad : Res α).bind f = .bad := (rfl)
/-- what is known, or nothing -/
def of {α : Type} (o : Option α) (st : Sto) : Res α := match o with
  | some a => .ok a st
  | none => .bad
@[simp] theorem of_some {α : Type} (a : α) (st : Sto) : Res.of (some a) st = .ok a st := (rfl)
end Res
inductive Fl where
  | nx (env : En) (st : Sto)
  | ct (env : En) (st : Sto)
  | rt (d : D) (st : Sto)
  | exc (c : Nat) (fs : List D) (env : En) (st : Sto)
  | bad
/-- from an expression to a statement -/
def Res.fl {α : Type} (r : Res α) (env : En) (f : α → Sto → Fl) : Fl := match r with
  | .ok a st => f a st
  | .exc c fs st => .exc c fs env st
  | .bad => .bad
@[simp] theorem Res.fl_ok {α : Type} (a : α) (st : Sto) (env : En) (f : α → Sto → Fl) : (Res.ok a st).fl env f = f a st := (rfl)
@[simp] theorem Res.fl_exc {α : Type} (c : Nat) (fs : List D) (st : Sto) (env : En) (f : α → Sto → Fl) : (Res.exc c fs st).fl env f = .exc c fs env st := (rfl)
@[simp] theorem Res.fl_bad {α : Type} (env : En) (f : α → Sto → Fl) : (Res.bad : Res α).fl env f = .bad := (rfl)

/-! ### the language -/
inductive Bi where
  | len | abs | min1 | max1 | min2 | max2 | int | sorted | list | tuple | sum | divmod
  deriving DecidableEq
inductive Mt where
  | append | clear | pop0 | pop1 | get1 | get2 | setdef
  deriving DecidableEq
/-- classes for isinstance -/
inductive Ty where
  | int | bool | str | list | tuple
  deriving DecidableEq
mutual
inductive E where
  | var (i : Nat)
  | cst (c : D)
  | tup (es : List E)
  | lst (es : List E)
  | dct0
  | bin (op : Operator) (a b : E)
  | neg (a : E)
  | not (a : E)
  | cmp (op : CmpOp) (a b : E)
  | chn (op op' : CmpOp) (a b c : E)
  | bop (op : BoolOp) (es : List E)
  | ite (c a b : E)
  | fn (f : Nat) (es : List E)
  | bi (f : Bi) (es : List E)
  | mt (m : Mt) (o : E) (es : List E)
  | ix (a b : E)
  | sl (a : E) (lo hi : Option E)
  | isi (a : E) (t : Ty)
  | lc (own : List Nat) (tg : Tg) (it : I) (ifs : List E) (elt : E)
inductive I where
  | seq (e : E)
  | rng1 (a : E)
  | rng2 (a b : E)
  | enm (a : E)
  | zip (a b : E)
  | itm (a : E)
inductive Tg where
  | nm (i : Nat)
  | tp (ts : List Tg)
end
inductive S where
  | asg (t : Tg) (e : E)
  | par (i j : Nat) (a b : E)
  | put (o i e : E)
  | aug (i : Nat) (op : Operator) (e : E)
  | exp (e : E)
  | ite (c : E) (a b : List S)
  | fo (t : Tg) (it : I) (b : List S)
  | wh (c : E) (b : List S)
  | ret (e : E)
  | retN
  | con
  | pas
  | rai (c : Nat) (es : List E)

/-! ### data -/
def En.val (env : En) (i : Nat) : Option D := (env[i]?).join
def seqOf (st : Sto) : D → Option (List D)
  | .tup ds => some ds
  | .scr ns => some (ns.map .int)
  | .ref l => match st[l]? with
    | some (.lst ds) => some ds
    | _ => none
  | _ => none
/-- a list (or the script) -/
def lisOf (st : Sto) : D → Option (List D)
  | .tup _ => none
  | x => seqOf st x
def dctOf (st : Sto) : D → Option (List (D × D))
  | .ref l => match st[l]? with
    | some (.dct kvs) => some kvs
    | _ => none
  | _ => none
mutual
/-- a value as data: lists by their items; n bounds the depth -/
def toP (st : Sto) : Nat → D → Option PyData
  | _, .non => some .none
  | _, .bl b => some (.bool b)
  | _, .int i => some (.int i)
  | _, .str x => if PyData.strOk x then some (.str x) else none
  | n + 1, .tup ds => (toPs st n ds).map .tuple
  | n + 1, .scr ns => some (.list (ns.map .int))
  | n + 1, .ref l => match st[l]? with
    | some (.lst ds) => (toPs st n ds).map .list
    | _ => none
  | 0, _ => none
def toPs (st : Sto) : Nat → List D → Option (List PyData)
  | _, [] => some []
  | n, d :: ds => match toP st n d, toPs st n ds with
    | some x, some xs => some (x :: xs)
    | _, _ => none
end
def deep : Nat := 12
def eqD (st : Sto) (x y : D) : Option Bool := match toP st deep x, toP st deep y with
  | some a, some b => some (PyData.eqv a b)
  | _, _ => none
def ltD (st : Sto) (x y : D) : Option Bool := match toP st deep x, toP st deep y with
  | some a, some b => if W.alike a b = true ∧ x ≠ .non then some (W.dataLt a b) else none
  | _, _ => none
mutual
/-- what may stand in a key: numbers, texts, tuples of such -/
def inKey : Nat → D → Bool
  | _, .int _ => true
  | _, .str _ => true
  | n + 1, .tup ds => inKeys n ds
  | _, _ => false
def inKeys : Nat → List D → Bool
  | _, [] => true
  | n, d :: ds => inKey n d && inKeys n ds
end
/-- a key: a tuple -/
def isKey : D → Bool
  | .tup ds => inKeys 7 ds
  | _ => false
def dGet (kvs : List (D × D)) (k : D) : Option D := (kvs.find? fun p => decide (p.1 = k)).map (·.2)
def dSet (kvs : List (D × D)) (k v : D) : List (D × D) :=
  if kvs.any (fun p => decide (p.1 = k)) then kvs.map (fun p => if p.1 = k then (p.1, v) else p) else kvs ++ [(k, v)]
def dDel (kvs : List (D × D)) (k : D) : List (D × D) := kvs.filter fun p => decide (p.1 ≠ k)
def inD (st : Sto) (x y : D) : Option Bool := match dctOf st y with
  | some kvs => if isKey x then some (dGet kvs x).isSome else none
  | none => match toP st deep x, (seqOf st y).bind (toPs st deep) with
    | some a, some bs => some (bs.any fun z => PyData.eqv z a)
    | _, _ => none
def allAlike (ds : List PyData) : Bool := ds.all fun d => ds.all fun e => W.alike d e
def sortable (ds : List PyData) : Bool := (ds.all fun d => match d with | .tuple (_ :: _) => true | _ => false) || (ds.all fun d => match d with | .none => false | .tuple _ => false | _ => true)
/-- sorted, as the library has it -/
def sortD (st : Sto) (xs : List D) : Option (List D) := match toPs st deep xs with
  | some ps => if allAlike ps && sortable ps then some (xs.mergeSort (W.dataLe false fun d => (toP st deep d).getD .none)) else none
  | none => none
def new (o : O) (st : Sto) : Res D := .ok (.ref st.length) (st ++ [o])
def line : Nat := 16777216
def newL (xs : List D) (st : Sto) : Res D := if xs.length ≤ line then new (.lst xs) st else .bad

/-! ### operators -/
def mulOk (i j : Int) : Bool := decide (-(2 ^ 64) < i ∧ i < 2 ^ 64) || decide (-(2 ^ 64) < j ∧ j < 2 ^ 64) || decide (i.natAbs.log2 + j.natAbs.log2 < 1000000)
def divOk (j : Int) : Bool := decide (0 < j ∧ j.natAbs.log2 < 9000)
def powOk (i j : Int) : Bool := decide (0 ≤ j ∧ j ≤ 1000000 ∧ i.natAbs < 2 ^ 64)
def ints2 : D → D → Option (Int × Int)
  | .int i, .int j => some (i, j)
  | _, _ => none
def binI (op : Operator) (i j : Int) (st : Sto) : Res D := match op with
  | .Add => .ok (.int (i + j)) st
  | .Sub => .ok (.int (i - j)) st
  | .Mult => if mulOk i j then .ok (.int (i * j)) st else .bad
  | .FloorDiv => if divOk j then .ok (.int (i / j)) st else .bad
  | .Mod => if 0 < j then .ok (.int (i % j)) st else .bad
  | .Pow => if powOk i j then .ok (.int (i ^ j.toNat)) st else .bad
  | .LShift => if powOk i j then .ok (.int (i * 2 ^ j.toNat)) st else .bad
  | .RShift => if 0 ≤ j then .ok (.int (i / 2 ^ j.toNat)) st else .bad
  | .BitAnd => .ok (.int (Builtin.bitAnd i j)) st
  | .BitOr => .ok (.int (Builtin.bitOr i j)) st
  | .BitXor => .ok (.int (Builtin.bitXor i j)) st
  | _ => .bad
def bin (op : Operator) (x y : D) (st : Sto) : Res D := match ints2 x y with
  | some (i, j) => binI op i j st
  | none => match op, lisOf st x, lisOf st y with
    | .Add, some xs, some ys => newL (xs ++ ys) st
    | _, _, _ => .bad
def cmp (op : CmpOp) (x y : D) (st : Sto) : Option Bool := match op with
  | .Eq => eqD st x y
  | .NotEq => (eqD st x y).map (!·)
  | .Lt => ltD st x y
  | .In => inD st x y
  | .NotIn => (inD st x y).map (!·)
  | .Is => if y = .non then some (decide (x = .non)) else none
  | .IsNot => if y = .non then some (!decide (x = .non)) else none
  | .LtE => (ints2 x y).map fun q => decide (q.1 ≤ q.2)
  | .Gt => (ints2 x y).map fun q => decide (q.2 < q.1)
  | .GtE => (ints2 x y).map fun q => decide (q.2 ≤ q.1)
def tyOf (st : Sto) : D → Option Ty
  | .bl _ => some .bool
  | .int _ => some .int
  | .str _ => some .str
  | .tup _ => some .tuple
  | .scr _ => some .list
  | .ref l => match st[l]? with
    | some (.lst _) => some .list
    | _ => none
  | .non => none
def isi (st : Sto) (x : D) (t : Ty) : Option Bool := match x with
  | .non => some false
  | _ => (tyOf st x).map fun u => decide (u = t) || (decide (u = .bool) && decide (t = .int))
/-- the place of an index -/
def place (n : Nat) (i : Int) : Option Nat := if 0 ≤ i then (if i < n then some i.toNat else none) else if -(n : Int) ≤ i then some (i + n).toNat else none
def item (xs : List D) (i : Int) : Option D := (place xs.length i).bind fun j => xs[j]?
def ixD (x y : D) (st : Sto) : Option D := match dctOf st x with
  | some kvs => if isKey y then dGet kvs y else none
  | none => match y with
    | .int i => match x with
      | .str z => if z.length ≤ line then (place z.cps.toList.length i).bind fun j => (z.cps.toList[j]?).map fun c => .str ⟨#[c]⟩ else none
      | _ => (seqOf st x).bind fun xs => item xs i
    | _ => none
/-- a slice's end -/
def sIx (n d : Nat) : Option Int → Nat
  | none => d
  | some v => (if v < 0 then max (v + (n : Int)) 0 else min v (n : Int)).toNat
def cut (xs : List D) (lo hi : Option Int) : List D := (xs.drop (sIx xs.length 0 lo)).take (sIx xs.length xs.length hi - sIx xs.length 0 lo)
def slD (x : D) (lo hi : Option Int) (st : Sto) : Res D := match lisOf st x with
  | some xs => new (.lst (cut xs lo hi)) st
  | none => .bad
def intsOf : List D → Option (List Int)
  | [] => some []
  | .int i :: r => (intsOf r).map (i :: ·)
  | _ => none
def least : List Int → Option Int
  | [] => none
  | x :: r => some (r.foldl min x)
def most : List Int → Option Int
  | [] => none
  | x :: r => some (r.foldl max x)
def bi (f : Bi) (ds : List D) (st : Sto) : Res D := match f, ds with
  | .len, [.str z] => if z.length ≤ line then .ok (.int z.length) st else .bad
  | .len, [x] => match dctOf st x with
    | some kvs => .ok (.int kvs.length) st
    | none => match seqOf st x with
      | some xs => .ok (.int xs.length) st
      | none => .bad
  | .abs, [.int i] => .ok (.int (if i < 0 then -i else i)) st
  | .min1, [x] => match ((lisOf st x).bind intsOf).bind least with
    | some m => .ok (.int m) st
    | none => .bad
  | .max1, [x] => match ((lisOf st x).bind intsOf).bind most with
    | some m => .ok (.int m) st
    | none => .bad
  | .min2, [x, y] => match ltD st y x with
    | some b => .ok (if b = true then y else x) st
    | none => .bad
  | .max2, [x, y] => match ltD st x y with
    | some b => .ok (if b = true then y else x) st
    | none => .bad
  | .int, [.int i] => .ok (.int i) st
  | .int, [.bl b] => .ok (.int (if b = true then 1 else 0)) st
  | .sorted, [x] => match dctOf st x with
    | some kvs => match sortD st (kvs.map (·.1)) with
      | some ys => newL ys st
      | none => .bad
    | none => match (lisOf st x).bind (sortD st) with
      | some ys => newL ys st
      | none => .bad
  | .list, [x] => match seqOf st x with
    | some xs => newL xs st
    | none => .bad
  | .tuple, [x] => match seqOf st x with
    | some xs => .ok (.tup xs) st
    | none => .bad
  | .sum, [x] => match (lisOf st x).bind intsOf with
    | some ns => .ok (.int ns.sum) st
    | none => .bad
  | .divmod, [.int i, .int j] => if 0 < j ∧ j < 1073741824 then .ok (.tup [.int (i / j), .int (i % j)]) st else .bad
  | _, _ => .bad
def lstAt (st : Sto) (l : Nat) : Option (List D) := match st[l]? with
  | some (.lst ds) => some ds
  | _ => none
/-- lists, dicts -/
inductive Kd where
  | l | d
  deriving DecidableEq
def kindD (st : Sto) : D → Option Kd
  | .ref l => match st[l]? with
    | some (.lst _) => some .l
    | some (.dct _) => some .d
    | none => none
  | _ => none
/-- which methods they have -/
def mtOk : Kd → Mt → Bool
  | .l, .append => true
  | .l, .clear => true
  | .l, .pop0 => true
  | .l, .pop1 => true
  | .d, .pop1 => true
  | .d, .get1 => true
  | .d, .get2 => true
  | .d, .setdef => true
  | _, _ => false
def kindM (m : Mt) (st : Sto) (x : D) : Option Kd := match kindD st x with
  | some k => if mtOk k m then some k else none
  | none => none
def mtL (m : Mt) (l : Nat) (xs : List D) (ds : List D) (st : Sto) : Res D := match m, ds with
  | .append, [x] => if xs.length < line then .ok .non (st.set l (.lst (xs ++ [x]))) else .bad
  | .clear, [] => .ok .non (st.set l (.lst []))
  | .pop0, [] => match xs[xs.length - 1]? with
    | some x => .ok x (st.set l (.lst xs.dropLast))
    | none => .bad
  | .pop1, [.int i] => match place xs.length i with
    | some j => match xs[j]? with
      | some x => .ok x (st.set l (.lst (xs.eraseIdx j)))
      | none => .bad
    | none => .bad
  | _, _ => .bad
def mtD (m : Mt) (l : Nat) (kvs : List (D × D)) (ds : List D) (st : Sto) : Res D := match m, ds with
  | .pop1, [k] => if isKey k then match dGet kvs k with
    | some v => .ok v (st.set l (.dct (dDel kvs k)))
    | none => .bad
    else .bad
  | .get1, [k] => if isKey k then .ok ((dGet kvs k).getD .non) st else .bad
  | .get2, [k, x] => if isKey k then .ok ((dGet kvs k).getD x) st else .bad
  | .setdef, [k, x] => if isKey k && decide (kvs.length < line) then match dGet kvs k with
    | some v => .ok v st
    | none => .ok x (st.set l (.dct (dSet kvs k x)))
    else .bad
  | _, _ => .bad
def mt (k : Kd) (m : Mt) (o : D) (ds : List D) (st : Sto) : Res D := match o with
  | .ref l => match k, st[l]? with
    | .l, some (.lst xs) => mtL m l xs ds st
    | .d, some (.dct kvs) => mtD m l kvs ds st
    | _, _ => .bad
  | _ => .bad
def putD (o i v : D) (st : Sto) : Option Sto := match o with
  | .ref l => match st[l]? with
    | some (.lst xs) => match i with
      | .int k => (place xs.length k).map fun j => st.set l (.lst (xs.set j v))
      | _ => none
    | some (.dct kvs) => if isKey i && decide (kvs.length < line) then some (st.set l (.dct (dSet kvs i v))) else none
    | _ => none
  | _ => none

/-! ### targets, walks -/
mutual
def bindT (st : Sto) : Tg → D → En → Option En
  | .nm i, d, env => some (env.set i (some d))
  | .tp ts, d, env => match seqOf st d with
    | some ds => if ds.length = ts.length then bindTs st ts ds env else none
    | none => none
def bindTs (st : Sto) : List Tg → List D → En → Option En
  | [], _, env => some env
  | t :: ts, d :: ds, env => (bindT st t d env).bind (bindTs st ts ds)
  | _ :: _, [], _ => none
end
/-- what is walked: its items, and the objects that stand still meanwhile -/
structure Its where
  xs : List D
  gd : List (Nat × O)
def walkD (st : Sto) : D → Option Its
  | .tup ds => some ⟨ds, []⟩
  | .scr ns => some ⟨ns.map .int, []⟩
  | .ref l => match st[l]? with
    | some (.lst ds) => some ⟨ds, [(l, .lst ds)]⟩
    | _ => none
  | _ => none
def walkL (st : Sto) : D → Option Its
  | .tup _ => none
  | x => walkD st x
def lineR : Int := 2 ^ 62
def rangeD (lo hi : Int) : Option Its :=
  if -lineR ≤ lo ∧ lo < lineR ∧ -lineR ≤ hi ∧ hi < lineR then some ⟨(List.range (hi - lo).toNat).map fun k => .int (lo + (k : Nat)), []⟩ else none
def enumD (w : Its) : Its := ⟨(List.range w.xs.length).zipWith (fun k d => .tup [.int (k : Nat), d]) w.xs, w.gd⟩
def zipD (w w' : Its) : Its := ⟨w.xs.zipWith (fun a b => .tup [a, b]) w'.xs, w.gd ++ w'.gd⟩
def still (gd : List (Nat × O)) (st : Sto) : Bool := gd.all fun p => decide (st[p.1]? = some p.2)

/-- a for, over its items -/
def loopF (bd : Sto → D → En → Option En) (body : En → Sto → Fl) (gd : List (Nat × O)) : List D → En → Sto → Fl
  | [], env, st => if still gd st then .nx env st else .bad
  | d :: ds, env, st => if still gd st then match bd st d env with
    | some env1 => match body env1 st with
      | .nx env2 st2 => loopF bd body gd ds env2 st2
      | .ct env2 st2 => loopF bd body gd ds env2 st2
      | r => r
    | none => .bad
    else .bad
/-- a comprehension, over its items; the block's own slots are bound to each item anew -/
def loopC (bd : Sto → D → En → Option En) (test : En → Sto → Res Bool) (elt : En → Sto → Res D) (gd : List (Nat × O)) (env : En) : List D → Sto → Res (List D)
  | [], st => if still gd st then .ok [] st else .bad
  | d :: ds, st => if still gd st then match bd st d env with
    | some env1 => (test env1 st).bind fun b st1 =>
        if b = true then (elt env1 st1).bind fun x st2 => (loopC bd test elt gd env ds st2).bind fun xs st3 => .ok (x :: xs) st3
        else loopC bd test elt gd env ds st1
    | none => .bad
    else .bad
def loopW (test : En → Sto → Res Bool) (body : En → Sto → Fl) : Nat → En → Sto → Fl
  | 0, _, _ => .bad
  | n + 1, env, st => (test env st).fl env fun b st1 =>
    if b = true then match body env st1 with
      | .nx env2 st2 => loopW test body n env2 st2
      | .ct env2 st2 => loopW test body n env2 st2
      | r => r
    else .nx env st1
/-- forget the slots -/
def wipe (env : En) : List Nat → En
  | [] => env
  | v :: vs => (wipe env vs).set v none

/-! ### the evaluator -/
abbrev Calls := Nat → List D → Sto → Res D
def asB (d : D) (st : Sto) : Res Bool := match d with
  | .bl b => .ok b st
  | _ => .bad
def asI (d : D) (st : Sto) : Res Int := match d with
  | .int i => .ok i st
  | _ => .bad
mutual
def evalE (cl : Calls) : E → En → Sto → Res D
  | .var i, env, st => Res.of (env.val i) st
  | .cst c, _, st => .ok c st
  | .tup es, env, st => (evalEs cl es env st).bind fun ds st => if ds.length ≤ line then .ok (.tup ds) st else .bad
  | .lst es, env, st => (evalEs cl es env st).bind fun ds st => newL ds st
  | .dct0, _, st => new (.dct []) st
  | .bin op a b, env, st => (evalE cl a env st).bind fun x st => (evalE cl b env st).bind fun y st => bin op x y st
  | .neg a, env, st => (evalE cl a env st).bind fun x st => (asI x st).bind fun i st => .ok (.int (-i)) st
  | .not a, env, st => (evalE cl a env st).bind fun x st => (asB x st).bind fun b st => .ok (.bl (!b)) st
  | .cmp op a b, env, st => (evalE cl a env st).bind fun x st => (evalE cl b env st).bind fun y st => (Res.of (cmp op x y st) st).bind fun b st => .ok (.bl b) st
  | .chn op op' a b c, env, st => (evalE cl a env st).bind fun x st => (evalE cl b env st).bind fun y st => (Res.of (cmp op x y st) st).bind fun k st =>
      if k = true then (evalE cl c env st).bind fun z st => (Res.of (cmp op' y z st) st).bind fun k st => .ok (.bl k) st else .ok (.bl false) st
  | .bop op es, env, st => evalB cl op es env st
  | .ite c a b, env, st => (evalE cl c env st).bind fun x st => (asB x st).bind fun k st => if k = true then evalE cl a env st else evalE cl b env st
  | .fn f es, env, st => (evalEs cl es env st).bind fun ds st => cl f ds st
  | .bi f es, env, st => (evalEs cl es env st).bind fun ds st => bi f ds st
  | .mt m o es, env, st => (evalE cl o env st).bind fun x st => (Res.of (kindM m st x) st).bind fun k st => (evalEs cl es env st).bind fun ds st => mt k m x ds st
  | .ix a b, env, st => (evalE cl a env st).bind fun x st => (evalE cl b env st).bind fun y st => Res.of (ixD x y st) st
  | .sl a lo hi, env, st => (evalE cl a env st).bind fun x st => (evalO cl lo env st).bind fun l st => (evalO cl hi env st).bind fun h st => slD x l h st
  | .isi a t, env, st => (evalE cl a env st).bind fun x st => (Res.of (isi st x t) st).bind fun b st => .ok (.bl b) st
  | .lc own tg it ifs elt, env, st => match evalI cl it env st with
    | .ok w st => match loopC (fun st => bindT st tg) (fun env st => evalTs cl ifs env st) (fun env st => evalE cl elt env st) w.gd (wipe env own) w.xs st with
      | .ok xs st => newL xs st
      | _ => .bad
    | .exc c fs st => .exc c fs st
    | .bad => .bad
def evalEs (cl : Calls) : List E → En → Sto → Res (List D)
  | [], _, st => .ok [] st
  | e :: es, env, st => (evalE cl e env st).bind fun x st => (evalEs cl es env st).bind fun xs st => .ok (x :: xs) st
def evalO (cl : Calls) : Option E → En → Sto → Res (Option Int)
  | none, _, st => .ok none st
  | some e, env, st => (evalE cl e env st).bind fun x st => (asI x st).bind fun i st => .ok (some i) st
/-- and, or of bools -/
def evalB (cl : Calls) : BoolOp → List E → En → Sto → Res D
  | _, [], _, _ => .bad
  | op, e :: es, env, st => (evalE cl e env st).bind fun x st => (asB x st).bind fun b st => match es, op with
    | [], _ => .ok (.bl b) st
    | _ :: _, .And => if b = true then evalB cl op es env st else .ok (.bl false) st
    | _ :: _, .Or => if b = true then .ok (.bl true) st else evalB cl op es env st
/-- a clause's tests (none or one) -/
def evalTs (cl : Calls) : List E → En → Sto → Res Bool
  | [], _, st => .ok true st
  | [e], env, st => (evalE cl e env st).bind fun x st => asB x st
  | _, _, _ => .bad
def evalI (cl : Calls) : I → En → Sto → Res Its
  | .seq e, env, st => (evalE cl e env st).bind fun x st => Res.of (walkD st x) st
  | .rng1 a, env, st => (evalE cl a env st).bind fun x st => (asI x st).bind fun i st => Res.of (rangeD 0 i) st
  | .rng2 a b, env, st => (evalE cl a env st).bind fun x st => (evalE cl b env st).bind fun y st => (asI x st).bind fun i st => (asI y st).bind fun j st => Res.of (rangeD i j) st
  | .enm a, env, st => (evalE cl a env st).bind fun x st => (Res.of (walkL st x) st).bind fun w st => .ok (enumD w) st
  | .zip a b, env, st => (evalE cl a env st).bind fun x st => (evalE cl b env st).bind fun y st => (Res.of (walkL st x) st).bind fun w st => (Res.of (walkL st y) st).bind fun w' st => .ok (zipD w w') st
  | .itm a, env, st => (evalE cl a env st).bind fun x st => match x, dctOf st x with
    | .ref l, some kvs => .ok ⟨kvs.map fun p => .tup [p.1, p.2], [(l, .dct kvs)]⟩ st
    | _, _ => .bad
end
mutual
def execS (cl : Calls) (w : Nat) : S → En → Sto → Fl
  | .asg t e, env, st => (evalE cl e env st).fl env fun x st => match bindT st t x env with
    | some env' => .nx env' st
    | none => .bad
  | .par i j a b, env, st => (evalE cl a env st).fl env fun x st => (evalE cl b env st).fl env fun y st => .nx ((env.set i (some x)).set j (some y)) st
  | .put o i e, env, st => (evalE cl e env st).fl env fun v st => (evalE cl o env st).fl env fun x st => (evalE cl i env st).fl env fun y st => match putD x y v st with
    | some st' => .nx env st'
    | none => .bad
  | .aug i op e, env, st => (Res.of (env.val i) st).fl env fun x st => (evalE cl e env st).fl env fun y st => match op, x, y with
    | .Add, .int a, .int b => .nx (env.set i (some (.int (a + b)))) st
    | _, _, _ => .bad
  | .exp e, env, st => (evalE cl e env st).fl env fun _ st => .nx env st
  | .ite c a b, env, st => ((evalE cl c env st).bind asB).fl env fun k st => if k = true then execSs cl w a env st else execSs cl w b env st
  | .fo t it b, env, st => (evalI cl it env st).fl env fun its st => loopF (fun st => bindT st t) (fun env st => execSs cl w b env st) its.gd its.xs env st
  | .wh c b, env, st => loopW (fun env st => (evalE cl c env st).bind asB) (fun env st => execSs cl w b env st) w env st
  | .ret e, env, st => (evalE cl e env st).fl env fun x st => .rt x st
  | .retN, _, st => .rt .non st
  | .con, env, st => .ct env st
  | .pas, env, st => .nx env st
  | .rai c es, env, st => (evalEs cl es env st).fl env fun ds st => .exc c ds env st
def execSs (cl : Calls) (w : Nat) : List S → En → Sto → Fl
  | [], env, st => .nx env st
  | s :: ss, env, st => match execS cl w s env st with
    | .nx env st => execSs cl w ss env st
    | r => r
end

/-- a def: how many parameters, how many slots, its body -/
structure Fn where
  ps : Nat
  ns : Nat
  body : List S
def enter (f : Fn) (ds : List D) : En := ds.map some ++ List.replicate (f.ns - ds.length) none
def Fl.out : Fl → Res D
  | .nx _ st => .ok .non st
  | .rt d st => .ok d st
  | .exc c fs _ st => .exc c fs st
  | _ => .bad
/-- the defs' table, to a depth of calls -/
def run (T : List Fn) (w : Nat) : Nat → Calls
  | 0 => fun _ _ _ => .bad
  | k + 1 => fun f ds st => match T[f]? with
    | some F => if ds.length = F.ps then (execSs (run T w k) w F.body (enter F ds) st).out else .bad
    | none => .bad
end Ev

/-! What a value of the evaluator stands for in the hand layer's heap. -/
namespace Ev
open PySem PySem.Spec PyProof.Rows L2

/-- the fixed things: program, world, the written part, the classes of exceptions by their numbers -/
structure Pm where
  P : Program
  w : World
  K : PySem.W.Frag
  cv : Nat → Value

/-- the script, as it was handed in -/
def Scr (K : PySem.W.Frag) (H : Hp) (a : Addr) (xs : List V) : Prop :=
  (∃ o, H a = some (.frz o (.lst xs))) ∨
    ∃ (o : Obj) (its : Array Value) (n : Nat), K.lookup a = some o ∧ o.cls = .type "list" ∧ o.dict = none ∧ o.data = .seq its n ∧ its.size ≤ sizeLine ∧ Vals xs its.toList
theorem Scr.sq {K : PySem.W.Frag} {H : Hp} {a : Addr} {xs : List V} (h : Scr K H a xs) : SqL K H a xs := by
  rcases h with ⟨o, h⟩ | h
  · exact .inl (.inr ⟨o, h⟩)
  · exact .inr h
mutual
inductive Rep (K : PySem.W.Frag) (ρ : List Addr) (H : Hp) : V → D → Prop
  | non : Rep K ρ H .non .non
  | bl (b : Bool) : Rep K ρ H (.bl b) (.bl b)
  | int (i : Int) : Rep K ρ H (.int i) (.int i)
  | str (x : Str) : Rep K ρ H (.str x) (.str x)
  | tup {a : Addr} {vs : List V} {ds : List D} : SqT K H a vs → Reps K ρ H vs ds → Rep K ρ H (.ref a) (.tup ds)
  | ref {l : Nat} {a : Addr} : ρ[l]? = some a → Rep K ρ H (.ref a) (.ref l)
  | scr {a : Addr} {ns : List Int} : Scr K H a (ns.map V.int) → Rep K ρ H (.ref a) (.scr ns)
inductive Reps (K : PySem.W.Frag) (ρ : List Addr) (H : Hp) : List V → List D → Prop
  | nil : Reps K ρ H [] []
  | cons {v : V} {d : D} {vs : List V} {ds : List D} : Rep K ρ H v d → Reps K ρ H vs ds → Reps K ρ H (v :: vs) (d :: ds)
end

/-- values stay what they are -/
structure Pre (ρ : List Addr) (H : Hp) (ρ' : List Addr) (H' : Hp) : Prop where
  pre : ∀ (l : Nat) a, ρ[l]? = some a → ρ'[l]? = some a
  tups : ∀ a xs, H a = some (.tup xs) → H' a = some (.tup xs)
  frzs : ∀ a o u, H a = some (.frz o u) → H' a = some (.frz o u)
/-- from one heap to a later one -/
structure Ext (ρ : List Addr) (H : Hp) (ρ' : List Addr) (H' : Hp) : Prop extends Pre ρ H ρ' H' where
  keep : ∀ a o, a ∉ ρ → H a = some o → H' a = some o
  new : ∀ a, a ∈ ρ' → a ∈ ρ ∨ H a = none
theorem Ext.refl {ρ : List Addr} {H : Hp} : Ext ρ H ρ H := ⟨⟨fun _ _ h => h, fun _ _ h => h, fun _ _ _ h => h⟩, fun _ _ _ h => h, fun _ h => .inl h⟩
theorem Ext.trans {ρ ρ1 ρ2 : List Addr} {H H1 H2 : Hp} (a : Ext ρ H ρ1 H1) (b : Ext ρ1 H1 ρ2 H2) : Ext ρ H ρ2 H2 where
  pre := fun l x h => b.pre l x (a.pre l x h)
  tups := fun x xs h => b.tups x xs (a.tups x xs h)
  frzs := fun x o u h => b.frzs x o u (a.frzs x o u h)
  keep := fun x o n h => b.keep x o (fun z => by
    rcases a.new x z with q | q
    · exact n q
    · rw [h] at q; cases q) (a.keep x o n h)
  new := fun x hx => by
    rcases b.new x hx with q | q
    · exact a.new x q
    · by_cases hn : x ∈ ρ
      · exact .inl hn
      · refine .inr ?_
        cases e : H x with
        | none => rfl
        | some o => rw [a.keep x o hn e] at q; cases q

section
variable {K : PySem.W.Frag} {ρ ρ' : List Addr} {H H' : Hp}
theorem SqT.ext (e : Pre ρ H ρ' H') {a : Addr} {xs : List V} (h : SqT K H a xs) : SqT K H' a xs := by
  rcases h with (h | ⟨o, h⟩) | h
  · exact .inl (.inl (e.tups _ _ h))
  · exact .inl (.inr ⟨o, e.frzs _ _ _ h⟩)
  · exact .inr h
theorem Scr.ext (e : Pre ρ H ρ' H') {a : Addr} {xs : List V} (h : Scr K H a xs) : Scr K H' a xs := by
  rcases h with ⟨o, h⟩ | h
  · exact .inl ⟨o, e.frzs _ _ _ h⟩
  · exact .inr h
mutual
theorem Rep.kept (e : Pre ρ H ρ' H') : ∀ {v : V} {d : D}, Rep K ρ H v d → Rep K ρ' H' v d
  | _, _, .non => .non
  | _, _, .bl b => .bl b
  | _, _, .int i => .int i
  | _, _, .str x => .str x
  | _, _, .tup h r => .tup (SqT.ext e h) (Reps.kept e r)
  | _, _, .ref h => .ref (e.pre _ _ h)
  | _, _, .scr h => .scr (Scr.ext e h)
theorem Reps.kept (e : Pre ρ H ρ' H') : ∀ {vs : List V} {ds : List D}, Reps K ρ H vs ds → Reps K ρ' H' vs ds
  | _, _, .nil => .nil
  | _, _, .cons r t => .cons (Rep.kept e r) (Reps.kept e t)
end
theorem Rep.ext (e : Ext ρ H ρ' H') {v : V} {d : D} (r : Rep K ρ H v d) : Rep K ρ' H' v d := r.kept e.toPre
theorem Reps.ext (e : Ext ρ H ρ' H') {vs : List V} {ds : List D} (r : Reps K ρ H vs ds) : Reps K ρ' H' vs ds := r.kept e.toPre
theorem Reps.length : ∀ {vs : List V} {ds : List D}, Reps K ρ H vs ds → vs.length = ds.length
  | _, _, .nil => rfl
  | _, _, .cons _ t => by simp [Reps.length t]
theorem Reps.append : ∀ {vs ws : List V} {ds es : List D}, Reps K ρ H vs ds → Reps K ρ H ws es → Reps K ρ H (vs ++ ws) (ds ++ es)
  | _, _, _, _, .nil, s => s
  | _, _, _, _, .cons r t, s => .cons r (Reps.append t s)
theorem Reps.get : ∀ {vs : List V} {ds : List D} {i : Nat} {d : D}, Reps K ρ H vs ds → ds[i]? = some d → ∃ v, vs[i]? = some v ∧ Rep K ρ H v d
  | _, _, _, _, .nil, e => by simp at e
  | _, _, 0, _, .cons r _, e => by simp at e; subst e; exact ⟨_, rfl, r⟩
  | _, _, i + 1, d, .cons _ t, e => by
    obtain ⟨u, h1, h2⟩ := Reps.get (i := i) (d := d) t (by simpa using e)
    exact ⟨u, by simpa using h1, h2⟩
theorem Reps.get' : ∀ {vs : List V} {ds : List D} {i : Nat} {v : V}, Reps K ρ H vs ds → vs[i]? = some v → ∃ d, ds[i]? = some d ∧ Rep K ρ H v d
  | _, _, _, _, .nil, e => by simp at e
  | _, _, 0, _, .cons r _, e => by simp at e; subst e; exact ⟨_, rfl, r⟩
  | _, _, i + 1, d, .cons _ t, e => by
    obtain ⟨u, h1, h2⟩ := Reps.get' (i := i) (v := d) t (by simpa using e)
    exact ⟨u, by simpa using h1, h2⟩
theorem Reps.set {v : V} {d : D} (r : Rep K ρ H v d) : ∀ {vs : List V} {ds : List D} (i : Nat), Reps K ρ H vs ds → Reps K ρ H (vs.set i v) (ds.set i d)
  | _, _, _, .nil => .nil
  | _, _, 0, .cons _ t => .cons r t
  | _, _, i + 1, .cons q t => .cons q (Reps.set r i t)
theorem Reps.drop : ∀ {vs : List V} {ds : List D} (n : Nat), Reps K ρ H vs ds → Reps K ρ H (vs.drop n) (ds.drop n)
  | _, _, 0, r => r
  | _, _, _ + 1, .nil => .nil
  | _, _, n + 1, .cons _ t => Reps.drop n t
theorem Reps.take : ∀ {vs : List V} {ds : List D} (n : Nat), Reps K ρ H vs ds → Reps K ρ H (vs.take n) (ds.take n)
  | _, _, 0, _ => .nil
  | _, _, _ + 1, .nil => .nil
  | _, _, n + 1, .cons r t => .cons r (Reps.take n t)
theorem Reps.eraseIdx : ∀ {vs : List V} {ds : List D} (i : Nat), Reps K ρ H vs ds → Reps K ρ H (vs.eraseIdx i) (ds.eraseIdx i)
  | _, _, _, .nil => .nil
  | _, _, 0, .cons _ t => t
  | _, _, i + 1, .cons r t => .cons r (Reps.eraseIdx i t)
theorem Reps.dropLast : ∀ {vs : List V} {ds : List D}, Reps K ρ H vs ds → Reps K ρ H vs.dropLast ds.dropLast
  | _, _, .nil => .nil
  | _, _, .cons _ .nil => .nil
  | _, _, .cons r (.cons r' t) => .cons r (Reps.dropLast (.cons r' t))
theorem Reps.ints : ∀ {ns : List Int}, Reps K ρ H (ns.map V.int) (ns.map D.int)
  | [] => .nil
  | n :: ns => .cons (.int n) (Reps.ints (ns := ns))
end

/-! ### the store -/
mutual
def toK : D → NestedKey
  | .int i => .num i
  | .str x => .text x
  | .tup ds => .tup (toKs ds)
  | _ => .none
def toKs : List D → List NestedKey
  | [] => []
  | d :: ds => toK d :: toKs ds
end
/-- one entry of a dict: its key's tuple, its value -/
def EntR (p : Pm) (ρ : List Addr) (H : Hp) (kv : D × D) (x : NestedKey × Addr × Value) : Prop :=
  isKey kv.1 = true ∧ x.1 = toK kv.1 ∧ Rep p.K ρ H (.ref x.2.1) kv.1 ∧ ∃ v, RelV v x.2.2 ∧ Rep p.K ρ H v kv.2
def DctR (p : Pm) (ρ : List Addr) (H : Hp) (a : Addr) (kvs : List (D × D)) : Prop :=
  ∃ (o : Obj) (xs : List (NestedKey × Addr × Value)) (es : Array DictEntry) (ep : Nat), H a = some (.ext fun h => h.get? a = some o) ∧ (a == sysModules) = false ∧ kvs.length ≤ sizeLine ∧ o.ExactDict ∧ o.data = .dict es ep ∧
    es.toList = xs.map (entryOfKey (nestedKind p.P p.w)) ∧ (xs.map (·.1)).Nodup ∧ Paired (EntR p ρ H) kvs xs
def ObjR (p : Pm) (ρ : List Addr) (H : Hp) (a : Addr) : O → Prop
  | .lst ds => ∃ vs, H a = some (.lst vs) ∧ Reps p.K ρ H vs ds
  | .dct kvs => DctR p ρ H a kvs
structure Rel (p : Pm) (ρ : List Addr) (H : Hp) (st : Sto) : Prop where
  len : ρ.length = st.length
  nd : ρ.Nodup
  obj : ∀ (l : Nat) (a : Addr) (o : O), ρ[l]? = some a → st[l]? = some o → ObjR p ρ H a o
section
variable {p : Pm} {ρ ρ' : List Addr} {H H' : Hp} {st : Sto}
theorem EntR.ext (e : Pre ρ H ρ' H') {kv : D × D} {x : NestedKey × Addr × Value} (h : EntR p ρ H kv x) : EntR p ρ' H' kv x :=
  let ⟨h1, h2, h3, v, h4, h5⟩ := h
  ⟨h1, h2, h3.kept e, v, h4, h5.kept e⟩
theorem ObjR.ext (e : Pre ρ H ρ' H') {a : Addr} {o : O} (h : ObjR p ρ H a o) (ha : H' a = H a) : ObjR p ρ' H' a o := by
  cases o with
  | lst ds =>
    obtain ⟨vs, h1, h2⟩ := h
    exact ⟨vs, ha.trans h1, h2.kept e⟩
  | dct kvs =>
    obtain ⟨o, xs, es, ep, h1, h2, h3, h4, h5, h6, h7, h8⟩ := h
    exact ⟨o, xs, es, ep, ha.trans h1, h2, h3, h4, h5, h6, h7, Paired.mapP h8 fun _ _ z => z.ext e⟩
theorem ObjR.some {a : Addr} {o : O} (h : ObjR p ρ H a o) : ∃ u, H a = some u ∧ Mut (some u) := by
  cases o with
  | lst ds =>
    obtain ⟨vs, h1, _⟩ := h
    exact ⟨_, h1, trivial⟩
  | dct kvs =>
    obtain ⟨o, xs, es, ep, h1, _⟩ := h
    exact ⟨_, h1, trivial⟩
theorem Rel.at (R : Rel p ρ H st) {l : Nat} {o : O} (h : st[l]? = some o) : ∃ a, ρ[l]? = some a ∧ ObjR p ρ H a o := by
  have hl : l < ρ.length := by rw [R.len]; exact (List.getElem?_eq_some_iff.mp h).1
  exact ⟨ρ[l], List.getElem?_eq_getElem hl, R.obj l _ o (List.getElem?_eq_getElem hl) h⟩
theorem Rel.has (R : Rel p ρ H st) {a : Addr} (h : a ∈ ρ) : ∃ u, H a = some u ∧ Mut (some u) := by
  obtain ⟨l, hl, e⟩ := List.mem_iff_getElem.mp h
  have h1 : ρ[l]? = some a := by rw [List.getElem?_eq_getElem hl, e]
  have hs : l < st.length := by rw [← R.len]; exact hl
  exact (R.obj l a st[l] h1 (List.getElem?_eq_getElem hs)).some
theorem Rel.fresh (R : Rel p ρ H st) {a : Addr} (h : H a = none) : a ∉ ρ := fun z => by
  obtain ⟨u, e, _⟩ := R.has z
  rw [h] at e; cases e
/-- the heap grows by a thing that isn't the store's -/
theorem Ext.grow (hn : H a = none) (o : HO) : Ext ρ H ρ (upd H a o) where
  pre := fun _ _ h => h
  tups := fun b xs h => by rw [upd_ne (ne_of_none h hn)]; exact h
  frzs := fun b o u h => by rw [upd_ne (ne_of_none h hn)]; exact h
  keep := fun b o _ h => by rw [upd_ne (ne_of_none h hn)]; exact h
  new := fun _ h => .inl h
theorem Rel.grow (R : Rel p ρ H st) (hn : H a = none) (o : HO) : Rel p ρ (upd H a o) st :=
  ⟨R.len, R.nd, fun l b q h1 h2 => (R.obj l b q h1 h2).ext (Ext.grow hn o).toPre (by
    obtain ⟨u, e, _⟩ := (R.obj l b q h1 h2).some
    rw [upd_ne (ne_of_none e hn)])⟩
/-- a new object of the store -/
theorem Ext.laid (hn : H a = none) (o : HO) : Ext ρ H (ρ ++ [a]) (upd H a o) where
  pre := fun l b h => by
    rw [List.getElem?_append_left (List.getElem?_eq_some_iff.mp h).1]
    exact h
  tups := fun b xs h => by rw [upd_ne (ne_of_none h hn)]; exact h
  frzs := fun b o u h => by rw [upd_ne (ne_of_none h hn)]; exact h
  keep := fun b o _ h => by rw [upd_ne (ne_of_none h hn)]; exact h
  new := fun b h => by
    rcases List.mem_append.mp h with h | h
    · exact .inl h
    · have e : b = a := by simpa using h
      subst e
      exact .inr hn
theorem Rel.laid (R : Rel p ρ H st) {a : Addr} {o : HO} {q : O} (hn : H a = none) (hq : ObjR p (ρ ++ [a]) (upd H a o) a q) : Rel p (ρ ++ [a]) (upd H a o) (st ++ [q]) := by
  have hx : Ext ρ H (ρ ++ [a]) (upd H a o) := Ext.laid hn o
  refine ⟨by simp [R.len], ?_, fun l b u h1 h2 => ?_⟩
  · refine List.nodup_append.mpr ⟨R.nd, by simp, fun x hm y hy => ?_⟩
    have e : y = a := by simpa using hy
    subst e
    exact fun z => R.fresh hn (z ▸ hm)
  · by_cases hl : l < st.length
    · rw [List.getElem?_append_left hl] at h2
      rw [List.getElem?_append_left (by rw [R.len]; exact hl)] at h1
      obtain ⟨v, e, _⟩ := (R.obj l b u h1 h2).some
      exact (R.obj l b u h1 h2).ext hx.toPre (by rw [upd_ne (ne_of_none e hn)])
    · rw [List.getElem?_append_right (by omega)] at h2
      have e0 : l - st.length = 0 := by
        obtain ⟨z, _⟩ := List.getElem?_eq_some_iff.mp h2
        simp at z
        omega
      rw [List.getElem?_append_right (by rw [R.len]; omega), R.len, e0] at h1
      rw [e0] at h2
      have e1 : a = b := by simpa using h1
      have e2 : q = u := by simpa using h2
      subst e1 e2
      exact hq
theorem Rep.new {K : PySem.W.Frag} (R : Rel p ρ H st) {a : Addr} {H' : Hp} : Rep K (ρ ++ [a]) H' (.ref a) (.ref st.length) := .ref (by
  rw [← R.len, List.getElem?_append_right (Nat.le_refl _)]; simp)
/-- an object of the store is written -/
theorem Ext.put (ha : a ∈ ρ) (hm : Mut (H a)) (o : HO) : Ext ρ H ρ (upd H a o) where
  pre := fun _ _ h => h
  tups := fun b xs h => by
    rw [upd_ne (fun z => by subst z; rw [h] at hm; exact hm)]
    exact h
  frzs := fun b o u h => by
    rw [upd_ne (fun z => by subst z; rw [h] at hm; exact hm)]
    exact h
  keep := fun b o hb h => by
    rw [upd_ne (fun z => by subst z; exact hb ha)]
    exact h
  new := fun _ h => .inl h
theorem Rel.put (R : Rel p ρ H st) {l : Nat} {a : Addr} {o : HO} {q : O} (hl : ρ[l]? = some a) (hq : ObjR p ρ (upd H a o) a q) : Rel p ρ (upd H a o) (st.set l q) ∧ Ext ρ H ρ (upd H a o) := by
  have ha : a ∈ ρ := List.mem_of_getElem? hl
  obtain ⟨u, e, hm⟩ := R.has ha
  have hx : Ext ρ H ρ (upd H a o) := Ext.put ha (by rw [e]; exact hm) o
  refine ⟨⟨by simp [R.len], R.nd, fun k b u h1 h2 => ?_⟩, hx⟩
  by_cases hk : l = k
  · subst hk
    rw [hl] at h1; cases h1
    have hls : l < st.length := by rw [← R.len]; exact (List.getElem?_eq_some_iff.mp hl).1
    rw [List.getElem?_set_self hls] at h2; cases h2
    exact hq
  · rw [List.getElem?_set_ne hk] at h2
    refine (R.obj k b u h1 h2).ext hx.toPre (upd_ne fun z => hk ?_)
    subst z
    exact (nodup_ix' R.nd hl h1)
where
  nodup_ix' {ρ : List Addr} (hN : ρ.Nodup) {i j : Nat} {x : Addr} (a : ρ[i]? = some x) (b : ρ[j]? = some x) : i = j := by
    obtain ⟨h1, e1⟩ := List.getElem?_eq_some_iff.mp a
    obtain ⟨h2, e2⟩ := List.getElem?_eq_some_iff.mp b
    exact (List.getElem_inj hN).mp (e1.trans e2.symm)
/-- a thing that isn't the store's is written -/
theorem Pre.out {a : Addr} {o : HO} (hm : Mut (H a)) : Pre ρ H ρ (upd H a o) where
  pre := fun _ _ h => h
  tups := fun b xs h => by
    rw [upd_ne (fun z => by subst z; rw [h] at hm; exact hm)]
    exact h
  frzs := fun b o u h => by
    rw [upd_ne (fun z => by subst z; rw [h] at hm; exact hm)]
    exact h
theorem Rel.out (R : Rel p ρ H st) {a : Addr} {o : HO} (ha : a ∉ ρ) (hm : Mut (H a)) : Rel p ρ (upd H a o) st :=
  ⟨R.len, R.nd, fun l b q h1 h2 => (R.obj l b q h1 h2).ext (Pre.out hm) (upd_ne fun z => ha (z ▸ List.mem_of_getElem? h1))⟩
theorem Ext.out {H0 : Hp} {ρ0 : List Addr} {a : Addr} {o : HO} (e : Ext ρ0 H0 ρ H) (ha : H0 a = none) (hm : Mut (H a)) : Ext ρ0 H0 ρ (upd H a o) where
  pre := e.pre
  tups := fun b xs h => (Pre.out (ρ := ρ) hm).tups b xs (e.tups b xs h)
  frzs := fun b o u h => (Pre.out (ρ := ρ) hm).frzs b o u (e.frzs b o u h)
  keep := fun b u hb h => by
    rw [upd_ne (fun z => by subst z; rw [ha] at h; cases h)]
    exact e.keep b u hb h
  new := e.new
/-- a thing that stands already is taken into the store -/
theorem Rel.adopt (R : Rel p ρ H st) {a : Addr} {vs : List V} {ds : List D} (ha : a ∉ ρ) (h : H a = some (.lst vs)) (r : Reps p.K ρ H vs ds) : Rel p (ρ ++ [a]) H (st ++ [.lst ds]) := by
  have hx : Pre ρ H (ρ ++ [a]) H := ⟨fun l b h => by
    rw [List.getElem?_append_left (List.getElem?_eq_some_iff.mp h).1]
    exact h, fun _ _ h => h, fun _ _ _ h => h⟩
  refine ⟨by simp [R.len], ?_, fun l b u h1 h2 => ?_⟩
  · refine List.nodup_append.mpr ⟨R.nd, by simp, fun x hm y hy => ?_⟩
    have e : y = a := by simpa using hy
    subst e
    exact fun z => ha (z ▸ hm)
  · by_cases hl : l < st.length
    · rw [List.getElem?_append_left hl] at h2
      rw [List.getElem?_append_left (by rw [R.len]; exact hl)] at h1
      exact (R.obj l b u h1 h2).ext hx rfl
    · rw [List.getElem?_append_right (by omega)] at h2
      have e0 : l - st.length = 0 := by
        obtain ⟨z, _⟩ := List.getElem?_eq_some_iff.mp h2
        simp at z
        omega
      rw [List.getElem?_append_right (by rw [R.len]; omega), R.len, e0] at h1
      rw [e0] at h2
      have e1 : a = b := by simpa using h1
      have e2 : O.lst ds = u := by simpa using h2
      subst e1 e2
      exact ⟨vs, h, r.kept hx⟩
theorem Ext.adopt {H0 : Hp} {ρ0 : List Addr} {a : Addr} (e : Ext ρ0 H0 ρ H) (ha : H0 a = none) : Ext ρ0 H0 (ρ ++ [a]) H where
  pre := fun l b h => by
    have q := e.pre l b h
    rw [List.getElem?_append_left (List.getElem?_eq_some_iff.mp q).1]
    exact q
  tups := e.tups
  frzs := e.frzs
  keep := e.keep
  new := fun b h => by
    rcases List.mem_append.mp h with h | h
    · exact e.new b h
    · have z : b = a := by simpa using h
      subst z
      exact .inr ha
theorem Rel.addr (R : Rel p ρ H st) {l : Nat} {a b : Addr} (h : ρ[l]? = some a) (h' : ρ[l]? = some b) : a = b := Option.some.inj (h.symm.trans h')
end

/-! ### results -/
/-- an exception's own dict: none, or its fields by their names -/
def ExcD (p : Pm) (ρ : List Addr) (H : Hp) (fs : List D) (dd : Option Addr) : Prop := match dd with
  | none => fs = []
  | some a => ∃ r c, fs = [r, c] ∧ ∃ v u, H a = some (.xd [("row", v), ("column", u)]) ∧ Rep p.K ρ H v r ∧ Rep p.K ρ H u c
/-- what is to hold of a result -/
def Got {α : Type} (p : Pm) (ρ : List Addr) (H : Hp) (r : Res α) (Q : α → Sto → List Addr → Hp → Prop) (W : Value → Option Addr → Hp → Prop) : Prop := match r with
  | .ok a st => ∀ ρ' H', Ext ρ H ρ' H' → Rel p ρ' H' st → Q a st ρ' H'
  | .exc c fs st => ∀ ρ' H' dd, Ext ρ H ρ' H' → Rel p ρ' H' st → ExcD p ρ' H' fs dd → W (p.cv c) dd H'
  | .bad => False
section
variable {α β : Type} {p : Pm} {ρ ρ1 : List Addr} {H H1 : Hp} {W : Value → Option Addr → Hp → Prop}
theorem Got.step {r : Res α} {Q : α → Sto → List Addr → Hp → Prop} (e : Ext ρ H ρ1 H1) (g : Got p ρ H r Q W) : Got p ρ1 H1 r Q W := by
  cases r with
  | ok a st => exact fun ρ' H' e' R => g ρ' H' (e.trans e') R
  | exc c fs st => exact fun ρ' H' dd e' R x => g ρ' H' dd (e.trans e') R x
  | bad => exact g
theorem Got.mono {r : Res α} {Q Q' : α → Sto → List Addr → Hp → Prop} (g : Got p ρ H r Q W) (h : ∀ a st ρ' H', Ext ρ H ρ' H' → Rel p ρ' H' st → Q a st ρ' H' → Q' a st ρ' H') : Got p ρ H r Q' W := by
  cases r with
  | ok a st => exact fun ρ' H' e' R => h a st ρ' H' e' R (g ρ' H' e' R)
  | exc c fs st => exact g
  | bad => exact g
theorem Got.bind {r : Res α} {f : α → Sto → Res β} {Q : β → Sto → List Addr → Hp → Prop} (g : Got p ρ H (r.bind f) Q W) : Got p ρ H r (fun a st ρ1 H1 => Ext ρ H ρ1 H1 ∧ Rel p ρ1 H1 st ∧ Got p ρ1 H1 (f a st) Q W) W := by
  cases r with
  | ok a st => exact fun ρ' H' e' R => ⟨e', R, g.step e'⟩
  | exc c fs st => exact g
  | bad => exact g
theorem Got.here {a : α} {st : Sto} {Q : α → Sto → List Addr → Hp → Prop} (R : Rel p ρ H st) (g : Got p ρ H (.ok a st) Q W) : Q a st ρ H := g ρ H .refl R
theorem Got.of {o : Option α} {st : Sto} {Q : α → Sto → List Addr → Hp → Prop} (R : Rel p ρ H st) (g : Got p ρ H (Res.of o st) Q W) : ∃ a, o = some a ∧ Q a st ρ H := by
  cases o with
  | none => exact g.elim
  | some a => exact ⟨a, rfl, Got.here R g⟩
end
/-- the slots -/
structure EnvR (K : PySem.W.Frag) (ρ : List Addr) (H : Hp) (σ : L2.St) (env : En) : Prop where
  len : σ.length = env.length
  val : ∀ (i : Nat) d, env[i]? = some (some d) → ∃ v, σ[i]? = some (some v) ∧ Rep K ρ H v d
theorem En.val_some {env : En} {i : Nat} {d : D} (h : env.val i = some d) : env[i]? = some (some d) := by
  unfold En.val at h
  cases e : env[i]? with
  | none => rw [e] at h; cases h
  | some o => rw [e] at h; simp at h; rw [h]
section
variable {K : PySem.W.Frag} {ρ ρ1 : List Addr} {H H1 : Hp} {σ : L2.St} {env : En}
theorem EnvR.ext (e : Ext ρ H ρ1 H1) (h : EnvR K ρ H σ env) : EnvR K ρ1 H1 σ env := ⟨h.len, fun i d hd => let ⟨v, a, b⟩ := h.val i d hd; ⟨v, a, b.ext e⟩⟩
theorem EnvR.set (h : EnvR K ρ H σ env) {v : V} {d : D} (r : Rep K ρ H v d) (i : Nat) : EnvR K ρ H (σ.set i (some v)) (env.set i (some d)) := by
  refine ⟨by simp [h.len], fun j e he => ?_⟩
  by_cases hj : i = j
  · subst hj
    by_cases hi : i < env.length
    · rw [List.getElem?_set_self hi] at he
      cases he
      exact ⟨v, List.getElem?_set_self (by rw [h.len]; exact hi), r⟩
    · rw [List.getElem?_eq_none (by simpa using hi)] at he; cases he
  · rw [List.getElem?_set_ne hj] at he
    obtain ⟨u, a, b⟩ := h.val j e he
    exact ⟨u, by rw [List.getElem?_set_ne hj]; exact a, b⟩
theorem EnvR.clr (h : EnvR K ρ H σ env) (i : Nat) : EnvR K ρ H (σ.set i none) (env.set i none) := by
  refine ⟨by simp [h.len], fun j e he => ?_⟩
  by_cases hj : i = j
  · subst hj
    by_cases hi : i < env.length
    · rw [List.getElem?_set_self hi] at he
      cases he
    · rw [List.getElem?_eq_none (by simpa using hi)] at he; cases he
  · rw [List.getElem?_set_ne hj] at he
    obtain ⟨u, a, b⟩ := h.val j e he
    exact ⟨u, by rw [List.getElem?_set_ne hj]; exact a, b⟩
theorem EnvR.wipe (h : EnvR K ρ H σ env) : ∀ vs : List Nat, EnvR K ρ H (L2.wipe σ vs) (Ev.wipe env vs)
  | [] => h
  | v :: vs => (EnvR.wipe h vs).clr v
end
end Ev

/-! The operators: what the evaluator does on data, the model does on what stands for them. -/
namespace Ev
open PySem PySem.Spec PyProof.Rows L2

theorem line_eq : sizeLine = line := by rw [sizeLine_eq]; rfl

/-! ### data -/
section
variable {p : Pm} {ρ : List Addr} {H : Hp} {st : Sto}
theorem dp_ints {K : PySem.W.Frag} : ∀ ns : List Int, DpAll K H (ns.map V.int) (ns.map PyData.int)
  | [] => .nil
  | n :: ns => .cons (.int n) (dp_ints ns)
mutual
theorem toP_dp (R : Rel p ρ H st) : ∀ (n : Nat) (d : D) (x : PyData) (v : V), toP st n d = some x → Rep p.K ρ H v d → Dp p.K H v x
  | n, .non, x, v, h, r => by cases r; simp [toP] at h; subst h; exact .non
  | n, .bl b, x, v, h, r => by cases r; simp [toP] at h; subst h; exact .bl b
  | n, .int i, x, v, h, r => by cases r; simp [toP] at h; subst h; exact .int i
  | n, .str z, x, v, h, r => by cases r; simp [toP] at h; obtain ⟨_, rfl⟩ := h; exact .str z
  | 0, .tup ds, x, v, h, r => by simp [toP] at h
  | n + 1, .tup ds, x, v, h, r => by
    cases r with
    | tup h1 h2 =>
      simp [toP] at h
      obtain ⟨xs, e, rfl⟩ := h
      exact .tup h1 (toPs_dp R n ds xs _ e h2)
  | 0, .ref l, x, v, h, r => by simp [toP] at h
  | n + 1, .ref l, x, v, h, r => by
    cases r with
    | ref hl =>
      rw [toP] at h
      cases e : st[l]? with
      | none => rw [e] at h; cases h
      | some o =>
        rw [e] at h
        cases o with
        | dct kvs => cases h
        | lst ds =>
          simp at h
          obtain ⟨xs, e', rfl⟩ := h
          obtain ⟨vs, h1, h2⟩ := R.obj l _ _ hl e
          exact .lst (SqL.of h1) (toPs_dp R n ds xs _ e' h2)
  | 0, .scr ns, x, v, h, r => by simp [toP] at h
  | n + 1, .scr ns, x, v, h, r => by
    cases r with
    | scr h1 =>
      simp [toP] at h
      subst h
      exact .lst h1.sq (dp_ints ns)
theorem toPs_dp (R : Rel p ρ H st) : ∀ (n : Nat) (ds : List D) (xs : List PyData) (vs : List V), toPs st n ds = some xs → Reps p.K ρ H vs ds → DpAll p.K H vs xs
  | n, [], xs, vs, h, r => by cases r; simp [toPs] at h; subst h; exact .nil
  | n, d :: ds, xs, vs, h, r => by
    cases r with
    | cons r1 r2 =>
      rw [toPs] at h
      cases e1 : toP st n d with
      | none => rw [e1] at h; cases h
      | some x =>
        cases e2 : toPs st n ds with
        | none => rw [e1, e2] at h; cases h
        | some ys =>
          rw [e1, e2] at h
          cases h
          exact .cons (toP_dp R n d x _ e1 r1) (toPs_dp R n ds ys _ e2 r2)
end
mutual
theorem toP_shape : ∀ (n : Nat) (d : D) (x : PyData), toP st n d = some x → x.canLay0 = true ∧ x.depth ≤ n
  | n, .non, x, h => by simp [toP] at h; subst h; simp [PyData.canLay0, PyData.depth]
  | n, .bl b, x, h => by simp [toP] at h; subst h; simp [PyData.canLay0, PyData.depth]
  | n, .int i, x, h => by simp [toP] at h; subst h; simp [PyData.canLay0, PyData.depth]
  | n, .str z, x, h => by simp [toP] at h; obtain ⟨h, rfl⟩ := h; simp [PyData.canLay0, PyData.depth, h]
  | 0, .tup ds, x, h => by simp [toP] at h
  | n + 1, .tup ds, x, h => by
    simp [toP] at h
    obtain ⟨xs, e, rfl⟩ := h
    have q := toPs_shape n ds xs e
    simp [PyData.canLay0, PyData.depth, q]
  | 0, .ref l, x, h => by simp [toP] at h
  | n + 1, .ref l, x, h => by
    rw [toP] at h
    cases e : st[l]? with
    | none => rw [e] at h; cases h
    | some o =>
      rw [e] at h
      cases o with
      | dct kvs => cases h
      | lst ds =>
        simp at h
        obtain ⟨xs, e', rfl⟩ := h
        have q := toPs_shape n ds xs e'
        simp [PyData.canLay0, PyData.depth, q]
  | 0, .scr ns, x, h => by simp [toP] at h
  | n + 1, .scr ns, x, h => by
    simp [toP] at h
    subst h
    have a : PyData.canLayAll0 (ns.map .int) = true := by
      induction ns with
      | nil => rfl
      | cons m ms ih => simp [PyData.canLayAll0, PyData.canLay0, ih]
    have b : PyData.depthAll (ns.map .int) = 0 := PySem.W.depth_ints ns
    simp [PyData.canLay0, PyData.depth, a, b]
theorem toPs_shape : ∀ (n : Nat) (ds : List D) (xs : List PyData), toPs st n ds = some xs → PyData.canLayAll0 xs = true ∧ PyData.depthAll xs ≤ n
  | n, [], xs, h => by simp [toPs] at h; subst h; simp [PyData.canLayAll0, PyData.depthAll]
  | n, d :: ds, xs, h => by
    rw [toPs] at h
    cases e1 : toP st n d with
    | none => rw [e1] at h; cases h
    | some x =>
      cases e2 : toPs st n ds with
      | none => rw [e1, e2] at h; cases h
      | some ys =>
        rw [e1, e2] at h
        cases h
        have q1 := toP_shape n d x e1
        have q2 := toPs_shape n ds ys e2
        simp only [PyData.canLayAll0, PyData.depthAll, q1.1, q2.1, Bool.and_self, true_and]
        omega
end
theorem toP_shaped {d : D} {x : PyData} (h : toP st deep d = some x) : SeqAt.shaped x = true := by
  have q := toP_shape _ _ _ h
  unfold SeqAt.shaped
  rw [q.1, Bool.true_and]
  exact decide_eq_true (Nat.le_trans q.2 (by decide))
/-- the items of what is a sequence -/
theorem seq_rep (R : Rel p ρ H st) {x : D} {xs : List D} {v : V} (h : seqOf st x = some xs) (r : Rep p.K ρ H v x) : ∃ a vs, v = .ref a ∧ Reps p.K ρ H vs xs ∧ (SqL p.K H a vs ∨ SqT p.K H a vs) := by
  cases r with
  | non => cases h
  | bl => cases h
  | int => cases h
  | str => cases h
  | tup h1 h2 => simp [seqOf] at h; subst h; exact ⟨_, _, rfl, h2, .inr h1⟩
  | ref hl =>
    rw [seqOf] at h
    rename_i l a
    cases e : st[l]? with
    | none => rw [e] at h; cases h
    | some o =>
      rw [e] at h
      cases o with
      | dct kvs => cases h
      | lst ds =>
        cases h
        obtain ⟨vs, h1, h2⟩ := R.obj l _ _ hl e
        exact ⟨_, vs, rfl, h2, .inl (SqL.of h1)⟩
  | scr h1 => simp [seqOf] at h; subst h; exact ⟨_, _, rfl, Reps.ints, .inl h1.sq⟩
theorem lis_rep (R : Rel p ρ H st) {x : D} {xs : List D} {v : V} (h : lisOf st x = some xs) (r : Rep p.K ρ H v x) : ∃ a vs, v = .ref a ∧ Reps p.K ρ H vs xs ∧ SqL p.K H a vs := by
  cases r with
  | tup h1 h2 => cases h
  | non => cases h
  | bl => cases h
  | int => cases h
  | str => cases h
  | ref hl =>
    rw [lisOf, seqOf] at h
    · rename_i l a
      cases e : st[l]? with
      | none => rw [e] at h; cases h
      | some o =>
        rw [e] at h
        cases o with
        | dct kvs => cases h
        | lst ds =>
          cases h
          obtain ⟨vs, h1, h2⟩ := R.obj l _ _ hl e
          exact ⟨_, vs, rfl, h2, SqL.of h1⟩
    · intro ds z; cases z
  | scr h1 => simp [lisOf, seqOf] at h; subst h; exact ⟨_, _, rfl, Reps.ints, h1.sq⟩
end

/-! ### operators on data -/
abbrev pm (X : Cx) (cv : Nat → Value) : Pm := ⟨X.prog, X.w, X.K, cv⟩
/-- an operator that the evaluator knows as m -/
def OpD (p : Pm) (m : D → D → Sto → Res D) : R2 := fun x y H Q => ∃ W ρ st d e, Rel p ρ H st ∧ Rep p.K ρ H x d ∧ Rep p.K ρ H y e ∧ Got p ρ H (m d e st) (fun r _ ρ' H' => ∀ v, Rep p.K ρ' H' v r → Q v H') W
section
variable {X : Cx} {cv : Nat → Value} {pins : List (Addr × Obj)} {σ : L2.St} {H : Hp} {s : Shared} {ρ : List Addr} {st : Sto}
/-- a new list -/
theorem new_list (R : Rel (pm X cv) ρ H st) {vs : List V} {ds : List D} {a : Addr} {Q : VK} {W : Value → Option Addr → Hp → Prop} (r : Reps X.K ρ H vs ds) (hn : H a = none) (g : Got (pm X cv) ρ H (new (.lst ds) st) (fun r _ ρ' H' => ∀ v, Rep X.K ρ' H' v r → Q v H') W) : Q (.ref a) (upd H a (.lst vs)) :=
  g _ _ (Ext.laid hn _) (R.laid hn ⟨vs, upd_same, r.ext (Ext.laid hn _)⟩) _ (Rep.new R)
theorem new_listL (R : Rel (pm X cv) ρ H st) {vs : List V} {ds : List D} {a : Addr} {Q : VK} {W : Value → Option Addr → Hp → Prop} (r : Reps X.K ρ H vs ds) (hn : H a = none) (g : Got (pm X cv) ρ H (newL ds st) (fun r _ ρ' H' => ∀ v, Rep X.K ρ' H' v r → Q v H') W) : Q (.ref a) (upd H a (.lst vs)) := by
  unfold newL at g
  split at g
  · exact new_list R r hn g
  · exact g.elim
theorem newL_len {ds : List D} {Q : D → Sto → List Addr → Hp → Prop} {W : Value → Option Addr → Hp → Prop} (g : Got (pm X cv) ρ H (newL ds st) Q W) : ds.length ≤ sizeLine := by
  unfold newL at g
  split at g
  · rw [line_eq]; assumption
  · exact g.elim
/-- list + list, whatever slots the two bear -/
theorem add_any (l : Addr) (xs : Array Value) (n : Nat) (sl : Array (Option Value)) (b : Addr) (ys : Array Value) (m : Nat) (sl2 : Array (Option Value)) (hz : xs.size + ys.size ≤ sizeLine) :
    Meets (Builtin.«list.__add__» ⟨[.ref l, .ref b], []⟩) (fun _ R s => s.heap.get? l = some ⟨.type "list", none, .seq xs n, sl⟩ ∧ s.heap.get? b = some ⟨.type "list", none, .seq ys m, sl2⟩ ∧
      R (.ok (.ret (Value.ref s.heap.objs.size))) { s with heap := s.heap.push { cls := Value.type "list", data := Data.seq (xs ++ ys) }, toks := s.toks }) :=
  .of_wp fun prog w A R s h => by
    obtain ⟨hp, g, d, tk, os⟩ := s
    obtain ⟨hl, hb, h⟩ := h
    have q1 := sub_list_list
    wp_walk using wpAny_loadPart' hl, wpAny_loadPart' hb
    exact ⟨_, rfl, h⟩
theorem cat_lists {a b : Addr} {xs ys : List V} {Q : Value → Shared → Prop} (I : Inv X pins σ H s) (ha : SqL X.K H a xs) (hb : SqL X.K H b ys) (hz : xs.length + ys.length ≤ sizeLine)
    (h : ∀ c s', H c = none → Inv X pins σ (upd H c (.lst (xs ++ ys))) s' → Q (.ref c) s') : wpAny (model X.prog X.w) X.A (binaryOp .Add (.ref a) (.ref b)) Q X.xe s := by
  obtain ⟨its, r, ⟨o, n, e, hc, hd, hdt⟩, _⟩ := I.list ha
  obtain ⟨its2, r2, ⟨o2, n2, e2, hc2, hd2, hdt2⟩, _⟩ := I.list hb
  obtain ⟨cls, dd, data, sl⟩ := o
  obtain ⟨cls2, dd2, data2, sl2⟩ := o2
  simp only at hc hd hdt hc2 hd2 hdt2
  subst hc hd hdt hc2 hd2 hdt2
  have l1 := r.length
  have l2 := r2.length
  have ea : its.toArray ++ its2.toArray = (its ++ its2).toArray := by simp
  refine concat_meets ⟨_, e, rfl⟩ ⟨_, e2, rfl⟩ noFill_list_add seq_list_add F.slot_list_add F.entry_list_add (F.args_list_add_2 _ _)
    (add_any a its.toArray n sl b its2.toArray n2 sl2 (by rw [List.size_toArray, List.size_toArray]; omega)) ⟨e, e2, ?_⟩
  rw [ea]
  exact h _ _ I.fresh (I.lnew (t' := s.toks) (r.append r2) (by rw [List.length_append]; omega))
theorem ints2_some {x y : D} {i j : Int} (h : ints2 x y = some (i, j)) : x = .int i ∧ y = .int j := by
  unfold ints2 at h
  split at h
  · cases h; exact ⟨rfl, rfl⟩
  · cases h
theorem mulOk_ok {i j : Int} (h : mulOk i j = true) : IntMulOk i j := by
  unfold mulOk at h
  rw [Bool.or_eq_true, Bool.or_eq_true] at h
  rcases h with (h | h) | h
  · exact CMul.ok (.inl (of_decide_eq_true h))
  · exact CMul.ok (.inr (of_decide_eq_true h))
  · exact CMulW.ok (of_decide_eq_true (p := i.natAbs.log2 + j.natAbs.log2 < 1000000) h)
theorem op_bin (op : Operator) : OpR X (binaryOp op) (OpD (pm X cv) (bin op)) := by
  intro pins s σ H x y v u Q I rx ry h
  obtain ⟨W, ρ, st, d, e, R, r1, r2, g⟩ := h
  unfold bin at g
  cases hi : ints2 d e with
  | some q =>
    obtain ⟨i, j⟩ := q
    rw [hi] at g
    obtain ⟨rfl, rfl⟩ := ints2_some hi
    cases r1
    cases r2
    have fin : ∀ k : Int, Got (pm X cv) ρ H (.ok (.int k) st) (fun r _ ρ' H' => ∀ v, Rep X.K ρ' H' v r → Q v H') W → Q (.int k) H := fun k g => Got.here R g _ (.int k)
    cases op <;> simp only [binI] at g <;> try exact g.elim
    case Add => exact op_add pins s σ H _ _ v u Q I rx ry ⟨i, j, rfl, rfl, fin _ g⟩
    case Sub => exact op_sub pins s σ H _ _ v u Q I rx ry ⟨i, j, rfl, rfl, fin _ g⟩
    case Mult =>
      split at g
      · rename_i hm
        obtain ⟨t, rfl⟩ := rx
        obtain ⟨t', rfl⟩ := ry
        exact mul_int ⟨.int _, H, I.tok _, ⟨_, rfl⟩, fin _ g⟩ (mulOk_ok hm)
      · exact g.elim
    case Mod =>
      split at g
      · rename_i hm
        exact op_mod pins s σ H _ _ v u Q I rx ry ⟨i, j, rfl, rfl, hm, fin _ g⟩
      · exact g.elim
    case Pow =>
      split at g
      · rename_i hm
        exact op_pow pins s σ H _ _ v u Q I rx ry ⟨i, j, rfl, rfl, of_decide_eq_true (p := 0 ≤ j ∧ j ≤ 1000000 ∧ i.natAbs < 2 ^ 64) hm, fin _ g⟩
      · exact g.elim
    case LShift =>
      split at g
      · rename_i hm
        exact op_shl pins s σ H _ _ v u Q I rx ry ⟨i, j, rfl, rfl, of_decide_eq_true (p := 0 ≤ j ∧ j ≤ 1000000 ∧ i.natAbs < 2 ^ 64) hm, fin _ g⟩
      · exact g.elim
    case RShift =>
      split at g
      · rename_i hm
        exact op_shr pins s σ H _ _ v u Q I rx ry ⟨i, j, rfl, rfl, hm, fin _ g⟩
      · exact g.elim
    case BitOr => exact op_or pins s σ H _ _ v u Q I rx ry ⟨i, j, rfl, rfl, fin _ g⟩
    case BitXor => exact op_xor pins s σ H _ _ v u Q I rx ry ⟨i, j, rfl, rfl, fin _ g⟩
    case BitAnd => exact op_and pins s σ H _ _ v u Q I rx ry ⟨i, j, rfl, rfl, fin _ g⟩
    case FloorDiv =>
      split at g
      · rename_i hm
        exact op_fdivW pins s σ H _ _ v u Q I rx ry ⟨i, j, rfl, rfl, of_decide_eq_true (p := 0 < j ∧ j.natAbs.log2 < 9000) hm, fin _ g⟩
      · exact g.elim
  | none =>
    rw [hi] at g
    simp only at g
    split at g
    · rename_i xs ys hx hy
      obtain ⟨a, vs, rfl, q1, sa⟩ := lis_rep R hx r1
      obtain ⟨b, ws, rfl, q2, sb⟩ := lis_rep R hy r2
      cases rx
      cases ry
      have hz := newL_len g
      rw [List.length_append] at hz
      exact cat_lists I sa sb (by rw [q1.length, q2.length]; exact hz) fun c s' hc I' => ⟨.ref c, _, I', rfl, new_listL R (q1.append q2) hc g⟩
    · exact g.elim
end
end Ev

/-! Dicts whose keys are tuples. -/
namespace Ev
open PySem PySem.Spec PyProof.Rows L2

mutual
theorem toK_inj : ∀ (n m : Nat) (d e : D), inKey n d = true → inKey m e = true → toK d = toK e → d = e
  | n, m, .int i, e, h, h', q => by
    cases e <;> simp [toK] at q
    · rw [q]
    all_goals (cases m <;> simp [inKey] at h')
  | n, m, .str x, e, h, h', q => by
    cases e <;> simp [toK] at q
    · rw [q]
    all_goals (cases m <;> simp [inKey] at h')
  | n, m, .tup ds, e, h, h', q => by
    cases e <;> simp [toK] at q
    case tup es =>
      cases n with
      | zero => simp [inKey] at h
      | succ n =>
        cases m with
        | zero => simp [inKey] at h'
        | succ m =>
          rw [inKey] at h h'
          rw [toKs_inj n m ds es h h' q]
    all_goals (cases m <;> simp [inKey] at h')
  | n, m, .non, e, h, h', q => by cases n <;> simp [inKey] at h
  | n, m, .bl _, e, h, h', q => by cases n <;> simp [inKey] at h
  | n, m, .ref _, e, h, h', q => by cases n <;> simp [inKey] at h
  | n, m, .scr _, e, h, h', q => by cases n <;> simp [inKey] at h
theorem toKs_inj : ∀ (n m : Nat) (ds es : List D), inKeys n ds = true → inKeys m es = true → toKs ds = toKs es → ds = es
  | n, m, [], es, h, h', q => by cases es <;> simp [toKs] at q; rfl
  | n, m, d :: ds, es, h, h', q => by
    cases es with
    | nil => simp [toKs] at q
    | cons e es =>
      simp only [toKs, List.cons.injEq] at q
      rw [inKeys, Bool.and_eq_true] at h h'
      rw [toK_inj n m d e h.1 h'.1 q.1, toKs_inj n m ds es h.2 h'.2 q.2]
end
theorem isKey_in {d : D} (h : isKey d = true) : inKey 8 d = true := by
  cases d <;> simp [isKey] at h
  simpa [inKey] using h
theorem key_inj {d e : D} (h : isKey d = true) (h' : isKey e = true) (q : toK d = toK e) : d = e := toK_inj 8 8 d e (isKey_in h) (isKey_in h') q

section
variable {X : Cx} {cv : Nat → Value} {pins : List (Addr × Obj)} {σ : L2.St} {H : Hp} {s : Shared} {ρ : List Addr} {st : Sto}
mutual
theorem rep_key (I : Inv X pins σ H s) : ∀ (n : Nat) (d : D) (v : V) (u : Value), inKey n d = true → Rep X.K ρ H v d → RelV v u → NestedIs s.heap (toK d) u ∧ (toK d).depth ≤ n
  | n, .int i, v, u, h, r, ru => by
    cases r
    obtain ⟨t, rfl⟩ := ru
    exact ⟨.int i t, by simp [toK, NestedKey.depth]⟩
  | n, .str x, v, u, h, r, ru => by
    cases r
    obtain ⟨t, rfl⟩ := ru
    exact ⟨.text x t, by simp [toK, NestedKey.depth]⟩
  | 0, .tup ds, v, u, h, r, ru => by simp [inKey] at h
  | n + 1, .tup ds, v, u, h, r, ru => by
    cases r with
    | tup h1 h2 =>
      cases ru
      rw [inKey] at h
      obtain ⟨its, rv, ⟨o, e1, e2, m, e3⟩, _⟩ := I.tuple h1
      obtain ⟨q1, q2⟩ := rep_keys I n ds _ its h h2 rv
      refine ⟨.tup e1 e2 e3 (by simpa using q1), ?_⟩
      simp only [toK, NestedKey.depth]
      omega
  | n, .non, v, u, h, r, ru => by cases n <;> simp [inKey] at h
  | n, .bl _, v, u, h, r, ru => by cases n <;> simp [inKey] at h
  | n, .ref _, v, u, h, r, ru => by cases n <;> simp [inKey] at h
  | n, .scr _, v, u, h, r, ru => by cases n <;> simp [inKey] at h
theorem rep_keys (I : Inv X pins σ H s) : ∀ (n : Nat) (ds : List D) (vs : List V) (us : List Value), inKeys n ds = true → Reps X.K ρ H vs ds → Vals vs us → NestedAll s.heap (toKs ds) us ∧ NestedKey.depthAll (toKs ds) ≤ n
  | n, [], vs, us, h, r, ru => by
    cases r
    cases ru
    exact ⟨.nil, by simp [toKs, NestedKey.depthAll]⟩
  | n, d :: ds, vs, us, h, r, ru => by
    cases r with
    | cons r1 r2 =>
      cases ru with
      | cons u1 u2 =>
        rw [inKeys, Bool.and_eq_true] at h
        obtain ⟨a1, a2⟩ := rep_key I n d _ _ h.1 r1 u1
        obtain ⟨b1, b2⟩ := rep_keys I n ds _ _ h.2 r2 u2
        refine ⟨.cons a1 b1, ?_⟩
        simp only [toKs, NestedKey.depthAll]
        omega
end
theorem key_is (I : Inv X pins σ H s) {d : D} {v : V} {u : Value} (h : isKey d = true) (r : Rep X.K ρ H v d) (ru : RelV v u) : ∃ a, v = .ref a ∧ u = .ref a ∧ (nestedKind X.prog X.w).is s.heap (toK d) a := by
  cases d <;> simp [isKey] at h
  cases r with
  | tup h1 h2 =>
    cases ru
    obtain ⟨q1, q2⟩ := rep_key (X := X) I 8 (.tup _) (.ref _) (.ref _) (by simpa [inKey] using h) (.tup h1 h2) rfl
    exact ⟨_, rfl, rfl, q1, q2⟩
/-- a dict of the store, as the library tells it -/
theorem dct_is (I : Inv X pins σ H s) {a : Addr} {kvs : List (D × D)} (h : DctR (pm X cv) ρ H a kvs) :
    ∃ xs, s.heap.DictOfH (nestedKind X.prog X.w) a xs ∧ Paired (EntR (pm X cv) ρ H) kvs xs ∧ (a == sysModules) = false ∧ kvs.length ≤ sizeLine ∧ xs.length = kvs.length := by
  obtain ⟨o, xs, es, ep, h1, h2, h3, h4, h5, h6, h7, h8⟩ := h
  obtain ⟨q, _, _⟩ := I.hok a _ h1
  refine ⟨xs, ⟨o, es, ep, q, h4, h5, h6, fun x hx => ?_, h7⟩, h8, h2, h3, (Paired.length h8).symm⟩
  have key : ∀ {kvs : List (D × D)} {xs : List (NestedKey × Addr × Value)}, Paired (EntR (pm X cv) ρ H) kvs xs → x ∈ xs → (nestedKind X.prog X.w).is s.heap x.1 x.2.1 := by
    intro kvs xs hp
    induction hp with
    | nil => intro h; cases h
    | cons r _ ih =>
      intro h
      rcases List.mem_cons.mp h with rfl | h
      · obtain ⟨k1, k2, k3, _⟩ := r
        obtain ⟨b, e1, e2, e3⟩ := key_is I k1 k3 rfl
        cases e2
        rw [k2]
        exact e3
      · exact ih h
  exact key h8 hx
theorem look {kvs : List (D × D)} {xs : List (NestedKey × Addr × Value)} {k : D} (hk : isKey k = true) (hp : Paired (EntR (pm X cv) ρ H) kvs xs) :
    (dGet kvs k = none ∧ atKey xs (toK k) = none) ∨ ∃ d b u v, dGet kvs k = some d ∧ atKey xs (toK k) = some (b, u) ∧ RelV v u ∧ Rep X.K ρ H v d := by
  induction hp with
  | nil => exact .inl ⟨rfl, rfl⟩
  | cons r _ ih =>
    rename_i kv x kvs xs _
    obtain ⟨k1, k2, k3, v, k4, k5⟩ := r
    by_cases e : kv.1 = k
    · refine .inr ⟨kv.2, x.2.1, x.2.2, v, by simp [dGet, e], by simp [atKey, k2, e], k4, k5⟩
    · have e' : x.1 ≠ toK k := fun z => e (key_inj k1 hk (k2.symm.trans z))
      rcases ih with ⟨a, b⟩ | ⟨d, b, u, w, a1, a2, a3⟩
      · exact .inl ⟨by simpa [dGet, e] using a, by simpa [atKey, e'] using b⟩
      · exact .inr ⟨d, b, u, w, by simpa [dGet, e] using a1, by simpa [atKey, e'] using a2, a3⟩
theorem paired_append {α β : Type} {F : α → β → Prop} : ∀ {l1 l2 : List α} {m1 m2 : List β}, Paired F l1 m1 → Paired F l2 m2 → Paired F (l1 ++ l2) (m1 ++ m2)
  | _, _, _, _, .nil, s => s
  | _, _, _, _, .cons r t, s => .cons r (paired_append t s)
theorem paired_set {kvs : List (D × D)} {xs : List (NestedKey × Addr × Value)} {k d : D} {b : Addr} {u : Value} (hp : Paired (EntR (pm X cv) ρ H) kvs xs) (hn : EntR (pm X cv) ρ H (k, d) (toK k, b, u)) :
    Paired (EntR (pm X cv) ρ H) (dSet kvs k d) (storedH xs (toK k) b u) := by
  have hk : isKey k = true := hn.1
  unfold dSet storedH
  have e : (kvs.any fun q => decide (q.1 = k)) = (atKey xs (toK k)).isSome := by
    rcases look (X := X) hk hp with ⟨a, c⟩ | ⟨d', b', u', v', a, c, _⟩
    · rw [c]
      unfold dGet at a
      rw [Option.map_eq_none_iff, List.find?_eq_none] at a
      simpa using a
    · rw [c]
      unfold dGet at a
      rw [Option.map_eq_some_iff] at a
      obtain ⟨q, a, _⟩ := a
      simp only [Option.isSome_some, List.any_eq_true]
      exact ⟨q, List.mem_of_find?_eq_some a, by have := List.find?_some a; simpa using this⟩
  rw [e]
  clear e
  split
  · rename_i hsome
    clear hsome
    induction hp with
    | nil => exact .nil
    | cons r _ ih =>
      rename_i kv x kvs xs _
      rw [List.map_cons, List.map_cons]
      refine .cons ?_ ih
      obtain ⟨k1, k2, k3, v, k4, k5⟩ := r
      obtain ⟨_, _, _, w, n4, n5⟩ := hn
      by_cases e : kv.1 = k
      · rw [if_pos e]
        unfold putAt
        rw [if_pos (by rw [k2, e])]
        exact ⟨k1, k2, k3, w, n4, n5⟩
      · rw [if_neg e]
        unfold putAt
        rw [if_neg (fun z => e (key_inj k1 hk (k2.symm.trans z)))]
        exact ⟨k1, k2, k3, v, k4, k5⟩
  · exact paired_append hp (.cons hn .nil)
theorem paired_del {kvs : List (D × D)} {xs : List (NestedKey × Addr × Value)} {k : D} (hk : isKey k = true) (hp : Paired (EntR (pm X cv) ρ H) kvs xs) : Paired (EntR (pm X cv) ρ H) (dDel kvs k) (withoutH xs (toK k)) := by
  unfold dDel withoutH
  induction hp with
  | nil => exact .nil
  | cons r _ ih =>
    rename_i kv x kvs xs _
    have k1 := r.1
    have k2 := r.2.1
    by_cases e : kv.1 = k
    · have e' : x.1 = toK k := by rw [k2, e]
      simpa [List.filter_cons, e, e'] using ih
    · have e' : x.1 ≠ toK k := fun z => e (key_inj k1 hk (k2.symm.trans z))
      simp only [List.filter_cons, e, e', ne_eq, not_false_eq_true, decide_true, if_true]
      exact .cons r ih
theorem dSet_length (kvs : List (D × D)) (k v : D) : (dSet kvs k v).length ≤ kvs.length + 1 := by
  unfold dSet
  split <;> simp
theorem dDel_length (kvs : List (D × D)) (k : D) : (dDel kvs k).length ≤ kvs.length := List.length_filter_le _ _
/-- a dict's object known, as the abstract heap has it -/
theorem ext_ok {h : Heap} {a : Addr} {o : Obj} {H : Hp} (e : h.get? a = some o) : ObjOk X.prog X.w H h a (.ext fun h => h.get? a = some o) :=
  ⟨e, ⟨o, e⟩, fun _ _ p k => k o p⟩
/-- behind an operation that changed the dict -/
theorem dct_put (I : Inv X pins σ H s) (R : Rel (pm X cv) ρ H st) {l : Nat} {a : Addr} {h' : Heap} {t' : Nat} {xs' : List (NestedKey × Addr × Value)} {kvs kvs' : List (D × D)} (hl : ρ[l]? = some a) (hd : DctR (pm X cv) ρ H a kvs)
    (hm : h'.DictOfH (nestedKind X.prog X.w) a xs') (hs : Heap.SameBut a s.heap h') (hp : Paired (EntR (pm X cv) ρ H) kvs' xs') (hz : kvs'.length ≤ sizeLine) :
    ∃ H', Inv X pins σ H' { s with heap := h', toks := t' } ∧ Rel (pm X cv) ρ H' (st.set l (.dct kvs')) ∧ Ext ρ H ρ H' := by
  obtain ⟨o, xs, es, ep, h1, h2, _⟩ := hd
  obtain ⟨o', es', ep', q1, q2, q3, q4, q5, q6⟩ := hm
  have ha : a ∈ ρ := List.mem_of_getElem? hl
  have hx : Ext ρ H ρ (upd H a (.ext fun h => h.get? a = some o')) := Ext.put ha (by rw [h1]; trivial) _
  obtain ⟨R', _⟩ := R.put (o := .ext fun h => h.get? a = some o') (q := .dct kvs') hl ⟨o', xs', es', ep', upd_same, h2, hz, q2, q3, q4, q6, Paired.mapP hp fun _ _ z => z.ext hx.toPre⟩
  exact ⟨_, I.write (by rw [h1]; trivial) (.inl rfl) (fun b u hb q => (hs.2 b hb).trans q) ⟨_, q1⟩ (ext_ok q1), R', hx⟩
end
end Ev

/-! Comparisons, isinstance, subscripts, slices, calls of built-ins, methods. -/
namespace Ev
open PySem PySem.Spec PyProof.Rows L2

section
variable {X : Cx} {cv : Nat → Value} {pins : List (Addr × Obj)} {σ : L2.St} {H : Hp} {s : Shared} {ρ : List Addr} {st : Sto}
theorem rep_non {K : PySem.W.Frag} {v : V} {d : D} (r : Rep K ρ H v d) : decide (v = .non) = decide (d = .non) := by
  cases r <;> simp
theorem bool_out {b : Bool} {Q : VK} {W : Value → Option Addr → Hp → Prop} (R : Rel (pm X cv) ρ H st) (g : Got (pm X cv) ρ H (.ok (.bl b) st) (fun r _ ρ' H' => ∀ v, Rep X.K ρ' H' v r → Q v H') W) : Q (.bl b) H := Got.here R g _ (.bl b)
theorem toP_none {n : Nat} {d : D} (h : toP st n d = some .none) : d = .non := by
  cases d with
  | non => rfl
  | tup ds =>
    cases n <;> simp [toP] at h
  | ref l =>
    cases n with
    | zero => simp [toP] at h
    | succ n =>
      rw [toP] at h
      split at h
      · simp at h
      · cases h
  | scr ns => cases n <;> simp [toP] at h
  | bl b => cases n <;> simp [toP] at h
  | int b => cases n <;> simp [toP] at h
  | str b => cases n <;> simp [toP] at h
/-- x < y on data -/
theorem lt_ok (hu : X.A.units + 64 < cLine) {d e : D} {v u : V} {a b : Value} {k : Bool} (I : Inv X pins σ H s) (R : Rel (pm X cv) ρ H st) (h : ltD st d e = some k) (r1 : Rep X.K ρ H v d) (r2 : Rep X.K ρ H u e) (q1 : RelV v a) (q2 : RelV u b) : SeqAt.RcLt X.A s a b k := by
  unfold ltD at h
  split at h
  · rename_i x y hx hy
    split at h
    · rename_i hc
      cases h
      obtain ⟨as, ra⟩ := Dp.reads I x v a (toP_dp R _ _ _ _ hx r1) q1
      obtain ⟨bs, rb⟩ := Dp.reads I y u b (toP_dp R _ _ _ _ hy r2) q2
      have hd := (toP_shape _ _ _ hx).2
      have hm : min x.depth y.depth ≤ x.depth := Nat.min_le_left _ _
      have h12 : deep = 12 := rfl
      refine PySem.W.rcLt_alike x y X.A s a b as bs ra rb hc.1 (fun z => hc.2 ?_) (by omega)
      subst z
      exact toP_none hx
    · cases h
  · cases h
theorem seq_dp (R : Rel (pm X cv) ρ H st) {y : D} {ys : List D} {bs : List PyData} {v : V} (h : seqOf st y = some ys) (hb : toPs st deep ys = some bs) (r : Rep X.K ρ H v y) : Dp X.K H v (.list bs) ∨ Dp X.K H v (.tuple bs) := by
  obtain ⟨a, vs, rfl, q, hs⟩ := seq_rep R h r
  rcases hs with hs | hs
  · exact .inl (.lst hs (toPs_dp R _ _ _ _ hb q))
  · exact .inr (.tup hs (toPs_dp R _ _ _ _ hb q))
theorem room8 (hu : X.A.units + 74 < cLine) : (nestedKind X.prog X.w).room X.A.in1 := by
  show X.A.units + 1 + 8 < cLine
  omega
theorem dct_rep (R : Rel (pm X cv) ρ H st) {y : D} {kvs : List (D × D)} {v : V} (h : dctOf st y = some kvs) (r : Rep X.K ρ H v y) : ∃ l a, y = .ref l ∧ v = .ref a ∧ ρ[l]? = some a ∧ st[l]? = some (.dct kvs) ∧ DctR (pm X cv) ρ H a kvs := by
  cases y with
  | ref l =>
    cases r with
    | ref hl =>
      rw [dctOf] at h
      cases e : st[l]? with
      | none => rw [e] at h; cases h
      | some o =>
        rw [e] at h
        cases o with
        | lst ds => cases h
        | dct kvs' =>
          cases h
          exact ⟨l, _, rfl, rfl, hl, e, R.obj l _ _ hl e⟩
  | _ => cases h
theorem in_ok (hu : X.A.units + 74 < cLine) {d e : D} {v u : V} {a b : Value} {k : Bool} {Q : Value → Shared → Prop} {E : Value → Shared → Prop} (I : Inv X pins σ H s) (R : Rel (pm X cv) ρ H st) (h : inD st d e = some k) (r1 : Rep X.K ρ H v d) (r2 : Rep X.K ρ H u e) (q1 : RelV v a) (q2 : RelV u b)
    (hq : ∀ tk, Q (.bool k) { s with toks := tk }) : wpAny (model X.prog X.w) X.A (compareOp .In a b) Q E s := by
  unfold inD at h
  cases hd : dctOf st e with
  | some kvs =>
    rw [hd] at h
    simp only at h
    split at h
    · rename_i hk
      cases h
      obtain ⟨l, p, rfl, rfl, hl, _, D⟩ := dct_rep R hd r2
      cases q2
      obtain ⟨c, rfl, rfl, ki⟩ := key_is I hk r1 q1
      obtain ⟨xs, hm, hp, hs, _⟩ := dct_is I D
      refine wpAny_in_heap (room8 hu) ki hs hm ?_
      rcases look (X := X) hk hp with ⟨e1, e2⟩ | ⟨d', b', u', v', e1, e2, _⟩
      · rw [e2]
        rw [e1] at hq
        exact hq _
      · rw [e2]
        rw [e1] at hq
        exact hq _
    · cases h
  | none =>
    rw [hd] at h
    simp only at h
    split at h
    · rename_i x bs hx hb
      cases h
      obtain ⟨ys, hy, hb⟩ := Option.bind_eq_some_iff.mp hb
      obtain ⟨as, ra⟩ := Dp.reads I x v a (toP_dp R _ _ _ _ hx r1) q1
      have hr : X.A.units + 1 + min (PyData.depthAll bs) x.depth < cLine := room_in_shaped (toP_shaped hx) (by omega)
      rcases seq_dp R hy hb r2 with w | w
      · obtain ⟨cs, rc⟩ := Dp.reads I _ u b w q2
        exact SeqAt.in_list_reads rc ra (toPs_shape _ _ _ hb).1 (toP_shape _ _ _ hx).1 hr (hq s.toks)
      · obtain ⟨cs, rc⟩ := Dp.reads I _ u b w q2
        exact SeqAt.in_tuple_reads rc ra (toPs_shape _ _ _ hb).1 (toP_shape _ _ _ hx).1 hr (hq s.toks)
    · cases h
theorem notIn_ok (hu : X.A.units + 74 < cLine) {d e : D} {v u : V} {a b : Value} {k : Bool} {Q : Value → Shared → Prop} {E : Value → Shared → Prop} (I : Inv X pins σ H s) (R : Rel (pm X cv) ρ H st) (h : inD st d e = some k) (r1 : Rep X.K ρ H v d) (r2 : Rep X.K ρ H u e) (q1 : RelV v a) (q2 : RelV u b)
    (hq : ∀ tk, Q (.bool (!k)) { s with toks := tk }) : wpAny (model X.prog X.w) X.A (compareOp .NotIn a b) Q E s := by
  unfold inD at h
  cases hd : dctOf st e with
  | some kvs =>
    rw [hd] at h
    simp only at h
    split at h
    · rename_i hk
      cases h
      obtain ⟨l, p, rfl, rfl, hl, _, D⟩ := dct_rep R hd r2
      cases q2
      obtain ⟨c, rfl, rfl, ki⟩ := key_is I hk r1 q1
      obtain ⟨xs, hm, hp, hs, _⟩ := dct_is I D
      show wpAny (model X.prog X.w) X.A (do return Value.bool (!(← contains _ _))) Q E s
      refine wpAny_bind (wpAny_contains_heap (room8 hu) ki hs hm (wpAny_pure ?_))
      rcases look (X := X) hk hp with ⟨e1, e2⟩ | ⟨d', b', u', v', e1, e2, _⟩
      · rw [e2]
        rw [e1] at hq
        exact hq _
      · rw [e2]
        rw [e1] at hq
        exact hq _
    · cases h
  | none =>
    rw [hd] at h
    simp only at h
    split at h
    · rename_i x bs hx hb
      cases h
      obtain ⟨ys, hy, hb⟩ := Option.bind_eq_some_iff.mp hb
      obtain ⟨as, ra⟩ := Dp.reads I x v a (toP_dp R _ _ _ _ hx r1) q1
      have hr : X.A.units + 1 + min (PyData.depthAll bs) x.depth < cLine := room_in_shaped (toP_shaped hx) (by omega)
      rcases seq_dp R hy hb r2 with w | w
      · obtain ⟨cs, rc⟩ := Dp.reads I _ u b w q2
        exact SeqAt.notIn_list_reads rc ra (toPs_shape _ _ _ hb).1 (toP_shape _ _ _ hx).1 hr (hq s.toks)
      · obtain ⟨cs, rc⟩ := Dp.reads I _ u b w q2
        exact SeqAt.notIn_tuple_reads rc ra (toPs_shape _ _ _ hb).1 (toP_shape _ _ _ hx).1 hr (hq s.toks)
    · cases h
/-- every comparison -/
theorem op_cmp (hu : X.A.units + 74 < cLine) (op : CmpOp) : OpR X (compareOp op) (OpD (pm X cv) fun x y st => (Res.of (cmp op x y st) st).bind fun b st => .ok (.bl b) st) := by
  intro pins s σ H x y v u Q I rx ry h
  obtain ⟨W, ρ, st, d, e, R, r1, r2, g⟩ := h
  dsimp only at g
  cases hk : cmp op d e st with
  | none => rw [hk] at g; exact g.elim
  | some k =>
    rw [hk] at g
    have q : Q (.bl k) H := bool_out R g
    cases op with
    | Eq =>
      simp only [cmp, eqD] at hk
      split at hk
      · rename_i a b hx hy
        cases hk
        exact op_eqD (by omega) pins s σ H x y v u Q I rx ry ⟨a, b, toP_dp R _ _ _ _ hx r1, toP_dp R _ _ _ _ hy r2, toP_shaped hx, toP_shaped hy, q⟩
      · cases hk
    | NotEq =>
      simp only [cmp, eqD] at hk
      split at hk
      · rename_i a b hx hy
        cases hk
        exact op_neD (by omega) pins s σ H x y v u Q I rx ry ⟨a, b, toP_dp R _ _ _ _ hx r1, toP_dp R _ _ _ _ hy r2, toP_shaped hx, toP_shaped hy, q⟩
      · cases hk
    | Lt => exact lt_ok (by omega) I R hk r1 r2 rx ry _ _ _ _ ⟨.bl k, H, I, rfl, q⟩
    | In => exact in_ok hu I R hk r1 r2 rx ry fun tk => ⟨.bl k, H, I.tok tk, rfl, q⟩
    | NotIn =>
      simp only [cmp, Option.map_eq_some_iff] at hk
      obtain ⟨k', hk, rfl⟩ := hk
      exact notIn_ok hu I R hk r1 r2 rx ry fun tk => ⟨.bl (!k'), H, I.tok tk, rfl, q⟩
    | Is =>
      simp only [cmp] at hk
      split at hk
      · rename_i hn
        subst hn
        cases hk
        cases r2
        exact op_isN pins s σ H x _ v u Q I rx ry ⟨rfl, by rw [rep_non r1]; exact q⟩
      · cases hk
    | IsNot =>
      simp only [cmp] at hk
      split at hk
      · rename_i hn
        subst hn
        cases hk
        cases r2
        exact op_notN pins s σ H x _ v u Q I rx ry ⟨rfl, by rw [rep_non r1]; exact q⟩
      · cases hk
    | LtE =>
      simp only [cmp, Option.map_eq_some_iff] at hk
      obtain ⟨⟨i, j⟩, hi, rfl⟩ := hk
      obtain ⟨rfl, rfl⟩ := ints2_some hi
      cases r1
      cases r2
      exact op_le pins s σ H _ _ v u Q I rx ry ⟨i, j, rfl, rfl, q⟩
    | Gt =>
      simp only [cmp, Option.map_eq_some_iff] at hk
      obtain ⟨⟨i, j⟩, hi, rfl⟩ := hk
      obtain ⟨rfl, rfl⟩ := ints2_some hi
      cases r1
      cases r2
      exact op_gt pins s σ H _ _ v u Q I rx ry ⟨i, j, rfl, rfl, q⟩
    | GtE =>
      simp only [cmp, Option.map_eq_some_iff] at hk
      obtain ⟨⟨i, j⟩, hi, rfl⟩ := hk
      obtain ⟨rfl, rfl⟩ := ints2_some hi
      cases r1
      cases r2
      exact op_ge pins s σ H _ _ v u Q I rx ry ⟨i, j, rfl, rfl, q⟩
end
end Ev

/-! min(x, y), max(x, y) of data. -/
namespace Ev
open PySem PySem.Spec PyProof.Rows L2 PySem.W
section
variable {prog : Program} {w : World} {A : Around} {E : Value → Shared → Prop} {s : Shared}
theorem two_reads {a b : Value} {x y : PyData} {as bs : List Addr} {h : Heap} (ra : Reads h a x as) (rb : Reads h b y bs) : ReadsAll h [a, b] [x, y] (as ++ (bs ++ [])) := .cons ra (.cons rb .nil)
theorem two_alike {x y : PyData} (h : PySem.W.alike x y = true) (h1 : PySem.W.alike x x = true) (h2 : PySem.W.alike y y = true) (hn : x ≠ .none) : AlikeAll [x, y] := by
  have h' : PySem.W.alike y x = true := by rw [PySem.W.alike_comm]; exact h
  have hn' := PySem.W.ne_none_both h hn
  refine ⟨fun u hu v hv => ?_, fun u hu => ?_⟩
  · simp at hu hv
    rcases hu with rfl | rfl <;> rcases hv with rfl | rfl <;> assumption
  · simp at hu
    rcases hu with rfl | rfl <;> assumption
theorem min_two {a b : Value} {x y : PyData} {as bs : List Addr} {Q : Value → Shared → Prop} (hh : A.handled = none) (ra : Reads s.heap a x as) (rb : Reads s.heap b y bs) (al : AlikeAll [x, y]) (hu : A.units + 2 + PyData.depthAll [x, y] < cLine)
    (h : ∀ h' tk, (∀ c o, s.heap.get? c = some o → h'.get? c = some o) → Q (if PySem.W.dataLt y x = true then b else a) { s with heap := h', toks := tk }) : wpAny (model prog w) A (call (.builtin "min") [a, b]) Q E s := by
  have hname : (toString "min" ++ toString ".loop" : String) = "min.loop" := by decide
  refine call_function_tree F.kind_min F.plain_min F.entry_min (F.args_min2 _ _) ?_
  refine wpAny_bind (m := Builtin.Builtins.bindParams _ _ _ _) (wpAny_of_eq (show Builtin.Builtins.bindParams "min" ["key", "default"] 0 ⟨[], []⟩ = pure [none, none] from rfl) ?_)
  refine wpAny_bind (m := newTuple [a, b]) (wpAny_newObj_type ?_)
  generalize hh1 : s.heap.push { cls := .type "tuple", data := .seq [a, b].toArray } = h1
  have hT : h1.IsTuple s.heap.objs.size #[a, b] := by rw [← hh1]; exact ⟨_, Heap.get?_push_size _ rfl, rfl, 0, rfl⟩
  have k1 : ∀ c o, s.heap.get? c = some o → h1.get? c = some o := fun c o e => by rw [← hh1]; exact Heap.get?_push_of_some _ e
  have z1 : h1.objs.size = s.heap.objs.size + 1 := by rw [← hh1]; exact Heap.size_push ..
  refine wpAny_bind (m := pyIter _) (wpAny_pyIter_tuple hT ?_)
  refine wpAny_bind (m := newList []) (wpAny_newObj_type ?_)
  generalize hh2 : Heap.push h1 _ = h2
  have z2 : h2.objs.size = h1.objs.size + 1 := by rw [← hh2]; exact Heap.size_push ..
  have k2 : ∀ c o, h1.get? c = some o → h2.get? c = some o := fun c o e => by rw [← hh2]; exact Heap.get?_push_of_some _ e
  rw [hname]
  have R1 := two_reads (Reads.keeps k1 ra) (Reads.keeps k1 rb)
  have hne : s.heap.objs.size ≠ h1.objs.size := by rw [z1]; exact Nat.ne_of_lt (Nat.lt_succ_self _)
  have Wk := (Walks.tuple (prog := prog) (w := w) (A := A.in1) hh h1.objs.size s.heap.objs.size hne #[a, b]).toS
  have cm : CmpIn prog w A.in1 .Lt h1 (fun i v => #[a, b][i]? = some v) (fun i j => dataLt ([x, y].getD i .none) ([x, y].getD j .none)) :=
    cmpIn_lt (s := { s with heap := h1 }) (vs := #[a, b]) (by simpa using R1) al (by show A.units + 1 + PyData.depthAll [x, y] < cLine; omega)
  refine wpAny_pure ⟨plainId_quiet F.plain_min_loop _, codeAny_min_loop_firstH Wk h1 (fun c o e hm => ?_) _ cm h2.objs.size (fun hm => ?_) ?_ _ (Nat.zero_lt_succ 1) (fun c o e => Heap.get?_push_of_some _ (k2 c o e)) ?_ (Heap.get?_push_size _ rfl) fun v s' hP hm => ?_⟩
  · have e1 : c = h1.objs.size := by simpa using hm
    exact absurd (Heap.lt_size e) (by rw [e1]; exact Nat.lt_irrefl _)
  · simp only [List.mem_cons, List.not_mem_nil, or_false] at hm
    rcases hm with e1 | e1
    · have e2 : (h2.objs.size : Nat) = h1.objs.size := e1
      omega
    · have e2 : (h2.objs.size : Nat) = s.heap.objs.size := e1
      omega
  · exact Heap.get?_none_of_le (by rw [z2]; exact Nat.le_succ _)
  · refine ⟨?_, ?_⟩
    · refine Heap.IsTupleIter.at (h := h2) ?_ fun o e => Heap.get?_push_of_some _ e
      rw [← hh2]
      exact ⟨_, Heap.get?_push_size _ rfl, rfl, rfl⟩
    · exact hT.at fun o e => Heap.get?_push_of_some _ (k2 _ o e)
  · obtain ⟨hp', g', d', t', o'⟩ := s'
    have eg : g' = s.gens := hm.gens
    have ed : d' = s.drawn := hm.drawn
    have eo : o' = s.os := hm.os
    subst eg ed eo
    have hk : ∀ c o, s.heap.get? c = some o → hp'.get? c = some o := fun c o e => by
      have hc := Heap.lt_size e
      refine hm.heap c o (fun hmm => ?_) (Heap.get?_push_of_some _ (k2 c o (k1 c o e)))
      simp only [List.mem_cons, List.not_mem_nil, or_false] at hmm
      rcases hmm with e1 | e1
      · rw [e1] at hc
        have e2 : (h2.objs.size : Nat) < s.heap.objs.size := hc
        omega
      · rw [e1] at hc
        have e2 : (h1.objs.size : Nat) < s.heap.objs.size := hc
        omega
    have hv : v = if dataLt y x = true then b else a := by
      have hP' : #[a, b][argBest (fun i j => dataLt ([x, y].getD i .none) ([x, y].getD j .none)) 1]? = some v := hP
      by_cases hb : dataLt y x = true
      · have e1 : argBest (fun i j => dataLt ([x, y].getD i .none) ([x, y].getD j .none)) 1 = 1 := by simp [argBest, hb]
        rw [e1] at hP'
        rw [if_pos hb]
        simpa using hP'.symm
      · have e1 : argBest (fun i j => dataLt ([x, y].getD i .none) ([x, y].getD j .none)) 1 = 0 := by simp [argBest, hb]
        rw [e1] at hP'
        rw [if_neg hb]
        simpa using hP'.symm
    rw [hv]
    exact h hp' t' hk
theorem max_two {a b : Value} {x y : PyData} {as bs : List Addr} {Q : Value → Shared → Prop} (hh : A.handled = none) (ra : Reads s.heap a x as) (rb : Reads s.heap b y bs) (al : AlikeAll [x, y]) (hu : A.units + 2 + PyData.depthAll [x, y] < cLine)
    (h : ∀ h' tk, (∀ c o, s.heap.get? c = some o → h'.get? c = some o) → Q (if PySem.W.dataLt x y = true then b else a) { s with heap := h', toks := tk }) : wpAny (model prog w) A (call (.builtin "max") [a, b]) Q E s := by
  have hname : (toString "max" ++ toString ".loop" : String) = "max.loop" := by decide
  refine call_function_tree F.kind_max F.plain_max F.entry_max (F.args_max2 _ _) ?_
  refine wpAny_bind (m := Builtin.Builtins.bindParams _ _ _ _) (wpAny_of_eq (show Builtin.Builtins.bindParams "max" ["key", "default"] 0 ⟨[], []⟩ = pure [none, none] from rfl) ?_)
  refine wpAny_bind (m := newTuple [a, b]) (wpAny_newObj_type ?_)
  generalize hh1 : s.heap.push { cls := .type "tuple", data := .seq [a, b].toArray } = h1
  have hT : h1.IsTuple s.heap.objs.size #[a, b] := by rw [← hh1]; exact ⟨_, Heap.get?_push_size _ rfl, rfl, 0, rfl⟩
  have k1 : ∀ c o, s.heap.get? c = some o → h1.get? c = some o := fun c o e => by rw [← hh1]; exact Heap.get?_push_of_some _ e
  have z1 : h1.objs.size = s.heap.objs.size + 1 := by rw [← hh1]; exact Heap.size_push ..
  refine wpAny_bind (m := pyIter _) (wpAny_pyIter_tuple hT ?_)
  refine wpAny_bind (m := newList []) (wpAny_newObj_type ?_)
  generalize hh2 : Heap.push h1 _ = h2
  have z2 : h2.objs.size = h1.objs.size + 1 := by rw [← hh2]; exact Heap.size_push ..
  have k2 : ∀ c o, h1.get? c = some o → h2.get? c = some o := fun c o e => by rw [← hh2]; exact Heap.get?_push_of_some _ e
  rw [hname]
  have R1 := two_reads (Reads.keeps k1 ra) (Reads.keeps k1 rb)
  have hne : s.heap.objs.size ≠ h1.objs.size := by rw [z1]; exact Nat.ne_of_lt (Nat.lt_succ_self _)
  have Wk := (Walks.tuple (prog := prog) (w := w) (A := A.in1) hh h1.objs.size s.heap.objs.size hne #[a, b]).toS
  have cm : CmpIn prog w A.in1 .Gt h1 (fun i v => #[a, b][i]? = some v) (fun i j => dataLt ([x, y].getD j .none) ([x, y].getD i .none)) :=
    cmpIn_gt (s := { s with heap := h1 }) (vs := #[a, b]) (by simpa using R1) al (by show A.units + 1 + PyData.depthAll [x, y] < cLine; omega)
  refine wpAny_pure ⟨plainId_quiet F.plain_max_loop _, codeAny_max_loop_firstH Wk h1 (fun c o e hm => ?_) _ cm h2.objs.size (fun hm => ?_) ?_ _ (Nat.zero_lt_succ 1) (fun c o e => Heap.get?_push_of_some _ (k2 c o e)) ?_ (Heap.get?_push_size _ rfl) fun v s' hP hm => ?_⟩
  · have e1 : c = h1.objs.size := by simpa using hm
    exact absurd (Heap.lt_size e) (by rw [e1]; exact Nat.lt_irrefl _)
  · simp only [List.mem_cons, List.not_mem_nil, or_false] at hm
    rcases hm with e1 | e1
    · have e2 : (h2.objs.size : Nat) = h1.objs.size := e1
      omega
    · have e2 : (h2.objs.size : Nat) = s.heap.objs.size := e1
      omega
  · exact Heap.get?_none_of_le (by rw [z2]; exact Nat.le_succ _)
  · refine ⟨?_, ?_⟩
    · refine Heap.IsTupleIter.at (h := h2) ?_ fun o e => Heap.get?_push_of_some _ e
      rw [← hh2]
      exact ⟨_, Heap.get?_push_size _ rfl, rfl, rfl⟩
    · exact hT.at fun o e => Heap.get?_push_of_some _ (k2 _ o e)
  · obtain ⟨hp', g', d', t', o'⟩ := s'
    have eg : g' = s.gens := hm.gens
    have ed : d' = s.drawn := hm.drawn
    have eo : o' = s.os := hm.os
    subst eg ed eo
    have hk : ∀ c o, s.heap.get? c = some o → hp'.get? c = some o := fun c o e => by
      have hc := Heap.lt_size e
      refine hm.heap c o (fun hmm => ?_) (Heap.get?_push_of_some _ (k2 c o (k1 c o e)))
      simp only [List.mem_cons, List.not_mem_nil, or_false] at hmm
      rcases hmm with e1 | e1
      · rw [e1] at hc
        have e2 : (h2.objs.size : Nat) < s.heap.objs.size := hc
        omega
      · rw [e1] at hc
        have e2 : (h1.objs.size : Nat) < s.heap.objs.size := hc
        omega
    have hv : v = if dataLt x y = true then b else a := by
      have hP' : #[a, b][argBest (fun i j => dataLt ([x, y].getD j .none) ([x, y].getD i .none)) 1]? = some v := hP
      by_cases hb : dataLt x y = true
      · have e1 : argBest (fun i j => dataLt ([x, y].getD j .none) ([x, y].getD i .none)) 1 = 1 := by simp [argBest, hb]
        rw [e1] at hP'
        rw [if_pos hb]
        simpa using hP'.symm
      · have e1 : argBest (fun i j => dataLt ([x, y].getD j .none) ([x, y].getD i .none)) 1 = 0 := by simp [argBest, hb]
        rw [e1] at hP'
        rw [if_neg hb]
        simpa using hP'.symm
    rw [hv]
    exact h hp' t' hk
end
end Ev

/-! isinstance, subscripts, slices, the built-in functions, methods, stores. -/
namespace Ev
open PySem PySem.Spec PyProof.Rows L2

/-! ### isinstance -/
def tyName : Ty → String
  | .int => "int" | .bool => "bool" | .str => "str" | .list => "list" | .tuple => "tuple"
theorem kit_table (u t : Ty) : kitB (tyName u) (tyName t) = some (decide (u = t) || (decide (u = .bool) && decide (t = .int))) := by
  cases u <;> cases t <;> decide +kernel
theorem kit_none (t : Ty) : kitB "NoneType" (tyName t) = some false := by
  cases t <;> decide +kernel
section
variable {X : Cx} {cv : Nat → Value} {pins : List (Addr × Obj)} {σ : L2.St} {H : Hp} {s : Shared} {ρ : List Addr} {st : Sto}
/-- a call by values, as the evaluator knows it -/
def CalD (p : Pm) (m : List D → Sto → Res D) : List V → Hp → VK → Prop := fun vs H Q => ∃ W ρ st ds, Rel p ρ H st ∧ Reps p.K ρ H vs ds ∧ Got p ρ H (m ds st) (fun r _ ρ' H' => ∀ v, Rep p.K ρ' H' v r → Q v H') W
theorem sqT_ty {K : PySem.W.Frag} {a : Addr} {xs : List V} (h : SqT K H a xs) : TyX K H (.ref a) (.type "tuple") := by
  rcases h with (h | ⟨o, h⟩) | ⟨o, its, n, h1, h2, _⟩
  · exact .base (.tup h)
  · exact .fTuple h
  · exact .kTuple h1 h2
theorem scr_ty {K : PySem.W.Frag} {a : Addr} {xs : List V} (h : Scr K H a xs) : TyX K H (.ref a) (.type "list") := by
  rcases h with ⟨o, h⟩ | ⟨o, its, n, h1, h2, _⟩
  · exact .base (.frz h)
  · exact .kList h1 h2
theorem rep_ty (R : Rel (pm X cv) ρ H st) {v : V} {d : D} {u : Ty} (r : Rep X.K ρ H v d) (h : tyOf st d = some u) : TyX X.K H v (.type (tyName u)) := by
  cases r with
  | non => cases h
  | bl b => cases h; exact .base (.bl b)
  | int b => cases h; exact .base (.int b)
  | str b => cases h; exact .base (.str b)
  | tup h1 _ => cases h; exact sqT_ty h1
  | scr h1 => cases h; exact scr_ty h1
  | ref hl =>
    rename_i l a
    rw [tyOf] at h
    cases e : st[l]? with
    | none => rw [e] at h; cases h
    | some o =>
      rw [e] at h
      cases o with
      | dct kvs => cases h
      | lst ds =>
        cases h
        obtain ⟨vs, h1, _⟩ := R.obj l _ _ hl e
        exact .base (.lst h1)
theorem isi_ok {v : V} {d : D} {t : Ty} {b : Bool} {Q : VK} (I : Inv X pins σ H s) (R : Rel (pm X cv) ρ H st) (r : Rep X.K ρ H v d) (h : isi st d t = some b) {us : List Value} (rv : Vals [v, .ty (tyName t)] us) (q : Q (.bl b) H) :
    wpAny (model X.prog X.w) X.A (call (.builtin "isinstance") us) (EP X pins σ Q) X.xe s := by
  unfold isi at h
  split at h
  · cases h
    cases r
    exact call_isi pins s σ H _ us Q I rv ⟨_, _, _, _, false, rfl, .ty _, .base .non, kit_ty (kit_none t), q⟩
  · obtain ⟨u, hu, e⟩ := Option.map_eq_some_iff.mp h
    rw [← e] at q
    exact call_isi pins s σ H _ us Q I rv ⟨_, _, _, _, _, rfl, .ty _, rep_ty R r hu, kit_ty (kit_table u t), q⟩

/-! ### subscripts -/
theorem place_eq (n : Nat) (i : Int) : place n i = ixN n i := rfl
theorem item_at {vs : List V} {xs : List D} {i : Int} {d : D} (r : Reps X.K ρ H vs xs) (h : item xs i = some d) : ∃ v, atI vs i = some v ∧ Rep X.K ρ H v d := by
  unfold item at h
  obtain ⟨j, hj, hd⟩ := Option.bind_eq_some_iff.mp h
  obtain ⟨v, hv, rv⟩ := r.get hd
  refine ⟨v, ?_, rv⟩
  unfold atI
  rw [r.length, ← place_eq, hj]
  exact hv
theorem ix_ok (hu : X.A.units + 74 < cLine) : IxR X (OpD (pm X cv) fun x y st => Res.of (ixD x y st) st) := by
  intro value slice pins s σ H x y v u Q I rx ry h hs
  obtain ⟨W, ρ, st, d, e, R, r1, r2, g⟩ := h
  dsimp only at g
  obtain ⟨z, hz, q⟩ := Got.of R g
  unfold ixD at hz
  cases hd : dctOf st d with
  | some kvs =>
    rw [hd] at hz
    simp only at hz
    split at hz
    · rename_i hk
      obtain ⟨l, a, rfl, rfl, hl, _, Dd⟩ := dct_rep R hd r1
      cases rx
      obtain ⟨c, rfl, rfl, ki⟩ := key_is I hk r2 ry
      obtain ⟨xs, hm, hp, hsy, _⟩ := dct_is I Dd
      rcases look (X := X) hk hp with ⟨e1, e2⟩ | ⟨d', b', u', v', e1, e2, e3, e4⟩
      · rw [e1] at hz; cases hz
      · rw [e1] at hz
        cases hz
        exact tail_any (ops := [_, _]) hm.typeIs slot_dict_getitem.lookup (wpAny_getItem_heap (room8 hu) ki hm e2 ⟨v', H, I.tok _, e3, q v' e4⟩) hs
    · cases hz
  | none =>
    rw [hd] at hz
    cases r2 with
    | int i =>
      simp only at hz
      cases r1 with
      | str zz =>
        simp only at hz
        split at hz
        · rename_i hl
          obtain ⟨j, hj, hd'⟩ := Option.bind_eq_some_iff.mp hz
          obtain ⟨c, hc, rfl⟩ := Option.map_eq_some_iff.mp hd'
          refine ix_str value slice pins s σ H _ _ v u Q I rx ry ⟨zz, i, c, rfl, rfl, by rw [line_eq]; exact hl, ?_, q _ (.str _)⟩ hs
          unfold atI
          rw [← place_eq, hj]
          exact hc
        · cases hz
      | non => cases hz
      | bl => cases hz
      | int => cases hz
      | tup h1 h2 =>
        simp only [seqOf, Option.bind_some] at hz
        obtain ⟨w, hw, rw'⟩ := item_at h2 hz
        exact ix_tup value slice pins s σ H _ _ v u Q I rx ry ⟨_, _, i, w, rfl, rfl, h1, hw, q w rw'⟩ hs
      | ref hl =>
        obtain ⟨xs, hx, hz⟩ := Option.bind_eq_some_iff.mp hz
        obtain ⟨a, vs, e1, q1, hh⟩ := seq_rep R hx (.ref hl)
        cases e1
        obtain ⟨w, hw, rw'⟩ := item_at q1 hz
        rcases hh with hh | hh
        · exact ix_list value slice pins s σ H _ _ v u Q I rx ry ⟨_, _, i, w, rfl, rfl, hh, hw, q w rw'⟩ hs
        · exact ix_tup value slice pins s σ H _ _ v u Q I rx ry ⟨_, _, i, w, rfl, rfl, hh, hw, q w rw'⟩ hs
      | scr h1 =>
        simp only [seqOf, Option.bind_some] at hz
        obtain ⟨w, hw, rw'⟩ := item_at Reps.ints hz
        exact ix_list value slice pins s σ H _ _ v u Q I rx ry ⟨_, _, i, w, rfl, rfl, h1.sq, hw, q w rw'⟩ hs
    | _ => cases hz
/-! ### slices -/
theorem sIx_eq (n d : Nat) (o : Option Int) : HT.sIx n d o = sIx n d o := by
  cases o with
  | none => rfl
  | some v =>
    have h := HT.clip_eq v n d
    show _ = (if v < 0 then max (v + (n : Int)) 0 else min v (n : Int)).toNat
    rw [h]
    simp
theorem cut_reps {vs : List V} {xs : List D} (r : Reps X.K ρ H vs xs) (lo hi : Option Int) : Reps X.K ρ H (cutV vs lo hi) (cut xs lo hi) := by
  unfold cutV cut
  rw [sIx_eq, sIx_eq, r.length]
  exact (r.drop _).take _
def SlD (p : Pm) : V → Option Int → Option Int → Hp → VK → Prop := fun x lo hi H Q => ∃ W ρ st d, Rel p ρ H st ∧ Rep p.K ρ H x d ∧ Got p ρ H (slD d lo hi st) (fun r _ ρ' H' => ∀ v, Rep p.K ρ' H' v r → Q v H') W
theorem sl_ok : SlR X (SlD (pm X cv)) := by
  intro pins s σ H x v vl vu lo hi sl Q I rx hs pl pu h
  obtain ⟨W, ρ, st, d, R, r, g⟩ := h
  unfold slD at g
  split at g
  · rename_i xs hx
    obtain ⟨a, vs, rfl, q, hl⟩ := lis_rep R hx r
    exact sl_list pins s σ H _ v vl vu lo hi sl Q I rx hs pl pu ⟨a, vs, rfl, hl, fun p hp => new_list R (cut_reps q lo hi) hp g⟩
  · exact g.elim
/-! ### the built-in functions -/
theorem toPs_map : ∀ {n : Nat} {xs : List D} {ps : List PyData}, toPs st n xs = some ps → ps = xs.map fun d => (toP st n d).getD .none
  | n, [], ps, h => by simp [toPs] at h; subst h; rfl
  | n, d :: ds, ps, h => by
    rw [toPs] at h
    cases e1 : toP st n d with
    | none => rw [e1] at h; cases h
    | some x =>
      cases e2 : toPs st n ds with
      | none => rw [e1, e2] at h; cases h
      | some ys =>
        rw [e1, e2] at h
        cases h
        rw [List.map_cons, e1, ← toPs_map e2]
        rfl
theorem toPs_each {n : Nat} {xs : List D} {ps : List PyData} (h : toPs st n xs = some ps) : ∀ d ∈ xs, ∃ x, toP st n d = some x := by
  induction xs generalizing ps with
  | nil => intro d hd; cases hd
  | cons c ds ih =>
    rw [toPs] at h
    cases e1 : toP st n c with
    | none => rw [e1] at h; cases h
    | some x =>
      cases e2 : toPs st n ds with
      | none => rw [e1, e2] at h; cases h
      | some ys =>
        intro d hd
        rcases List.mem_cons.mp hd with rfl | hd
        · exact ⟨x, e1⟩
        · exact ih e2 d hd
theorem allAlike_ok {ps : List PyData} (h : allAlike ps = true) : PySem.W.AllAlike ps := fun d hd e he => by
  unfold allAlike at h
  exact List.all_eq_true.mp (List.all_eq_true.mp h d hd) e he
theorem sortable_ok {ps : List PyData} (h : sortable ps = true) : PySem.W.Sortable ps := by
  unfold sortable at h
  rw [Bool.or_eq_true] at h
  rcases h with h | h
  · refine .inl fun d hd => ?_
    have q := List.all_eq_true.mp h d hd
    split at q
    · exact ⟨_, _, rfl⟩
    · cases q
  · refine .inr fun d hd => ?_
    have q := List.all_eq_true.mp h d hd
    split at q
    · cases q
    · cases q
    · rename_i h1 h2
      exact ⟨h1, h2⟩
/-- a value of the machine for a datum -/
def Val (K : PySem.W.Frag) (ρ : List Addr) (H : Hp) (u : Value) (d : D) : Prop := ∃ v, RelV v u ∧ Rep K ρ H v d
theorem each_of : ∀ {vs : List V} {us : List Value} {ds : List D}, Vals vs us → Reps X.K ρ H vs ds → PySem.W.EachIs (Val X.K ρ H) us ds
  | _, _, _, .nil, .nil => .nil
  | _, _, _, .cons u1 u2, .cons r1 r2 => .cons ⟨_, u1, r1⟩ (each_of u2 r2)
theorem of_each : ∀ {us : List Value} {ds : List D}, PySem.W.EachIs (Val X.K ρ H) us ds → ∃ vs, Vals vs us ∧ Reps X.K ρ H vs ds
  | _, _, .nil => ⟨[], .nil, .nil⟩
  | _, _, .cons ⟨v, a, b⟩ t => by
    obtain ⟨vs, h1, h2⟩ := of_each t
    exact ⟨v :: vs, .cons a h1, .cons b h2⟩
theorem each_reads (I : Inv X pins σ H s) (R : Rel (pm X cv) ρ H st) : ∀ {us : List Value} {ds : List D}, PySem.W.EachIs (Val X.K ρ H) us ds → (∀ d ∈ ds, ∃ x, toP st deep d = some x) →
    PySem.W.EachIs (fun v b => ∃ as, Reads s.heap v ((toP st deep b).getD .none) as) us ds
  | _, _, .nil, _ => .nil
  | _, _, .cons ⟨v, a, b⟩ t, h => by
    refine .cons ?_ (each_reads I R t fun d hd => h d (List.mem_cons_of_mem _ hd))
    obtain ⟨x, hx⟩ := h _ List.mem_cons_self
    rw [hx]
    exact Dp.reads I x v _ (toP_dp R _ _ _ _ hx b) a
theorem enc_depth {xs : List D} (h : ∀ d ∈ xs, ∃ x, toP st deep d = some x) : ∀ d ∈ xs, ((toP st deep d).getD .none).depth ≤ 12 := fun d hd => by
  obtain ⟨x, hx⟩ := h d hd
  rw [hx]
  exact (toP_shape _ _ _ hx).2
theorem mergeSort_len (f : D → D → Bool) (xs : List D) : (xs.mergeSort f).length = xs.length := List.length_mergeSort ..
theorem sorted_list (hu : X.A.units + 74 < cLine) {a : Addr} {vs : List V} {xs ys : List D} {Q : VK} (I : Inv X pins σ H s) (R : Rel (pm X cv) ρ H st) (r : Reps X.K ρ H vs xs) (hl : SqL X.K H a vs) (hz : xs.length ≤ sizeLine)
    (hy : sortD st xs = some ys) (q : ∀ b ws, H b = none → Reps X.K ρ H ws ys → Q (.ref b) (upd H b (.lst ws))) : wpAny (model X.prog X.w) X.A (call (.builtin "sorted") [.ref a]) (EP X pins σ Q) X.xe s := by
  unfold sortD at hy
  split at hy
  · rename_i ps hps
    split at hy
    · rename_i hc
      cases hy
      rw [Bool.and_eq_true] at hc
      obtain ⟨its, rv, pl, _⟩ := I.list hl
      have em := toPs_map hps
      have he := toPs_each hps
      have ea := each_of rv r
      refine PySem.W.sorted_data (R := Val X.K ρ H) (enc := fun d => (toP st deep d).getD .none) pl.isList ea (each_reads I R ea he) (by rw [← em]; exact allAlike_ok hc.1) (by rw [← em]; exact sortable_ok hc.2) hz
        (fun b hb => by have := enc_depth he b hb; omega) fun out ho eo => ?_
      obtain ⟨ws, w1, w2⟩ := of_each eo
      obtain ⟨e, hat⟩ := sortedAll_at s.heap its out.toArray
      have lw : ws.length ≤ sizeLine := by rw [w2.length, mergeSort_len]; exact hz
      have hfr : H (s.heap.objs.size + 1) = none := I.hok.fresh (Nat.le_succ _)
      exact ⟨.ref (s.heap.objs.size + 1), _, I.laid (o := .lst ws) (t' := s.toks) (fun b u e => sortedAll_old e) (Nat.le_succ _) ⟨lw, out, e, w1, hat⟩, rfl, q _ ws hfr w2⟩
    · cases hy
  · cases hy
mutual
theorem reads_lt {h : Heap} : ∀ (d : PyData) (v : Value) (as : List Addr), PyData.canLay0 d = true → Reads h v d as → ∀ b ∈ as, b < h.objs.size
  | .none, _, _, _, r, b, hb => by cases r; cases hb
  | .bool _, _, _, _, r, b, hb => by cases r; cases hb
  | .int _, _, _, _, r, b, hb => by cases r; cases hb
  | .str _, _, _, _, r, b, hb => by cases r; cases hb
  | .list xs, _, _, hc, r, b, hb => by
    cases r with
    | list h1 h2 h3 h4 =>
      rcases List.mem_cons.mp hb with rfl | hb
      · exact Heap.lt_size h1
      · exact readsAll_lt xs _ _ (by simpa [PyData.canLay0] using hc) h4 b hb
  | .tuple xs, _, _, hc, r, b, hb => by
    cases r with
    | tuple h1 h2 h3 h4 => exact readsAll_lt xs _ _ (by simpa [PyData.canLay0] using hc) h4 b hb
  | .dict _, _, _, hc, r, b, hb => by simp [PyData.canLay0] at hc
theorem readsAll_lt {h : Heap} : ∀ (ds : List PyData) (vs : List Value) (as : List Addr), PyData.canLayAll0 ds = true → ReadsAll h vs ds as → ∀ b ∈ as, b < h.objs.size
  | [], _, _, _, r, b, hb => by cases r; cases hb
  | d :: ds, _, _, hc, r, b, hb => by
    cases r with
    | cons r1 r2 =>
      simp only [PyData.canLayAll0, Bool.and_eq_true] at hc
      rcases List.mem_append.mp hb with hb | hb
      · exact reads_lt d _ _ hc.1 r1 b hb
      · exact readsAll_lt ds _ _ hc.2 r2 b hb
end
/-- a dict's keys, one by one -/
theorem keys_each {kvs : List (D × D)} {xs : List (NestedKey × Addr × Value)} (hp : Paired (EntR (pm X cv) ρ H) kvs xs) : PySem.W.EachIs (Val X.K ρ H) (xs.map fun x => Value.ref x.2.1) (kvs.map (·.1)) := by
  induction hp with
  | nil => exact .nil
  | cons r _ ih => exact .cons ⟨V.ref _, rfl, r.2.2.1⟩ ih
theorem keys_of {es : Array DictEntry} {xs : List (NestedKey × Addr × Value)} {acc : Array Value} (he : es.toList = xs.map (entryOfKey (nestedKind X.prog X.w))) (hn : acc.size = es.size)
    (ha : ∀ (j : Nat) v, acc[j]? = some v → ∃ hi : j < es.size, v = es[j].key) : acc.toList = xs.map fun x => Value.ref x.2.1 := by
  have hl : es.size = xs.length := size_of_entries he
  apply List.ext_getElem?
  intro j
  rw [Array.getElem?_toList, List.getElem?_map]
  by_cases hj : j < xs.length
  · have hja : j < acc.size := by omega
    have h1 : acc[j]? = some acc[j] := by simp [hja]
    obtain ⟨hi, hv⟩ := ha j _ h1
    have h2 : es[j]? = some es[j] := by simp [hi]
    rw [entry_at he j, List.getElem?_eq_getElem hj] at h2
    have h3 : entryOfKey (nestedKind X.prog X.w) xs[j] = es[j] := Option.some.inj h2
    rw [h1, hv, ← h3, List.getElem?_eq_getElem hj]
    rfl
  · rw [List.getElem?_eq_none (by omega)]
    simp only [Option.map_none]
    exact Array.getElem?_eq_none (by omega)
theorem sorted_dict (hc : X.calm = true) (hu : X.A.units + 74 < cLine) {a : Addr} {kvs : List (D × D)} {ys : List D} {Q : VK} (I : Inv X pins σ H s) (R : Rel (pm X cv) ρ H st) (Dd : DctR (pm X cv) ρ H a kvs)
    (hy : sortD st (kvs.map (·.1)) = some ys) (q : ∀ b ws, H b = none → Reps X.K ρ H ws ys → Q (.ref b) (upd H b (.lst ws))) : wpAny (model X.prog X.w) X.A (call (.builtin "sorted") [.ref a]) (EP X pins σ Q) X.xe s := by
  unfold sortD at hy
  split at hy
  · rename_i ps hps
    split at hy
    · rename_i hca
      cases hy
      rw [Bool.and_eq_true] at hca
      obtain ⟨o, xs, es, ep, h1, h2, h3, h4, h5, h6, h7, h8⟩ := id Dd
      have hraw : s.heap.DictRaw a es ep := ⟨o, (I.hok a _ h1).1, h4, h5⟩
      have hl : es.size = xs.length := size_of_entries h6
      have hlk : kvs.length = xs.length := Paired.length h8
      refine Calls.call_function_entry kind_sorted plain_sorted entry_sorted (args_sorted1 _) ?_
      unfold Builtin.«sorted»
      refine wpAny_bind (m := checkCount "sorted" 1 1 _) (wpAny_pure ?_)
      refine wpAny_bind (PySem.W.kdu_collect (A := X.A.in1) (KdlSrc.rawDict (es := es) (ep := ep) h2) (I.ok.hd hc) hraw (by omega) fun h' tk acc hk hacc => ?_)
      have hv : acc.toList = xs.map fun x => Value.ref x.2.1 := keys_of h6 hacc.1 hacc.2
      have hal : acc.toList.length ≤ sizeLine := by rw [hv, List.length_map]; omega
      have I1 : Inv X pins σ H { s with heap := h', toks := tk } := I.kept hk
      refine wpAny_bind (wpAny_newList ?_ hal)
      have hoL : (h'.push (seqObj "list" acc.toList.toArray 0)).get? h'.objs.size = some (seqObj "list" acc.toList.toArray 0) := Heap.get?_push_size _ rfl
      have em := toPs_map hps
      have he := toPs_each hps
      have ea : PySem.W.EachIs (Val X.K ρ H) acc.toList (kvs.map (·.1)) := by rw [hv]; exact keys_each h8
      have I2 : Inv X pins σ H { s with heap := h'.push (seqObj "list" acc.toList.toArray 0), toks := tk } := I1.kept (t' := tk) fun b u e => Heap.get?_push_of_some _ e
      have er : PySem.W.EachIs (fun v b => ∃ as, Reads h' v ((toP st deep b).getD .none) as ∧ ((toP st deep b).getD .none).canLay0 = true) acc.toList (kvs.map (·.1)) :=
        (PySem.W.each_mem (each_reads I1 R ea he)).mono fun v b ⟨⟨as, rr⟩, hb⟩ => ⟨as, rr, by
          obtain ⟨x, hx⟩ := he b hb
          rw [hx]
          exact (toP_shape _ _ _ hx).1⟩
      have er2 : PySem.W.EachIs (fun v b => ∃ as, Reads (h'.push (seqObj "list" acc.toList.toArray 0)) v ((toP st deep b).getD .none) as ∧ h'.objs.size ∉ as) acc.toList (kvs.map (·.1)) :=
        er.mono fun v b ⟨as, rr, hc0⟩ => ⟨as, Reads.keeps (fun _ _ e => Heap.get?_push_of_some _ e) rr, fun hm => Nat.lt_irrefl _ (reads_lt _ _ _ hc0 rr _ hm)⟩
      · refine wpAny_bind (wpAny_holding ?_)
        refine PySem.W.list_sort_data (s := { s with heap := h'.push (seqObj "list" acc.toList.toArray 0), toks := tk }) (A := X.A.in1) (R := Val X.K ρ H) (enc := fun d => (toP st deep d).getD .none) hoL ea er2 (by rw [← em]; exact allAlike_ok hca.1) (by rw [← em]; exact sortable_ok hca.2) (by rw [List.length_map]; exact h3)
          (fun b hb => ?_) fun out ho eo => wpAny_pure ?_
        · have := enc_depth he b hb
          show X.A.units + 1 + 1 + _ < cLine
          omega
        · obtain ⟨ws, w1, w2⟩ := of_each eo
          obtain ⟨e, hat⟩ := sortedHeap_at (vs := acc.toList) (out := out.toArray) hoL
          have lw : ws.length ≤ sizeLine := by rw [w2.length, mergeSort_len, List.length_map]; exact h3
          have hfr : H h'.objs.size = none := I1.hok.fresh (Nat.le_refl _)
          refine ⟨_, rfl, .ref h'.objs.size, _, I1.laid (o := .lst ws) (t' := tk) (fun b u e => ?_) (Nat.le_refl _) ⟨lw, out, e, w1, hat⟩, rfl, q _ ws hfr w2⟩
          have hb : b < h'.objs.size := Heap.lt_size e
          rw [sortedHeap_old (Nat.ne_of_lt hb) (by rw [size_push']; exact Nat.lt_succ_of_lt hb)]
          exact Heap.get?_push_of_some _ e
    · cases hy
  · cases hy
end
end Ev

/-! The built-in functions by their names, methods, stores. -/
namespace Ev
open PySem PySem.Spec PyProof.Rows L2

def biVal : Bi → Value
  | .len => .builtin "len" | .abs => .builtin "abs" | .min1 => .builtin "min" | .max1 => .builtin "max" | .min2 => .builtin "min" | .max2 => .builtin "max"
  | .int => .type "int" | .sorted => .builtin "sorted" | .list => .type "list" | .tuple => .type "tuple" | .sum => .builtin "sum" | .divmod => .builtin "divmod"
section
variable {X : Cx} {cv : Nat → Value} {pins : List (Addr × Obj)} {σ : L2.St} {H : Hp} {s : Shared} {ρ : List Addr} {st : Sto}
theorem reps1 {vs : List V} {d : D} (r : Reps X.K ρ H vs [d]) : ∃ v, vs = [v] ∧ Rep X.K ρ H v d := by
  cases r with
  | cons a b => cases b; exact ⟨_, rfl, a⟩
theorem reps2 {vs : List V} {d e : D} (r : Reps X.K ρ H vs [d, e]) : ∃ v u, vs = [v, u] ∧ Rep X.K ρ H v d ∧ Rep X.K ρ H u e := by
  cases r with
  | cons a b =>
    cases b with
    | cons c d => cases d; exact ⟨_, _, rfl, a, c⟩
theorem reps_ints : ∀ {vs : List V} {ds : List D} {ns : List Int}, Reps X.K ρ H vs ds → intsOf ds = some ns → vs = ns.map V.int
  | _, _, ns, .nil, h => by simp [intsOf] at h; subst h; rfl
  | _, _, ns, .cons r t, h => by
    cases r with
    | int i =>
      simp only [intsOf, Option.map_eq_some_iff] at h
      obtain ⟨ms, hm, rfl⟩ := h
      rw [List.map_cons, reps_ints t hm]
    | _ => simp [intsOf] at h
theorem foldl_min_le (x : Int) : ∀ (r : List Int) , (r.foldl min x) ≤ x ∧ (∀ y ∈ r, r.foldl min x ≤ y) ∧ (r.foldl min x = x ∨ r.foldl min x ∈ r) := by
  intro r
  induction r generalizing x with
  | nil => simp
  | cons y r ih =>
    obtain ⟨a, b, c⟩ := ih (min x y)
    rw [List.foldl_cons]
    refine ⟨by omega, fun z hz => ?_, ?_⟩
    · rcases List.mem_cons.mp hz with rfl | hz
      · omega
      · exact b z hz
    · rcases c with c | c
      · by_cases h : x ≤ y
        · left; omega
        · right; rw [c, show min x y = y by omega]; exact List.mem_cons_self
      · right; exact List.mem_cons_of_mem _ c
theorem foldl_max_le (x : Int) : ∀ (r : List Int) , x ≤ (r.foldl max x) ∧ (∀ y ∈ r, y ≤ r.foldl max x) ∧ (r.foldl max x = x ∨ r.foldl max x ∈ r) := by
  intro r
  induction r generalizing x with
  | nil => simp
  | cons y r ih =>
    obtain ⟨a, b, c⟩ := ih (max x y)
    rw [List.foldl_cons]
    refine ⟨by omega, fun z hz => ?_, ?_⟩
    · rcases List.mem_cons.mp hz with rfl | hz
      · omega
      · exact b z hz
    · rcases c with c | c
      · by_cases h : y ≤ x
        · left; omega
        · right; rw [c, show max x y = y by omega]; exact List.mem_cons_self
      · right; exact List.mem_cons_of_mem _ c
theorem least_is {ns : List Int} {m k : Int} (h : least ns = some m) (hk : k ∈ ns) (hl : ∀ y ∈ ns, k ≤ y) : k = m := by
  cases ns with
  | nil => cases h
  | cons x r =>
    simp only [least, Option.some.injEq] at h
    obtain ⟨a, b, c⟩ := foldl_min_le x r
    rw [h] at a b c
    have h1 : k ≤ m := by
      rcases c with c | c
      · rw [c]; exact hl x List.mem_cons_self
      · exact hl m (List.mem_cons_of_mem _ c)
    have h2 : m ≤ k := by
      rcases List.mem_cons.mp hk with rfl | hk
      · exact a
      · exact b k hk
    omega
theorem most_is {ns : List Int} {m k : Int} (h : most ns = some m) (hk : k ∈ ns) (hl : ∀ y ∈ ns, y ≤ k) : k = m := by
  cases ns with
  | nil => cases h
  | cons x r =>
    simp only [most, Option.some.injEq] at h
    obtain ⟨a, b, c⟩ := foldl_max_le x r
    rw [h] at a b c
    have h1 : m ≤ k := by
      rcases c with c | c
      · rw [c]; exact hl x List.mem_cons_self
      · exact hl m (List.mem_cons_of_mem _ c)
    have h2 : k ≤ m := by
      rcases List.mem_cons.mp hk with rfl | hk
      · exact a
      · exact b k hk
    omega
theorem len_dict (hu : X.A.units + 74 < cLine) {a : Addr} {kvs : List (D × D)} {Q : VK} (I : Inv X pins σ H s) (Dd : DctR (pm X cv) ρ H a kvs) (q : Q (.int kvs.length) H) : wpAny (model X.prog X.w) X.A (call (.builtin "len") [.ref a]) (EP X pins σ Q) X.xe s := by
  obtain ⟨xs, hm, hp, hs, hz, hl⟩ := dct_is I Dd
  have hk : s.heap.DictKeyed (nestedKind X.prog X.w) a (pairsH xs) := ⟨xs, hm, rfl⟩
  have hn : (pairsH xs).length = kvs.length := by rw [pairsH_length, hl]
  have h63 : sizeLine < 2 ^ 63 := line63
  refine PyProof.Rows.call_len_slot (n := (kvs.length : Int)) hk.typeIs F.slot_dict_len (fun Q' hq => len_keyed (A := X.A.in1) hs hk ?_) (by omega) (by omega) ?_
  · rw [hn]; exact hq
  · exact ⟨.int _, H, I.tok _, ⟨_, rfl⟩, q⟩
mutual
theorem alike_lay : ∀ d : PyData, d.canLay0 = true → PySem.W.alike d d = true
  | .none, _ => by simp [PySem.W.alike]
  | .bool _, _ => by simp [PySem.W.alike]
  | .int _, _ => by simp [PySem.W.alike]
  | .str _, _ => by simp [PySem.W.alike]
  | .list xs, h => by
    rw [PySem.W.alike]
    exact alikeAll_lay xs (by simpa [PyData.canLay0] using h)
  | .tuple xs, h => by
    rw [PySem.W.alike]
    exact alikeAll_lay xs (by simpa [PyData.canLay0] using h)
  | .dict _, h => by simp [PyData.canLay0] at h
theorem alikeAll_lay : ∀ ds : List PyData, PyData.canLayAll0 ds = true → PySem.W.alikeAll ds ds = true
  | [], _ => by simp [PySem.W.alikeAll]
  | d :: ds, h => by
    simp only [PyData.canLayAll0, Bool.and_eq_true] at h
    rw [PySem.W.alikeAll, alike_lay d h.1, alikeAll_lay ds h.2]
    rfl
end
theorem alike_self {d : D} {x : PyData} (h : toP st deep d = some x) : PySem.W.alike x x = true := alike_lay x (toP_shape _ _ _ h).1
/-- lists and tuples that min and max take -/
theorem min_data (hc : X.calm = true) (hu : X.A.units + 74 < cLine) {x y : D} {v u : V} {b : Bool} {Q : VK} {us : List Value} (I : Inv X pins σ H s) (R : Rel (pm X cv) ρ H st) (r1 : Rep X.K ρ H v x) (r2 : Rep X.K ρ H u y) (rv : Vals [v, u] us)
    (h : ltD st y x = some b) (q : Q (if b = true then u else v) H) : wpAny (model X.prog X.w) X.A (call (.builtin "min") us) (EP X pins σ Q) X.xe s := by
  obtain ⟨a, c, rfl, ra, rc⟩ := vals2 rv
  unfold ltD at h
  split at h
  · rename_i dy dx hy hx
    split at h
    · rename_i hal
      cases h
      obtain ⟨as, q1⟩ := Dp.reads I dx v a (toP_dp R _ _ _ _ hx r1) ra
      obtain ⟨bs, q2⟩ := Dp.reads I dy u c (toP_dp R _ _ _ _ hy r2) rc
      have e1 := (toP_shape _ _ _ hx).2
      have e2 := (toP_shape _ _ _ hy).2
      have e3 : deep = 12 := rfl
      have al := PySem.W.alike_comm dx dy ▸ hal.1
      have hnx : dx ≠ .none := fun z => by
        have : dy ≠ .none := fun z => hal.2 (toP_none (by rw [hy, z]))
        exact PySem.W.ne_none_both hal.1 this z
      refine min_two (I.ok.hd hc) q1 q2 (two_alike al (alike_self hx) (alike_self hy) hnx) (by simp only [PyData.depthAll]; omega) fun h' tk hk => ⟨_, H, I.kept hk, ?_, q⟩
      split <;> assumption
    · cases h
  · cases h
theorem max_data (hc : X.calm = true) (hu : X.A.units + 74 < cLine) {x y : D} {v u : V} {b : Bool} {Q : VK} {us : List Value} (I : Inv X pins σ H s) (R : Rel (pm X cv) ρ H st) (r1 : Rep X.K ρ H v x) (r2 : Rep X.K ρ H u y) (rv : Vals [v, u] us)
    (h : ltD st x y = some b) (q : Q (if b = true then u else v) H) : wpAny (model X.prog X.w) X.A (call (.builtin "max") us) (EP X pins σ Q) X.xe s := by
  obtain ⟨a, c, rfl, ra, rc⟩ := vals2 rv
  unfold ltD at h
  split at h
  · rename_i dx dy hx hy
    split at h
    · rename_i hal
      cases h
      obtain ⟨as, q1⟩ := Dp.reads I dx v a (toP_dp R _ _ _ _ hx r1) ra
      obtain ⟨bs, q2⟩ := Dp.reads I dy u c (toP_dp R _ _ _ _ hy r2) rc
      have e1 := (toP_shape _ _ _ hx).2
      have e2 := (toP_shape _ _ _ hy).2
      have e3 : deep = 12 := rfl
      have al := hal.1
      have hnx : dx ≠ .none := fun z => hal.2 (toP_none (by rw [hx, z]))
      refine max_two (I.ok.hd hc) q1 q2 (two_alike al (alike_self hx) (alike_self hy) hnx) (by simp only [PyData.depthAll]; omega) fun h' tk hk => ⟨_, H, I.kept hk, ?_, q⟩
      split <;> assumption
    · cases h
  · cases h
theorem sortD_len {xs ys : List D} (h : sortD st xs = some ys) : ys.length = xs.length := by
  unfold sortD at h
  split at h
  · split at h
    · cases h
      exact mergeSort_len _ _
    · cases h
  · cases h
theorem bi_ok (hc : X.calm = true) (hu : X.A.units + 74 < cLine) (f : Bi) : CallR X (biVal f) (CalD (pm X cv) (bi f)) := by
  intro pins s σ H vs us Q I rv h
  obtain ⟨W, ρ, st, ds, R, r0, g⟩ := h
  unfold bi at g
  split at g
  · -- len of a text
    split at g
    · rename_i hz
      obtain ⟨v, rfl, r⟩ := reps1 r0
      cases r
      exact call_len_str pins s σ H _ us Q I rv ⟨_, rfl, by rw [line_eq]; exact hz, Got.here R g _ (.int _)⟩
    · exact g.elim
  · -- len
    obtain ⟨v, rfl, r⟩ := reps1 r0
    split at g
    · rename_i kvs hd
      obtain ⟨l, a, rfl, rfl, hl, _, Dd⟩ := dct_rep R hd r
      have e := Vals.ref1 rv
      subst e
      exact len_dict hu I Dd (Got.here R g _ (.int _))
    · split at g
      · rename_i xs hx
        obtain ⟨a, ws, rfl, q, hh⟩ := seq_rep R hx r
        refine call_len_seq pins s σ H _ us Q I rv ⟨a, ws, rfl, hh, ?_⟩
        rw [q.length]
        exact Got.here R g _ (.int _)
      · exact g.elim
  · -- abs
    obtain ⟨v, rfl, r⟩ := reps1 r0
    cases r
    exact call_abs pins s σ H _ us Q I rv ⟨_, rfl, Got.here R g _ (.int _)⟩
  · -- min
    obtain ⟨v, rfl, r⟩ := reps1 r0
    split at g
    · rename_i m hm
      obtain ⟨ns, hn, hm⟩ := Option.bind_eq_some_iff.mp hm
      obtain ⟨xs, hx, hn⟩ := Option.bind_eq_some_iff.mp hn
      obtain ⟨a, ws, rfl, q, hh⟩ := lis_rep R hx r
      have e := reps_ints q hn
      subst e
      have h0 : 0 < ns.length := by cases ns with | nil => cases hm | cons _ _ => simp
      refine cr_min hc pins s σ H _ us Q I rv ⟨a, ns, rfl, hh, h0, fun k hk hl => ?_⟩
      rw [least_is hm hk hl]
      exact Got.here R g _ (.int _)
    · exact g.elim
  · -- max
    obtain ⟨v, rfl, r⟩ := reps1 r0
    split at g
    · rename_i m hm
      obtain ⟨ns, hn, hm⟩ := Option.bind_eq_some_iff.mp hm
      obtain ⟨xs, hx, hn⟩ := Option.bind_eq_some_iff.mp hn
      obtain ⟨a, ws, rfl, q, hh⟩ := lis_rep R hx r
      have e := reps_ints q hn
      subst e
      have h0 : 0 < ns.length := by cases ns with | nil => cases hm | cons _ _ => simp
      refine cr_max hc pins s σ H _ us Q I rv ⟨a, ns, rfl, hh, h0, fun k hk hl => ?_⟩
      rw [most_is hm hk hl]
      exact Got.here R g _ (.int _)
    · exact g.elim
  · -- min of two
    obtain ⟨v, u, rfl, r1, r2⟩ := reps2 r0
    split at g
    · rename_i b hb
      refine min_data hc hu I R r1 r2 rv hb (Got.here R g _ ?_)
      split <;> assumption
    · exact g.elim
  · -- max of two
    obtain ⟨v, u, rfl, r1, r2⟩ := reps2 r0
    split at g
    · rename_i b hb
      refine max_data hc hu I R r1 r2 rv hb (Got.here R g _ ?_)
      split <;> assumption
    · exact g.elim
  · obtain ⟨v, rfl, r⟩ := reps1 r0
    cases r
    exact call_int1 pins s σ H _ us Q I rv (.inl ⟨_, rfl, Got.here R g _ (.int _)⟩)
  · obtain ⟨v, rfl, r⟩ := reps1 r0
    cases r
    exact call_int1 pins s σ H _ us Q I rv (.inr ⟨_, rfl, Got.here R g _ (.int _)⟩)
  · -- sorted
    obtain ⟨v, rfl, r⟩ := reps1 r0
    split at g
    · rename_i kvs hd
      split at g
      · rename_i ys hy
        obtain ⟨l, a, rfl, rfl, hl, _, Dd⟩ := dct_rep R hd r
        have e := Vals.ref1 rv
        subst e
        exact sorted_dict hc hu I R Dd hy fun b ws hb rw' => new_listL R rw' hb g
      · exact g.elim
    · split at g
      · rename_i ys hy
        obtain ⟨xs, hx, hy⟩ := Option.bind_eq_some_iff.mp hy
        have hz := newL_len g
        have hz' : xs.length ≤ sizeLine := by rw [← sortD_len hy]; exact hz
        obtain ⟨a, ws, rfl, q, hh⟩ := lis_rep R hx r
        have e := Vals.ref1 rv
        subst e
        exact sorted_list hu I R q hh hz' hy fun b ws hb rw' => new_listL R rw' hb g
      · exact g.elim
  · -- list
    obtain ⟨v, rfl, r⟩ := reps1 r0
    split at g
    · rename_i xs hx
      obtain ⟨a, ws, rfl, q, hh⟩ := seq_rep R hx r
      exact call_list_of pins s σ H _ us Q I rv ⟨a, ws, rfl, hh, fun l hl => new_listL R q hl g⟩
    · exact g.elim
  · -- tuple
    obtain ⟨v, rfl, r⟩ := reps1 r0
    split at g
    · rename_i xs hx
      obtain ⟨a, ws, rfl, q, hh⟩ := seq_rep R hx r
      refine call_tuple_of pins s σ H _ us Q I rv ⟨a, ws, rfl, ?_⟩
      rcases hh with hh | hh
      · exact .inl ⟨hh, fun l hl => g ρ _ (Ext.grow hl _) (R.grow hl _) _ (.tup (SqT.of upd_same) (q.ext (Ext.grow hl _)))⟩
      · exact .inr ⟨hh, Got.here R g _ (.tup hh q)⟩
    · exact g.elim
  · -- sum
    obtain ⟨v, rfl, r⟩ := reps1 r0
    split at g
    · rename_i ns hn
      obtain ⟨xs, hx, hn⟩ := Option.bind_eq_some_iff.mp hn
      obtain ⟨a, ws, rfl, q, hh⟩ := lis_rep R hx r
      have e := reps_ints q hn
      subst e
      exact cr_sum hc pins s σ H _ us Q I rv ⟨a, ns, rfl, hh, Got.here R g _ (.int _)⟩
    · exact g.elim
  · -- divmod
    obtain ⟨v, u, rfl, r1, r2⟩ := reps2 r0
    cases r1
    cases r2
    split at g
    · rename_i hj
      exact call_divmod pins s σ H _ us Q I rv ⟨_, _, rfl, hj, fun p hp => g ρ _ (Ext.grow hp _) (R.grow hp _) _ (.tup (SqT.of upd_same) (.cons (.int _) (.cons (.int _) .nil)))⟩
    · exact g.elim
  · exact g.elim
end
end Ev

/-! Methods of lists and dicts; stores. -/
namespace Ev
open PySem PySem.Spec PyProof.Rows L2

def kdT : Kd → String
  | .l => "list" | .d => "dict"
def mtName : Mt → Str
  | .append => "append" | .clear => "clear" | .pop0 => "pop" | .pop1 => "pop" | .get1 => "get" | .get2 => "get" | .setdef => "setdefault"
def mtId : Kd → Mt → String
  | .l, .append => "list.append" | .l, .clear => "list.clear" | .l, .pop0 => "list.pop" | .l, .pop1 => "list.pop"
  | .d, .pop1 => "dict.pop" | .d, .get1 => "dict.get" | .d, .get2 => "dict.get" | .d, .setdef => "dict.setdefault"
  | _, _ => ""
section
variable {X : Cx} {cv : Nat → Value} {pins : List (Addr × Obj)} {σ : L2.St} {H : Hp} {s : Shared} {ρ : List Addr} {st : Sto}
theorem mt_slot {k : Kd} {m : Mt} (h : mtId k m ≠ "") : PlainAttrs (kdT k) ∧ Slot (kdT k) (mtName m) (mtId k m) ∧ typeOf (.builtin (mtId k m)) = pure (.type "method_descriptor") := by
  cases k <;> cases m <;> first
    | exact absurd rfl h
    | exact ⟨PySem.F.plainAttrs_list, PySem.F.slot_list_append, PySem.F.type_list_append⟩
    | exact ⟨PySem.F.plainAttrs_list, PySem.F.slot_list_clear, PySem.F.type_list_clear⟩
    | exact ⟨PySem.F.plainAttrs_list, PySem.F.slot_list_pop, PySem.F.type_list_pop⟩
    | exact ⟨PySem.F.plainAttrs_dict, PySem.F.slot_dict_pop, PySem.F.type_dict_pop⟩
    | exact ⟨PySem.F.plainAttrs_dict, PySem.F.slot_dict_get, PySem.F.type_dict_get⟩
    | exact ⟨PySem.F.plainAttrs_dict, PySem.F.slot_dict_setdefault, PySem.F.type_dict_setdefault⟩
/-- of what kind it is, in the machine -/
theorem kind_is (I : Inv X pins σ H s) (R : Rel (pm X cv) ρ H st) {x : D} {v : V} {u : Value} {k : Kd} (r : Rep X.K ρ H v x) (ru : RelV v u) (h : kindD st x = some k) :
    s.TypeIs u (kdT k) ∧ ∀ a, u = .ref a → ∃ ob, s.heap.get? a = some ob ∧ ob.dict = none := by
  cases x with
  | ref l =>
    cases r with
    | ref hl =>
      cases ru
      rw [kindD] at h
      cases e : st[l]? with
      | none => rw [e] at h; cases h
      | some o =>
        rw [e] at h
        cases o with
        | lst ds =>
          cases h
          obtain ⟨vs, h1, _⟩ := R.obj l _ _ hl e
          exact tyV_is (x := .ref _) I rfl (.inl ⟨rfl, vs, SqL.of h1⟩)
        | dct kvs =>
          cases h
          obtain ⟨o, xs, es, ep, h1, h2, h3, h4, _⟩ := R.obj l _ _ hl e
          have e1 := (I.hok _ _ h1).1
          refine ⟨⟨o, e1, h4.1⟩, fun a e2 => ?_⟩
          cases e2
          exact ⟨o, e1, h4.2.1⟩
  | _ => cases h
theorem mt_ok (hu : X.A.units + 74 < cLine) {k : Kd} {m : Mt} {x : D} {ds : List D} {v : V} {vs : List V} {u : Value} {us : List Value} {Q : VK} {W : Value → Option Addr → Hp → Prop} (I : Inv X pins σ H s) (R : Rel (pm X cv) ρ H st) (r : Rep X.K ρ H v x) (rs : Reps X.K ρ H vs ds) (ru : RelV v u) (rus : Vals vs us)
    (g : Got (pm X cv) ρ H (mt k m x ds st) (fun r _ ρ' H' => ∀ v, Rep X.K ρ' H' v r → Q v H') W) : mtId k m ≠ "" ∧ wpAny (model X.prog X.w) X.A (call (.builtin (mtId k m)) (u :: us)) (EP X pins σ Q) X.xe s := by
  cases x with
  | ref l =>
    cases r with
    | ref hl =>
      rename_i a
      simp only [mt] at g
      split at g
      · -- a list
        rename_i xs hs
        obtain ⟨ws, h1, h2⟩ := R.obj l _ _ hl hs
        have put : ∀ {zs : List V} {ys : List D}, Reps X.K ρ H zs ys → Rel (pm X cv) ρ (upd H a (.lst zs)) (st.set l (.lst ys)) ∧ Ext ρ H ρ (upd H a (.lst zs)) := fun {zs ys} rz => by
          have hx : Ext ρ H ρ (upd H a (.lst zs)) := Ext.put (List.mem_of_getElem? hl) (by rw [h1]; trivial) _
          exact R.put hl ⟨zs, upd_same, rz.ext hx⟩
        have z := I.lstM h1
        unfold mtL at g
        split at g
        · split at g
          · rename_i hz
            refine ⟨by decide, ?_⟩
            obtain ⟨y, rfl, ry⟩ := reps1 rs
            obtain ⟨p1, p2⟩ := put (h2.append (.cons ry .nil))
            exact mt_append pins s σ H _ _ u us Q I ru rus ⟨a, ws, y, rfl, rfl, h1, by rw [h2.length, line_eq]; exact hz, g _ _ p2 p1 _ .non⟩
          · exact g.elim
        · refine ⟨by decide, ?_⟩
          cases rs
          obtain ⟨p1, p2⟩ := put .nil
          exact mt_clear pins s σ H _ _ u us Q I ru rus ⟨a, ws, rfl, rfl, h1, g _ _ p2 p1 _ .non⟩
        · refine ⟨by decide, ?_⟩
          cases rs
          split at g
          · rename_i y hy
            obtain ⟨w, hw, rw'⟩ := h2.get hy
            obtain ⟨p1, p2⟩ := put h2.dropLast
            exact mt_pop pins s σ H _ _ u us Q I ru rus ⟨a, ws, w, rfl, rfl, h1, by rw [h2.length]; exact hw, g _ _ p2 p1 _ (rw'.ext p2)⟩
          · exact g.elim
        · refine ⟨by decide, ?_⟩
          obtain ⟨y, rfl, ry⟩ := reps1 rs
          cases ry
          split at g
          · rename_i j hj
            split at g
            · rename_i y hy
              obtain ⟨w, hw, rw'⟩ := h2.get hy
              obtain ⟨p1, p2⟩ := put (h2.eraseIdx j)
              obtain ⟨q1, q2, q3, q4⟩ := ixN_seq (by rw [← place_eq]; exact hj)
              have hz := z.1
              rw [h2.length] at hz
              have h63 : sizeLine < 2 ^ 63 := line63
              exact mt_popAt pins s σ H _ _ u us Q I ru rus ⟨a, ws, _, j, w, rfl, rfl, h1, by omega, by omega, by rw [h2.length]; exact q1, hw, g _ _ p2 p1 _ (rw'.ext p2)⟩
            · exact g.elim
          · exact g.elim
        · exact g.elim
      · -- a dict
        rename_i kvs hs
        have Dd : DctR (pm X cv) ρ H a kvs := R.obj l _ _ hl hs
        obtain ⟨xs, hm, hp, hsy, hz, hlen⟩ := dct_is I Dd
        cases ru
        unfold mtD at g
        split at g
        · split at g
          · rename_i hk
            refine ⟨by decide, ?_⟩
            obtain ⟨y, rfl, ry⟩ := reps1 rs
            obtain ⟨u1, rfl, ru1⟩ := vals1 rus
            obtain ⟨c, rfl, rfl, ki⟩ := key_is I hk ry ru1
            rcases look (X := X) hk hp with ⟨e1, e2⟩ | ⟨d', b', u', v', e1, e2, e3, e4⟩
            · rw [e1] at g; exact g.elim
            · rw [e1] at g
              refine call_pop_heap (hsz := by rw [hlen]; exact hz) (more := []) (.inl rfl) (F.args_dict_pop_2 _ _) (room8 hu) ki hsy hm e2 fun h' hm' hs' => ?_
              obtain ⟨H', I', R', x'⟩ := dct_put (t' := s.toks + (nestedKind X.prog X.w).draws (toK _)) I R hl Dd hm' hs' (paired_del hk hp) (Nat.le_trans (dDel_length _ _) hz)
              exact ⟨v', H', I', e3, g _ _ x' R' _ (e4.ext x')⟩
          · exact g.elim
        · split at g
          · rename_i hk
            refine ⟨by decide, ?_⟩
            obtain ⟨y, rfl, ry⟩ := reps1 rs
            obtain ⟨u1, rfl, ru1⟩ := vals1 rus
            obtain ⟨c, rfl, rfl, ki⟩ := key_is I hk ry ru1
            refine call_meetsIn F.slot_dict_get hm.typeIs F.entry_dict_get (F.args_dict_get_2 _ _) (meetsH_dict_get (nestedKind X.prog X.w) a c hsy) ⟨room8 hu, _, xs, ki, hm, ?_⟩
            rcases look (X := X) hk hp with ⟨e1, e2⟩ | ⟨d', b', u', v', e1, e2, e3, e4⟩
            · rw [e1] at g
              rw [e2]
              exact ⟨.non, H, I.tok _, rfl, Got.here R g _ .non⟩
            · rw [e1] at g
              rw [e2]
              exact ⟨v', H, I.tok _, e3, Got.here R g _ e4⟩
          · exact g.elim
        · split at g
          · rename_i hk
            refine ⟨by decide, ?_⟩
            obtain ⟨y, y2, rfl, ry, ry2⟩ := reps2 rs
            obtain ⟨u1, u2, rfl, ru1, ru2⟩ := vals2 rus
            obtain ⟨c, rfl, rfl, ki⟩ := key_is I hk ry ru1
            refine call_meetsIn F.slot_dict_get hm.typeIs F.entry_dict_get (F.args_dict_get_3 _ _ _) (meetsH_dict_get_default (nestedKind X.prog X.w) a c hsy u2) ⟨room8 hu, _, xs, ki, hm, ?_⟩
            rcases look (X := X) hk hp with ⟨e1, e2⟩ | ⟨d', b', u', v', e1, e2, e3, e4⟩
            · rw [e1] at g
              rw [e2]
              exact ⟨y2, H, I.tok _, ru2, Got.here R g _ ry2⟩
            · rw [e1] at g
              rw [e2]
              exact ⟨v', H, I.tok _, e3, Got.here R g _ e4⟩
          · exact g.elim
        · split at g
          · rename_i hk
            rw [Bool.and_eq_true] at hk
            obtain ⟨hk, hz2⟩ := hk
            have hz3 : kvs.length < line := of_decide_eq_true hz2
            refine ⟨by decide, ?_⟩
            obtain ⟨y, y2, rfl, ry, ry2⟩ := reps2 rs
            obtain ⟨u1, u2, rfl, ru1, ru2⟩ := vals2 rus
            obtain ⟨c, rfl, rfl, ki⟩ := key_is I hk ry ru1
            refine call_setdefault_heap (hsz := by rw [hlen]; exact hz) (room8 hu) ki hsy hm (fun p hp' => ?_) fun hn h' hm' hs' => ?_
            · rcases look (X := X) hk hp with ⟨e1, e2⟩ | ⟨d', b', u', v', e1, e2, e3, e4⟩
              · rw [e2] at hp'; cases hp'
              · rw [e1] at g
                rw [e2] at hp'
                cases hp'
                exact ⟨v', H, I.tok _, e3, Got.here R g _ e4⟩
            · rcases look (X := X) hk hp with ⟨e1, e2⟩ | ⟨d', b', u', v', e1, e2, e3, e4⟩
              · rw [e1] at g
                obtain ⟨H', I', R', x'⟩ := dct_put (t' := s.toks + (nestedKind X.prog X.w).draws (toK _)) I R hl Dd hm' hs' (paired_set hp ⟨hk, rfl, ry, y2, ru2, ry2⟩) (Nat.le_trans (dSet_length _ _ _) (by rw [line_eq]; exact hz3))
                exact ⟨y2, H', I', ru2, g _ _ x' R' _ (ry2.ext x')⟩
              · rw [e2] at hn; cases hn
          · exact g.elim
        · exact g.elim
      · exact g.elim
  | _ => exact g.elim
/-- o[i] = v -/
def PutD (p : Pm) : V → V → V → Hp → (Hp → Prop) → Prop := fun o i v H Q => ∃ ρ st x y z st', Rel p ρ H st ∧ Rep p.K ρ H o x ∧ Rep p.K ρ H i y ∧ Rep p.K ρ H v z ∧ putD x y z st = some st' ∧ ∀ H', Ext ρ H ρ H' → Rel p ρ H' st' → Q H'
theorem put_ok (hu : X.A.units + 74 < cLine) : PSet X (PutD (pm X cv)) := by
  intro pins s σ H o i v ov iv u Q I ro ri rv h
  obtain ⟨ρ, st, x, y, z, st', R, r1, r2, r3, hp, q⟩ := h
  unfold putD at hp
  cases x with
  | ref l =>
    cases r1 with
    | ref hl =>
      rename_i a
      simp only at hp
      cases hs : st[l]? with
      | none => rw [hs] at hp; cases hp
      | some ob =>
        rw [hs] at hp
        cases ob with
        | lst xs =>
          cases r2 with
          | int k =>
            obtain ⟨j, hj, rfl⟩ := Option.map_eq_some_iff.mp hp
            obtain ⟨ws, h1, h2⟩ := R.obj l _ _ hl hs
            have hx : Ext ρ H ρ (upd H a (.lst (ws.set j v))) := Ext.put (List.mem_of_getElem? hl) (by rw [h1]; trivial) _
            obtain ⟨p1, _⟩ := R.put (o := .lst (ws.set j v)) (q := .lst (xs.set j z)) hl ⟨_, upd_same, (h2.set r3 j).ext hx⟩
            exact set_list pins s σ H _ _ v ov iv u Q I ro ri rv ⟨a, ws, k, j, rfl, rfl, h1, by rw [h2.length, ← place_eq]; exact hj, q _ hx p1⟩
          | _ => cases hp
        | dct kvs =>
          simp only at hp
          split at hp
          · rename_i hk
            cases hp
            rw [Bool.and_eq_true] at hk
            obtain ⟨hk, hz2⟩ := hk
            have hz3 : kvs.length < line := of_decide_eq_true hz2
            have Dd : DctR (pm X cv) ρ H a kvs := R.obj l _ _ hl hs
            obtain ⟨xs, hm, hp, hsy, hz, hlen⟩ := dct_is I Dd
            cases ro
            obtain ⟨c, rfl, rfl, ki⟩ := key_is I hk r2 ri
            refine wpAny_setItem_heap (hsz := by rw [hlen]; exact hz) (room8 hu) ki hm fun h' hm' hs' => ?_
            obtain ⟨H', I', R', x'⟩ := dct_put (t' := s.toks + (nestedKind X.prog X.w).draws (toK _)) I R hl Dd hm' hs' (paired_set hp ⟨hk, rfl, r2, v, rv, r3⟩) (Nat.le_trans (dSet_length _ _ _) (by rw [line_eq]; exact hz3))
            exact ⟨H', I', q _ x' R'⟩
          · cases hp
  | _ => cases hp
end
end Ev

/-! From the program's text to the language. -/
namespace Ev
open PySem PySem.Spec PyProof.Rows L2

/-- where a text stands: the slots' names, the scope, which cells may be stored, the defs' names, the module's numbers -/
structure CC where
  N : List Str
  sc : Scope
  own : Str → Bool
  fs : List Str
  gs : List (Str × Int)
def ixOf : List Str → Str → Option Nat
  | [], _ => none
  | y :: ys, x => if y = x then some 0 else (ixOf ys x).map (· + 1)
theorem ixOf_at : ∀ {N : List Str} {x : Str} {i : Nat}, ixOf N x = some i → N[i]? = some x
  | y :: ys, x, i, h => by
    rw [ixOf] at h
    split at h
    · cases h
      subst y
      rfl
    · obtain ⟨j, hj, rfl⟩ := Option.map_eq_some_iff.mp h
      simpa using ixOf_at hj
def plainName (x : Str) : Bool := !(x == ("__debug__" : Str)) && !(x == ("__classdict__" : Str)) && !(x == ("__name__" : Str))
def CC.glob (c : CC) (x : Str) : Bool := decide (c.sc.names.lookup x = some .globalImplicit) && plainName x
def CC.slot (c : CC) (x : Str) : Option Nat := if (decide (c.sc.names.lookup x = some .local) || decide (c.sc.names.lookup x = some .cell) || decide (c.sc.names.lookup x = some .free)) && plainName x then ixOf c.N x else none
def CC.store (c : CC) (x : Str) : Option Nat := if decide (c.sc.names.lookup x = some .local) || (decide (c.sc.names.lookup x = some .cell) && c.own x) then ixOf c.N x else none
def biTab : List (Str × Nat × Bi) := [("len", 1, .len), ("abs", 1, .abs), ("min", 1, .min1), ("max", 1, .max1), ("min", 2, .min2), ("max", 2, .max2), ("int", 1, .int), ("sorted", 1, .sorted), ("list", 1, .list), ("tuple", 1, .tuple), ("sum", 1, .sum), ("divmod", 2, .divmod)]
def biOf (x : Str) (n : Nat) : Option Bi := (biTab.find? fun p => decide (p.1 = x) && decide (p.2.1 = n)).map (·.2.2)
def tyTab : List (Str × Ty) := [("int", .int), ("bool", .bool), ("str", .str), ("list", .list), ("tuple", .tuple)]
def tyNamed (x : Str) : Option Ty := (tyTab.find? fun p => decide (p.1 = x)).map (·.2)
def mtTab : List (Str × Nat × Mt) := [("append", 1, .append), ("clear", 0, .clear), ("pop", 0, .pop0), ("pop", 1, .pop1), ("get", 1, .get1), ("get", 2, .get2), ("setdefault", 2, .setdef)]
def mtOf (x : Str) (n : Nat) : Option Mt := (mtTab.find? fun p => decide (p.1 = x) && decide (p.2.1 = n)).map (·.2.2)
/-- the built-in names that are used -/
def bltNames : List Str := ["len", "abs", "min", "max", "int", "sorted", "list", "tuple", "sum", "divmod", "isinstance", "bool", "str", "range", "enumerate", "zip"]

def isLc : Expr → Bool
  | .ListComp .. => true
  | .SetComp .. => true
  | .DictComp .. => true
  | _ => false
/-- no star, no slice, no set: what the rules' small print asks -/
def plainE : Expr → Bool
  | .Starred .. => false
  | .Slice .. => false
  | .Set .. => false
  | _ => true
mutual
def cT (c : CC) : Nat → Expr → Option Tg
  | 0, _ => none
  | _ + 1, .Name x _ => (c.store x).map .nm
  | n + 1, .Tuple es _ _ => (cTs c n es).map .tp
  | _ + 1, _ => none
def cTs (c : CC) : Nat → List Expr → Option (List Tg)
  | _, [] => some []
  | 0, _ => none
  | n + 1, e :: es => if plainE e then match cT c n e, cTs c n es with
    | some t, some ts => some (t :: ts)
    | _, _ => none
    else none
end
mutual
def tgSlots : Tg → List Nat
  | .nm i => [i]
  | .tp ts => tgsSlots ts
def tgsSlots : List Tg → List Nat
  | [] => []
  | t :: ts => tgSlots t ++ tgsSlots ts
end
def ownOf (N : List Str) (names : List (Str × NameKind)) : List (Str × Nat) :=
  names.filterMap fun y => if decide (y.2 = .local) || decide (y.2 = .cell) then (ixOf N y.1).map fun i => (y.1, i) else none
/-- within a comprehension -/
def CC.blk (c : CC) (scope : Scope) : CC := { c with sc := relS scope c.sc, own := fun x => scope.names.lookup x == some .cell }
def isTup : Expr → Bool
  | .Tuple .. => true
  | _ => false
/-- no call without arguments -/
def okBase : Expr → Bool
  | .Call (.Name _ _) [] [] _ => false
  | _ => true
def walkCall (c : CC) : Expr → Option (Nat × List Expr)
  | .Call (.Name x _) args [] _ => if c.glob x && decide (ixOf c.fs x = none) then (if x = ("range" : Str) then some (0, args) else if x = ("enumerate" : Str) then some (1, args) else if x = ("zip" : Str) then some (2, args) else none) else none
  | _ => none
mutual
def cE : Nat → CC → Expr → Option E
  | 0, _, _ => none
  | n + 1, c, a => match a with
    | .Name x _ => match c.slot x with
      | some i => some (.var i)
      | none => if c.glob x then (c.gs.lookup x).map fun i => .cst (.int i) else none
    | .Constant k _ _ => match k with
      | .none => some (.cst .non)
      | .bool b => some (.cst (.bl b))
      | .int i => some (.cst (.int i))
      | .str x => some (.cst (.str x))
      | _ => none
    | .Tuple es _ _ => (cEs n c es).map .tup
    | .List es _ => (cEs n c es).map .lst
    | .Dict ks vs _ => if ks.isEmpty && vs.isEmpty then some .dct0 else none
    | .BinOp x op y _ => (cE n c x).bind fun a => (cE n c y).map fun b => .bin op a b
    | .UnaryOp op x _ => match op with
      | .USub => (cE n c x).map .neg
      | .Not => (cE n c x).map .not
      | _ => none
    | .Compare x ops ys _ => match ops, ys with
      | [op], [y] => if plainE y then (cE n c x).bind fun a => (cE n c y).map fun b => .cmp op a b else none
      | [op, op'], [y, z] => if plainE y && plainE z then (cE n c x).bind fun a => (cE n c y).bind fun b => (cE n c z).map fun d => .chn op op' a b d else none
      | _, _ => none
    | .BoolOp op es _ => match es with
      | [] => none
      | e :: es => (cEs n c (e :: es)).map (.bop op)
    | .IfExp t x y _ => (cE n c t).bind fun k => (cE n c x).bind fun a => (cE n c y).map fun b => .ite k a b
    | .Subscript x s _ => match s with
      | .Slice lo hi none _ => (cE n c x).bind fun a => (cO n c lo).bind fun l => (cO n c hi).map fun h => .sl a l h
      | s => if plainE s then (cE n c x).bind fun a => (cE n c s).map fun b => .ix a b else none
    | .Call f args kws pos => if kws.isEmpty then match f with
      | .Name x _ => if c.glob x then
          match ixOf c.fs x with
          | some k => if args.isEmpty then none else (cEs n c args).map (.fn k)
          | none => match args with
            | [] => none
            | [a, .Name t _] => if x = ("isinstance" : Str) then (if c.glob t then (if decide (ixOf c.fs t = none) then (tyNamed t).bind fun t => if plainE a then (cE n c a).map fun e => .isi e t else none else none) else none)
                else (biOf x 2).bind fun f => (cEs n c args).map (.bi f)
            | a :: as => (biOf x args.length).bind fun f => (cEs n c args).map (.bi f)
          else none
      | .Attribute o m apos => if apos.endLine == pos.line && plainE o && okBase o then (mtOf m args.length).bind fun m => (cE n c o).bind fun x => (cEs n c args).map fun es => .mt m x es else none
      | _ => none
      else none
    | .ListComp elt gs scope _ => match gs with
      | [⟨tg, iter, ifs, 0⟩] => if blkC c.N c.sc scope (ownOf c.N scope.names) && plainE iter && decide (ifs.length ≤ 1) then
          (cT (c.blk scope) n tg).bind fun t => if (tgSlots t).all (fun i => ((ownOf c.N scope.names).map (·.2)).contains i) then
            (cI n c tg iter).bind fun it => (cEs n (c.blk scope) ifs).bind fun ts => (cE n (c.blk scope) elt).map fun e => .lc ((ownOf c.N scope.names).map (·.2)) t it ts e else none
          else none
      | _ => none
    | _ => none
def cEs : Nat → CC → List Expr → Option (List E)
  | _, _, [] => some []
  | 0, _, _ => none
  | n + 1, c, e :: es => if plainE e then match cE n c e, cEs n c es with
    | some x, some xs => some (x :: xs)
    | _, _ => none
    else none
def cO : Nat → CC → Option Expr → Option (Option E)
  | _, _, none => some none
  | 0, _, _ => none
  | n + 1, c, some e => (cE n c e).map some
/-- what a loop or a comprehension walks; tg its target -/
def cI : Nat → CC → Expr → Expr → Option I
  | 0, _, _, _ => none
  | n + 1, c, tg, a => match walkCall c a with
    | some (0, [x]) => if plainE x then (cE n c x).map .rng1 else none
    | some (0, [x, y]) => if plainE x && plainE y then (cE n c x).bind fun a => (cE n c y).map fun b => .rng2 a b else none
    | some (1, [x]) => if isTup tg && plainE x then (cE n c x).map .enm else none
    | some (2, [x, y]) => if isTup tg && plainE x && plainE y then (cE n c x).bind fun a => (cE n c y).map fun b => .zip a b else none
    | some _ => none
    | none => (cE n c a).map .seq
end
end Ev

/-! Expressions: what the evaluator gives, the model gives. -/
namespace Ev
open PySem PySem.Spec PyProof.Rows L2

/-- what is promised of a def -/
def spOf (p : Pm) (m : List D → Sto → Res D) : Sp := fun vs H Q E => ∃ ρ st ds, Rel p ρ H st ∧ Reps p.K ρ H vs ds ∧ Got p ρ H (m ds st) (fun r _ ρ' H' => ∀ v, Rep p.K ρ' H' v r → Q v H') E
structure Gd (cl : Calls) (cv : Nat → Value) (k : Nat) (X : Cx) (c : CC) : Prop where
  N : X.N = c.N
  nd : X.N.Nodup
  sc : X.env.scope = c.sc
  own : ∀ x, c.own x = true → X.fn x = true
  calm : X.calm = true
  room : Room k X.A
  fns : ∀ (i : Nat) x, c.fs[i]? = some x → ∃ fa fd ps, X.mg x = some (.ref fa) ∧ PySem.W.keepIn X.K (.ref fa) = true ∧ Binds X.K fd ps [] ∧ FnOk X.prog X.w X.K X.mg X.base (CX X.prog X.w) k fa fd ps (spOf (pm X cv) (cl i))
  gs : ∀ x i, c.gs.lookup x = some i → ∃ t, X.mg x = some (.int i t)
  blt : ∀ x, x ∈ bltNames → X.mg x = none

/-! ### readings by the evaluator -/
def lE (p : Pm) (W : WX) (m : En → Sto → Res D) : TE := fun σ H Q => ∃ ρ env st, EnvR p.K ρ H σ env ∧ Rel p ρ H st ∧ Got p ρ H (m env st) (fun d _ ρ' H' => ∀ v, Rep p.K ρ' H' v d → Q v H') (fun c dd H' => W c dd σ H')
def lA (p : Pm) (W : WX) (m : En → Sto → Res (List D)) : TA := fun σ H Q => ∃ ρ env st, EnvR p.K ρ H σ env ∧ Rel p ρ H st ∧ Got p ρ H (m env st) (fun d _ ρ' H' => ∀ v, Reps p.K ρ' H' v d → Q v H') (fun c dd H' => W c dd σ H')
def lT (p : Pm) (W : WX) (m : En → Sto → Res Bool) : TT := fun σ H Q => ∃ ρ env st, EnvR p.K ρ H σ env ∧ Rel p ρ H st ∧ Got p ρ H (m env st) (fun d _ _ H' => Q d H') (fun c dd H' => W c dd σ H')
def lO (p : Pm) (W : WX) (m : En → Sto → Res (Option Int)) : TO := fun σ H Q => ∃ ρ env st, EnvR p.K ρ H σ env ∧ Rel p ρ H st ∧ Got p ρ H (m env st) (fun d _ _ H' => Q d H') (fun c dd H' => W c dd σ H')
section
variable {p : Pm} {W : WX} {ρ : List Addr} {H : Hp} {σ : L2.St} {env : En} {st : Sto} {β : Type}
theorem lE_bind {m : En → Sto → Res D} {f : D → Sto → Res β} {Qf : β → Sto → List Addr → Hp → Prop} {K : VK} (er : EnvR p.K ρ H σ env) (R : Rel p ρ H st) (g : Got p ρ H ((m env st).bind f) Qf (fun c dd H' => W c dd σ H'))
    (nx : ∀ x st1 ρ1 H1 v, Ext ρ H ρ1 H1 → Rel p ρ1 H1 st1 → EnvR p.K ρ1 H1 σ env → Rep p.K ρ1 H1 v x → Got p ρ1 H1 (f x st1) Qf (fun c dd H' => W c dd σ H') → K v H1) : lE p W m σ H K :=
  ⟨ρ, env, st, er, R, (Got.bind g).mono fun x st1 ρ1 H1 _ _ ⟨e1, R1, g1⟩ v rv => nx x st1 ρ1 H1 v e1 R1 (er.ext e1) rv g1⟩
theorem lA_bind {m : En → Sto → Res (List D)} {f : List D → Sto → Res β} {Qf : β → Sto → List Addr → Hp → Prop} {K : List V → Hp → Prop} (er : EnvR p.K ρ H σ env) (R : Rel p ρ H st) (g : Got p ρ H ((m env st).bind f) Qf (fun c dd H' => W c dd σ H'))
    (nx : ∀ x st1 ρ1 H1 v, Ext ρ H ρ1 H1 → Rel p ρ1 H1 st1 → EnvR p.K ρ1 H1 σ env → Reps p.K ρ1 H1 v x → Got p ρ1 H1 (f x st1) Qf (fun c dd H' => W c dd σ H') → K v H1) : lA p W m σ H K :=
  ⟨ρ, env, st, er, R, (Got.bind g).mono fun x st1 ρ1 H1 _ _ ⟨e1, R1, g1⟩ v rv => nx x st1 ρ1 H1 v e1 R1 (er.ext e1) rv g1⟩
theorem lT_bind {m : En → Sto → Res Bool} {f : Bool → Sto → Res β} {Qf : β → Sto → List Addr → Hp → Prop} {K : Bool → Hp → Prop} (er : EnvR p.K ρ H σ env) (R : Rel p ρ H st) (g : Got p ρ H ((m env st).bind f) Qf (fun c dd H' => W c dd σ H'))
    (nx : ∀ x st1 ρ1 H1, Ext ρ H ρ1 H1 → Rel p ρ1 H1 st1 → EnvR p.K ρ1 H1 σ env → Got p ρ1 H1 (f x st1) Qf (fun c dd H' => W c dd σ H') → K x H1) : lT p W m σ H K :=
  ⟨ρ, env, st, er, R, (Got.bind g).mono fun x st1 ρ1 H1 _ _ ⟨e1, R1, g1⟩ => nx x st1 ρ1 H1 e1 R1 (er.ext e1) g1⟩
theorem lO_bind {m : En → Sto → Res (Option Int)} {f : Option Int → Sto → Res β} {Qf : β → Sto → List Addr → Hp → Prop} {K : Option Int → Hp → Prop} (er : EnvR p.K ρ H σ env) (R : Rel p ρ H st) (g : Got p ρ H ((m env st).bind f) Qf (fun c dd H' => W c dd σ H'))
    (nx : ∀ x st1 ρ1 H1, Ext ρ H ρ1 H1 → Rel p ρ1 H1 st1 → EnvR p.K ρ1 H1 σ env → Got p ρ1 H1 (f x st1) Qf (fun c dd H' => W c dd σ H') → K x H1) : lO p W m σ H K :=
  ⟨ρ, env, st, er, R, (Got.bind g).mono fun x st1 ρ1 H1 _ _ ⟨e1, R1, g1⟩ => nx x st1 ρ1 H1 e1 R1 (er.ext e1) g1⟩
theorem asB_some {d : D} {Q : Bool → Sto → List Addr → Hp → Prop} {W' : Value → Option Addr → Hp → Prop} (g : Got p ρ H (asB d st) Q W') : ∃ b, d = .bl b ∧ Got p ρ H (.ok b st) Q W' := by
  cases d <;> first | exact g.elim | exact ⟨_, rfl, g⟩
theorem asI_some {d : D} {Q : Int → Sto → List Addr → Hp → Prop} {W' : Value → Option Addr → Hp → Prop} (g : Got p ρ H (asI d st) Q W') : ∃ b, d = .int b ∧ Got p ρ H (.ok b st) Q W' := by
  cases d <;> first | exact g.elim | exact ⟨_, rfl, g⟩
end

section
variable {p : Pm} {ρ : List Addr} {H : Hp} {st : Sto} {β : Type} {Q : β → Sto → List Addr → Hp → Prop} {W : Value → Option Addr → Hp → Prop}
theorem got_asI {x : D} {f : Int → Sto → Res β} (g : Got p ρ H ((asI x st).bind f) Q W) : ∃ i, x = .int i ∧ Got p ρ H (f i st) Q W := by
  cases x <;> first | exact g.elim | exact ⟨_, rfl, g⟩
theorem got_asB {x : D} {f : Bool → Sto → Res β} (g : Got p ρ H ((asB x st).bind f) Q W) : ∃ i, x = .bl i ∧ Got p ρ H (f i st) Q W := by
  cases x <;> first | exact g.elim | exact ⟨_, rfl, g⟩
theorem got_of {α : Type} {x : Option α} {f : α → Sto → Res β} (g : Got p ρ H ((Res.of x st).bind f) Q W) : ∃ i, x = some i ∧ Got p ρ H (f i st) Q W := by
  cases x <;> first | exact g.elim | exact ⟨_, rfl, g⟩
end
/-! ### small print -/
theorem _root_.L2.PE.mono {X : Cx} {e : Expr} {t t' : TE} (h : PE X e t) (m : ∀ σ H Q, t' σ H Q → t σ H Q) : PE X e t' := ⟨fun pins s σ H Q I q => h.run pins s σ H Q I (m σ H Q q)⟩
theorem _root_.L2.PT.mono {X : Cx} {e : Expr} {t t' : TT} (h : PT X e t) (m : ∀ σ H Q, t' σ H Q → t σ H Q) : PT X e t' := ⟨fun pins s σ H Q I q => h.run pins s σ H Q I (m σ H Q q)⟩
theorem _root_.L2.PW.mono {X : Cx} {e : Expr} {t t' : TT} (h : PW X e t) (m : ∀ σ H Q, t' σ H Q → t σ H Q) : PW X e t' := ⟨fun wh pins s σ H Q I q => h.run wh pins s σ H Q I (m σ H Q q)⟩
theorem _root_.L2.PA.mono {X : Cx} {e : List Expr} {t t' : TA} (h : PA X e t) (m : ∀ σ H Q, t' σ H Q → t σ H Q) : PA X e t' := ⟨fun pos pins s σ H Q I q => h.run pos pins s σ H Q I (m σ H Q q)⟩
theorem _root_.L2.PO.mono {X : Cx} {e : Option Expr} {t t' : TO} (h : PO X e t) (m : ∀ σ H Q, t' σ H Q → t σ H Q) : PO X e t' := ⟨fun pins s σ H Q I q => h.run pins s σ H Q I (m σ H Q q)⟩
theorem star_cons {e : Expr} {es : List Expr} {env : Env} (h : plainE e = true) : starEach (e :: es) env = (false, eval e env) :: starEach es env := by
  cases e <;> first | rfl | (simp [plainE] at h)
theorem plain_ix {e : Expr} (h : plainE e = true) : PlainIx e := by
  cases e <;> first | (intro _ _; rfl) | (simp [plainE] at h)
theorem plain_mark {op : CmpOp} {e : Expr} (h : plainE e = true) : behindInMarks op e = false := by
  cases e <;> first | rfl | (simp [plainE] at h)
theorem plain_folded {e : Expr} {env : Env} (h : plainE e = true) (x : Value) : foldedSetIterable e env x = pure x := by
  cases e <;> first | rfl | (simp [plainE] at h)
theorem base_ok {o : Expr} {f : Str} {env : Env} {w : Sem Value} (h : okBase o = true) : attributeBase o f env w = w := by
  unfold attributeBase
  split
  · simp [okBase] at h
  · rfl
/-- a test that is no and, or, not, comparison, if -/
def leafE : Expr → Bool
  | .UnaryOp .Not _ _ => false
  | .BoolOp .. => false
  | .IfExp .. => false
  | .Compare .. => false
  | _ => true
theorem leaf_true {e : Expr} {env : Env} (h : leafE e = true) (w : Sem Value) : isTrue e env w = (do let v ← w; standAt e.pos; holding [v] (truthy v)) := by
  cases e with
  | UnaryOp op a pos => cases op <;> first | rfl | (simp [leafE] at h)
  | BoolOp => simp [leafE] at h
  | IfExp => simp [leafE] at h
  | Compare => simp [leafE] at h
  | _ => rfl
theorem plain_parts {x : Str} (h : plainName x = true) : (x == ("__debug__" : Str)) = false ∧ (x == ("__classdict__" : Str)) = false ∧ x ≠ ("__name__" : Str) := by
  unfold plainName at h
  simp only [Bool.and_eq_true, Bool.not_eq_true'] at h
  refine ⟨h.1.1, h.1.2, fun z => ?_⟩
  have q := h.2
  rw [z] at q
  simp at q
section
variable {cl : Calls} {cv : Nat → Value} {k : Nat} {X : Cx} {c : CC} {W : WX}
theorem Gd.units (g : Gd cl cv k X c) : X.A.units + 74 < cLine := by
  have := g.room.un
  omega
theorem Gd.slot (g : Gd cl cv k X c) {x : Str} {i : Nat} (h : c.slot x = some i) : X.N[i]? = some x ∧ Vis X.env.scope x ∧ plainName x = true := by
  unfold CC.slot at h
  split at h
  · rename_i hc
    rw [Bool.and_eq_true, Bool.or_eq_true, Bool.or_eq_true, decide_eq_true_eq, decide_eq_true_eq, decide_eq_true_eq] at hc
    refine ⟨by rw [g.N]; exact ixOf_at h, ?_, hc.2⟩
    rw [g.sc]
    rcases hc.1 with (q | q) | q
    · exact .inl q
    · exact .inr (.inl q)
    · exact .inr (.inr q)
  · cases h
theorem Gd.glob (g : Gd cl cv k X c) {x : Str} (h : c.glob x = true) : Gl X x ∧ plainName x = true := by
  unfold CC.glob at h
  rw [Bool.and_eq_true, decide_eq_true_eq] at h
  refine ⟨?_, h.2⟩
  show X.env.scope.names.lookup x = _
  rw [g.sc]
  exact h.1
theorem Gd.store (g : Gd cl cv k X c) {x : Str} {i : Nat} (h : c.store x = some i) : X.N[i]? = some x ∧ Loc X.env.scope x ∧ (X.fn x = true ∨ X.env.scope.names.lookup x = some .local) := by
  unfold CC.store at h
  split at h
  · rename_i hc
    rw [Bool.or_eq_true, Bool.and_eq_true, decide_eq_true_eq, decide_eq_true_eq] at hc
    refine ⟨by rw [g.N]; exact ixOf_at h, ?_, ?_⟩
    · rw [g.sc]
      rcases hc with q | q
      · exact .inl q
      · exact .inr q.1
    · rcases hc with q | q
      · exact .inr (by rw [g.sc]; exact q)
      · exact .inl (g.own x q.2)
  · cases h
/-- names and numbers -/
theorem pe_name (g : Gd cl cv k X c) {x : Str} {pos : Pos} {i : Nat} (h : c.slot x = some i) : PE X (.Name x pos) (lE (pm X cv) W (evalE cl (.var i))) := by
  obtain ⟨h1, h2, h3⟩ := g.slot h
  obtain ⟨p1, p2, p3⟩ := plain_parts h3
  refine (pe_var h1 h2 p1 p2).mono fun σ H Q q => ?_
  obtain ⟨ρ, env, st, er, R, gg⟩ := q
  rw [evalE] at gg
  obtain ⟨d, hd, q⟩ := Got.of R gg
  obtain ⟨v, hv, rv⟩ := er.val i d (En.val_some hd)
  exact ⟨v, hv, q v rv⟩
theorem pe_cst {a : Expr} {v : V} {d : D} (h : PE X a (tC v)) (hr : ∀ ρ H, Rep X.K ρ H v d) : PE X a (lE (pm X cv) W (evalE cl (.cst d))) := by
  refine h.mono fun σ H Q q => ?_
  obtain ⟨ρ, env, st, er, R, gg⟩ := q
  rw [evalE] at gg
  exact Got.here R gg v (hr ρ H)
/-- a list of expressions -/
theorem pa_nilD : PA X [] (lA (pm X cv) W (evalEs cl [])) := pa_nil.mono fun σ H Q q => by
  obtain ⟨ρ, env, st, er, R, gg⟩ := q
  rw [evalEs] at gg
  exact Got.here R gg [] .nil
theorem pa_consD {a : Expr} {as : List Expr} {e : E} {es : List E} (hp : plainE a = true) (ha : PE X a (lE (pm X cv) W (evalE cl e))) (hr : PA X as (lA (pm X cv) W (evalEs cl es))) : PA X (a :: as) (lA (pm X cv) W (evalEs cl (e :: es))) :=
  (pa_cons ha hr (star_cons hp)).mono fun σ H Q q => by
    obtain ⟨ρ, env, st, er, R, gg⟩ := q
    rw [evalEs] at gg
    refine lE_bind er R gg fun x st1 ρ1 H1 v e1 R1 er1 rv g1 => ?_
    refine lA_bind er1 R1 g1 fun xs st2 ρ2 H2 vs e2 R2 er2 rvs g2 => ?_
    exact Got.here R2 g2 (v :: vs) (.cons (rv.ext e2) rvs)
theorem plain_any {es : List Expr} {env : Env} (h : ∀ e ∈ es, plainE e = true) (pos : Pos) : (backTo pos (starEach es env)).any (·.1) = false := by
  induction es with
  | nil => rfl
  | cons e es ih =>
    rw [star_cons (h e List.mem_cons_self)]
    have := ih fun x hx => h x (List.mem_cons_of_mem _ hx)
    unfold backTo at this ⊢
    simpa using this
theorem plain_all {es : List Expr} {env : Env} (h : ∀ e ∈ es, plainE e = true) (pos : Pos) : (backTo pos (starEach es env)).all (fun x => !x.1) = true := by
  induction es with
  | nil => rfl
  | cons e es ih =>
    rw [star_cons (h e List.mem_cons_self)]
    have := ih fun x hx => h x (List.mem_cons_of_mem _ hx)
    unfold backTo at this ⊢
    simpa using this
/-- displays -/
theorem pe_tupD {as : List Expr} {es : List E} {x1 : Nat} {pos : Pos} (ha : PA X as (lA (pm X cv) W (evalEs cl es))) : PE X (.Tuple as x1 pos) (lE (pm X cv) W (evalE cl (.tup es))) := (pe_tup ha).mono fun σ H Q q => by
  obtain ⟨ρ, env, st, er, R, gg⟩ := q
  rw [evalE] at gg
  refine lA_bind er R gg fun xs st1 ρ1 H1 vs e1 R1 er1 rvs g1 => ?_
  split at g1
  · rename_i hz
    refine ⟨by rw [rvs.length, line_eq]; exact hz, fun a hn => ?_⟩
    exact g1 ρ1 _ (Ext.grow hn _) (R1.grow hn _) _ (.tup (SqT.of upd_same) (rvs.ext (Ext.grow hn _)))
  · exact g1.elim
theorem pe_lstD {as : List Expr} {es : List E} {pos : Pos} (ha : PA X as (lA (pm X cv) W (evalEs cl es))) : PE X (.List as pos) (lE (pm X cv) W (evalE cl (.lst es))) := (pe_lst ha).mono fun σ H Q q => by
  obtain ⟨ρ, env, st, er, R, gg⟩ := q
  rw [evalE] at gg
  refine lA_bind er R gg fun xs st1 ρ1 H1 vs e1 R1 er1 rvs g1 => ?_
  exact ⟨by rw [rvs.length]; exact newL_len g1, fun a hn => new_listL R1 rvs hn g1⟩
theorem pe_dctD {pos : Pos} : PE X (.Dict [] [] pos) (lE (pm X cv) W (evalE cl .dct0)) := ⟨fun pins s σ H Q I q => by
  obtain ⟨ρ, env, st, er, R, gg⟩ := q
  rw [evalE] at gg
  have hn : H s.heap.objs.size = none := I.hok.fresh (Nat.le_refl _)
  have e0 : (s.heap.push { cls := .type "dict", data := .dict #[] }).get? s.heap.objs.size = some { cls := .type "dict", data := .dict #[] } := Heap.get?_push_size _ rfl
  obtain ⟨xs, o, es, ep, q1, q2, q3, q4, q5, q6⟩ := (⟨[], Heap.DictOfH.new s.heap⟩ : ∃ xs, (s.heap.push { cls := .type "dict", data := .dict #[] }).DictOfH (nestedKind X.prog X.w) s.heap.objs.size xs)
  rw [e0] at q1
  cases q1
  refine wpAny_Dict_empty ⟨.ref s.heap.objs.size, _, I.laid (a := s.heap.objs.size) (o := .ext fun h => h.get? s.heap.objs.size = some { cls := .type "dict", data := .dict #[] }) (t' := s.toks) (fun _ _ q => Heap.get?_push_of_some _ q) (Nat.le_refl _) (ext_ok e0), rfl, ?_⟩
  refine gg _ _ (Ext.laid hn _) (R.laid hn ?_) _ (Rep.new R)
  exact ⟨_, [], #[], 0, upd_same, beq_eq_false_iff_ne.mpr (Nat.ne_of_gt I.big), Nat.zero_le _, q2, rfl, rfl, List.nodup_nil, .nil⟩⟩
/-- operators -/
theorem pe_binD (g : Gd cl cv k X c) {a b : Expr} {x y : E} {op : Operator} {pos : Pos} (ha : PE X a (lE (pm X cv) W (evalE cl x))) (hb : PE X b (lE (pm X cv) W (evalE cl y))) : PE X (.BinOp a op b pos) (lE (pm X cv) W (evalE cl (.bin op x y))) :=
  (pe_op (op_bin op) ha hb).mono fun σ H Q q => by
    obtain ⟨ρ, env, st, er, R, gg⟩ := q
    rw [evalE] at gg
    refine lE_bind er R gg fun x st1 ρ1 H1 v e1 R1 er1 rv g1 => ?_
    refine lE_bind er1 R1 g1 fun y st2 ρ2 H2 u e2 R2 er2 ru g2 => ?_
    exact ⟨_, ρ2, st2, x, y, R2, rv.ext e2, ru, g2⟩
theorem pe_negD {a : Expr} {x : E} {pos : Pos} (ha : PE X a (lE (pm X cv) W (evalE cl x))) : PE X (.UnaryOp .USub a pos) (lE (pm X cv) W (evalE cl (.neg x))) :=
  (pe_un un_neg ha).mono fun σ H Q q => by
    obtain ⟨ρ, env, st, er, R, gg⟩ := q
    rw [evalE] at gg
    refine lE_bind er R gg fun x st1 ρ1 H1 v e1 R1 er1 rv g1 => ?_
    obtain ⟨i, rfl, g2⟩ := got_asI g1
    cases rv
    exact ⟨i, rfl, Got.here R1 g2 _ (.int _)⟩
theorem pe_notD {a : Expr} {x : E} {pos : Pos} (ha : PE X a (lE (pm X cv) W (evalE cl x))) : PE X (.UnaryOp .Not a pos) (lE (pm X cv) W (evalE cl (.not x))) :=
  (pe_not ha).mono fun σ H Q q => by
    obtain ⟨ρ, env, st, er, R, gg⟩ := q
    rw [evalE] at gg
    refine lE_bind er R gg fun x st1 ρ1 H1 v e1 R1 er1 rv g1 => ?_
    obtain ⟨i, rfl, g2⟩ := got_asB g1
    cases rv
    exact ⟨i, rfl, Got.here R1 g2 _ (.bl _)⟩
/-- the evaluator's test -/
abbrev test (cl : Calls) (e : E) : En → Sto → Res Bool := fun env st => (evalE cl e env st).bind asB
theorem bind_assoc {α β γ : Type} (r : Res α) (f : α → Sto → Res β) (h : β → Sto → Res γ) : (r.bind f).bind h = r.bind fun a st => (f a st).bind h := by cases r <;> rfl
theorem bind_ite {α β : Type} (b : Bool) (x y : Res α) (f : α → Sto → Res β) : (if b = true then x else y).bind f = if b = true then x.bind f else y.bind f := by cases b <;> rfl
theorem pt_notD {a : Expr} {x : E} {pos : Pos} (ha : PT X a (lT (pm X cv) W (test cl x))) : PT X (.UnaryOp .Not a pos) (lT (pm X cv) W (test cl (.not x))) :=
  (pt_not ha).mono fun σ H Q q => by
    obtain ⟨ρ, env, st, er, R, gg⟩ := q
    have e : test cl (.not x) env st = (test cl x env st).bind fun b st => .ok (!b) st := by
      show (evalE cl (.not x) env st).bind asB = ((evalE cl x env st).bind asB).bind _
      rw [evalE, bind_assoc, bind_assoc]
      congr 1
      funext d st
      cases d <;> rfl
    rw [e] at gg
    exact lT_bind er R gg fun b st1 ρ1 H1 e1 R1 er1 g1 => Got.here R1 g1
/-- a test is a value that is a bool -/
theorem lT_lE {e : E} {σ : L2.St} {H : Hp} {Q : Bool → Hp → Prop} {p : Pm} (h : lT p W (test cl e) σ H Q) : lE p W (evalE cl e) σ H (fun x H1 => ∃ b, x = .bl b ∧ Q b H1) := by
  obtain ⟨ρ, env, st, er, R, gg⟩ := h
  refine lE_bind er R gg fun x st1 ρ1 H1 v e1 R1 er1 rv g1 => ?_
  obtain ⟨b, rfl, g2⟩ := asB_some g1
  cases rv
  exact ⟨b, rfl, Got.here R1 g2⟩
theorem pt_leafD {a : Expr} {x : E} (hl : leafE a = true) (ha : PE X a (lE (pm X cv) W (evalE cl x))) : PT X a (lT (pm X cv) W (test cl x)) :=
  (pt_val ha (leaf_true hl)).mono fun σ H Q q => lT_lE q
theorem rd_cmp {x y : E} {op : CmpOp} {p : Pm} {σ : L2.St} {H : Hp} {Q : VK} (h : lE p W (evalE cl (.cmp op x y)) σ H Q) : tOp (OpD p fun x y st => (Res.of (cmp op x y st) st).bind fun b st => .ok (.bl b) st) (lE p W (evalE cl x)) (lE p W (evalE cl y)) σ H Q := by
  obtain ⟨ρ, env, st, er, R, gg⟩ := h
  rw [evalE] at gg
  refine lE_bind er R gg fun x st1 ρ1 H1 v e1 R1 er1 rv g1 => ?_
  refine lE_bind er1 R1 g1 fun y st2 ρ2 H2 u e2 R2 er2 ru g2 => ?_
  exact ⟨_, ρ2, st2, x, y, R2, rv.ext e2, ru, g2⟩
theorem pe_cmpD (g : Gd cl cv k X c) {a b : Expr} {x y : E} {op : CmpOp} {pos : Pos} (hp : plainE b = true) (ha : PE X a (lE (pm X cv) W (evalE cl x))) (hb : PE X b (lE (pm X cv) W (evalE cl y))) : PE X (.Compare a [op] [b] pos) (lE (pm X cv) W (evalE cl (.cmp op x y))) :=
  (pe_cmpR (op_cmp (cv := cv) g.units op) ha hb (plain_mark hp)).mono fun σ H Q q => rd_cmp q
theorem pt_cmpD (g : Gd cl cv k X c) {a b : Expr} {x y : E} {op : CmpOp} {pos : Pos} (hp : plainE b = true) (ha : PE X a (lE (pm X cv) W (evalE cl x))) (hb : PE X b (lE (pm X cv) W (evalE cl y))) : PT X (.Compare a [op] [b] pos) (lT (pm X cv) W (test cl (.cmp op x y))) :=
  (pt_cmpR (op_cmp (cv := cv) g.units op) ha hb (plain_mark hp)).mono fun σ H Q q => rd_cmp (lT_lE q)
/-- a chain of two -/
abbrev cmpM (op : CmpOp) : D → D → Sto → Res D := fun x y st => (Res.of (cmp op x y st) st).bind fun b st => .ok (.bl b) st
theorem rd_chn {x y z : E} {op op' : CmpOp} {p : Pm} {σ : L2.St} {H : Hp} {Q : VK} (h : lE p W (evalE cl (.chn op op' x y z)) σ H Q) : tChain (OpD p (cmpM op)) (OpD p (cmpM op')) (lE p W (evalE cl x)) (lE p W (evalE cl y)) (lE p W (evalE cl z)) σ H Q := by
  obtain ⟨ρ, env, st, er, R, gg⟩ := h
  rw [evalE] at gg
  refine lE_bind er R gg fun x st1 ρ1 H1 v e1 R1 er1 rv g1 => ?_
  refine lE_bind er1 R1 g1 fun y st2 ρ2 H2 u e2 R2 er2 ru g2 => ?_
  obtain ⟨b, hb, g3⟩ := got_of g2
  refine ⟨fun _ _ _ => True, ρ2, st2, x, y, R2, rv.ext e2, ru, ?_⟩
  show Got p ρ2 H2 ((Res.of (cmp op x y st2) st2).bind _) _ _
  rw [hb]
  intro ρ3 H3 e3 R3 v3 rv3
  cases rv3
  refine ⟨b, rfl, ?_⟩
  cases b with
  | false =>
    refine ite_ff ?_
    exact g3 ρ3 H3 e3 R3 _ (.bl _)
  | true =>
    refine ite_tt ?_
    have g4 : Got p ρ2 H2 ((evalE cl z env st2).bind fun z st => (Res.of (cmp op' y z st) st).bind fun k st => .ok (D.bl k) st) _ _ := g3
    refine lE_bind (er2.ext e3) R3 (g4.step e3) fun z st4 ρ4 H4 w e4 R4 er4 rw' g5 => ?_
    exact ⟨_, ρ4, st4, y, z, R4, (ru.ext e3).ext e4, rw', g5⟩
theorem last_mark {op op' : CmpOp} {b d : Expr} (h : plainE d = true) : lastMarks [op, op'] [b, d] = false := plain_mark h
theorem pe_chnD (g : Gd cl cv k X c) {a b d : Expr} {x y z : E} {op op' : CmpOp} {pos : Pos} (hp' : plainE d = true) (ha : PE X a (lE (pm X cv) W (evalE cl x))) (hb : PE X b (lE (pm X cv) W (evalE cl y))) (hd : PE X d (lE (pm X cv) W (evalE cl z))) :
    PE X (.Compare a [op, op'] [b, d] pos) (lE (pm X cv) W (evalE cl (.chn op op' x y z))) :=
  (pe_chain (op_cmp (cv := cv) g.units op) (op_cmp (cv := cv) g.units op') ha hb hd (last_mark hp')).mono fun σ H Q q => rd_chn q
theorem pt_chnD (g : Gd cl cv k X c) {a b d : Expr} {x y z : E} {op op' : CmpOp} {pos : Pos} (hp' : plainE d = true) (ha : PE X a (lE (pm X cv) W (evalE cl x))) (hb : PE X b (lE (pm X cv) W (evalE cl y))) (hd : PE X d (lE (pm X cv) W (evalE cl z))) :
    PT X (.Compare a [op, op'] [b, d] pos) (lT (pm X cv) W (test cl (.chn op op' x y z))) :=
  (pt_chain (op_cmp (cv := cv) g.units op) (op_cmp (cv := cv) g.units op') ha hb hd (last_mark hp')).mono fun σ H Q q => rd_chn (lT_lE q)
/-- and, or -/
theorem pe_bop1 {op : BoolOp} {a : Expr} {x : E} {pos : Pos} (ha : PE X a (lE (pm X cv) W (evalE cl x))) : PE X (.BoolOp op [a] pos) (lE (pm X cv) W (evalB cl op [x])) :=
  (pe_one ha).mono fun σ H Q q => by
    obtain ⟨ρ, env, st, er, R, gg⟩ := q
    rw [evalB] at gg
    refine lE_bind er R gg fun x st1 ρ1 H1 v e1 R1 er1 rv g1 => ?_
    obtain ⟨b, rfl, g2⟩ := got_asB g1
    exact Got.here R1 g2 v rv
theorem pe_bop2 {op : BoolOp} {a b : Expr} {as : List Expr} {x y : E} {ys : List E} {pos : Pos} (ha : PE X a (lE (pm X cv) W (evalE cl x))) (hr : PE X (.BoolOp op (b :: as) pos) (lE (pm X cv) W (evalB cl op (y :: ys)))) :
    PE X (.BoolOp op (a :: b :: as) pos) (lE (pm X cv) W (evalB cl op (x :: y :: ys))) := by
  cases op with
  | And =>
    refine (pe_and ha hr).mono fun σ H Q q => ?_
    obtain ⟨ρ, env, st, er, R, gg⟩ := q
    rw [evalB] at gg
    refine lE_bind er R gg fun x st1 ρ1 H1 v e1 R1 er1 rv g1 => ?_
    obtain ⟨b, rfl, g2⟩ := got_asB g1
    cases rv
    refine ⟨b, rfl, ?_⟩
    cases b with
    | true => exact ite_tt ⟨ρ1, env, st1, er1, R1, g2⟩
    | false => exact ite_ff (Got.here R1 g2 _ (.bl _))
  | Or =>
    refine (pe_or ha hr).mono fun σ H Q q => ?_
    obtain ⟨ρ, env, st, er, R, gg⟩ := q
    rw [evalB] at gg
    refine lE_bind er R gg fun x st1 ρ1 H1 v e1 R1 er1 rv g1 => ?_
    obtain ⟨b, rfl, g2⟩ := got_asB g1
    cases rv
    refine ⟨b, rfl, ?_⟩
    cases b with
    | true => exact ite_tt (Got.here R1 g2 _ (.bl _))
    | false => exact ite_ff ⟨ρ1, env, st1, er1, R1, g2⟩
abbrev testB (cl : Calls) (op : BoolOp) (es : List E) : En → Sto → Res Bool := fun env st => (evalB cl op es env st).bind asB
theorem pw_bop1 {op : BoolOp} {a : Expr} {x : E} {pos : Pos} (ha : PT X a (lT (pm X cv) W (test cl x))) : PW X (.BoolOp op [a] pos) (lT (pm X cv) W (testB cl op [x])) := by
  have rd : ∀ σ H Q, lT (pm X cv) W (testB cl op [x]) σ H Q → lT (pm X cv) W (test cl x) σ H Q := fun σ H Q q => by
    obtain ⟨ρ, env, st, er, R, gg⟩ := q
    have e : testB cl op [x] env st = test cl x env st := by
      show (evalB cl op [x] env st).bind asB = (evalE cl x env st).bind asB
      rw [evalB, bind_assoc]
      congr 1
      funext d st
      cases d <;> rfl
    rw [e] at gg
    exact ⟨ρ, env, st, er, R, gg⟩
  cases op with
  | And => exact (pw_and1 ha).mono rd
  | Or => exact (pw_or1 ha).mono rd
theorem pw_bop2 {op : BoolOp} {a b : Expr} {as : List Expr} {x y : E} {ys : List E} {pos : Pos} (ha : PT X a (lT (pm X cv) W (test cl x))) (hr : PW X (.BoolOp op (b :: as) pos) (lT (pm X cv) W (testB cl op (y :: ys)))) :
    PW X (.BoolOp op (a :: b :: as) pos) (lT (pm X cv) W (testB cl op (x :: y :: ys))) := by
  have e : ∀ env st, testB cl op (x :: y :: ys) env st = (test cl x env st).bind fun b st => match op with
      | .And => if b = true then testB cl .And (y :: ys) env st else .ok false st
      | .Or => if b = true then .ok true st else testB cl .Or (y :: ys) env st := fun env st => by
    show (evalB cl op (x :: y :: ys) env st).bind asB = ((evalE cl x env st).bind asB).bind _
    rw [evalB, bind_assoc, bind_assoc]
    congr 1
    funext d st
    cases d with
    | bl b => cases op <;> cases b <;> rfl
    | _ => rfl
  cases op with
  | And =>
    refine (pw_and ha hr).mono fun σ H Q q => ?_
    obtain ⟨ρ, env, st, er, R, gg⟩ := q
    rw [e] at gg
    refine lT_bind er R gg fun b st1 ρ1 H1 e1 R1 er1 g1 => ?_
    cases b with
    | true => exact ite_tt ⟨ρ1, env, st1, er1, R1, g1⟩
    | false => exact ite_ff (Got.here R1 g1)
  | Or =>
    refine (pw_or ha hr).mono fun σ H Q q => ?_
    obtain ⟨ρ, env, st, er, R, gg⟩ := q
    rw [e] at gg
    refine lT_bind er R gg fun b st1 ρ1 H1 e1 R1 er1 g1 => ?_
    cases b with
    | true => exact ite_tt (Got.here R1 g1)
    | false => exact ite_ff ⟨ρ1, env, st1, er1, R1, g1⟩
/-- a if t else b -/
theorem rd_ite {t x y : E} {p : Pm} {σ : L2.St} {H : Hp} {Q : VK} (h : lE p W (evalE cl (.ite t x y)) σ H Q) : tIf (lT p W (test cl t)) (lE p W (evalE cl x)) (lE p W (evalE cl y)) σ H Q := by
  obtain ⟨ρ, env, st, er, R, gg⟩ := h
  rw [evalE, ← bind_assoc] at gg
  refine lT_bind er R gg fun b st1 ρ1 H1 e1 R1 er1 g1 => ?_
  cases b with
  | true => exact ite_tt ⟨ρ1, env, st1, er1, R1, g1⟩
  | false => exact ite_ff ⟨ρ1, env, st1, er1, R1, g1⟩
theorem pe_iteD {t a b : Expr} {u x y : E} {pos : Pos} (ht : PT X t (lT (pm X cv) W (test cl u))) (ha : PE X a (lE (pm X cv) W (evalE cl x))) (hb : PE X b (lE (pm X cv) W (evalE cl y))) : PE X (.IfExp t a b pos) (lE (pm X cv) W (evalE cl (.ite u x y))) :=
  (pe_ifExp ht ha hb).mono fun _ _ _ q => rd_ite q
theorem pt_iteD {t a b : Expr} {u x y : E} {pos : Pos} (ht : PT X t (lT (pm X cv) W (test cl u))) (ha : PT X a (lT (pm X cv) W (test cl x))) (hb : PT X b (lT (pm X cv) W (test cl y))) : PT X (.IfExp t a b pos) (lT (pm X cv) W (test cl (.ite u x y))) := ⟨fun pins s σ H Q I q => by
  obtain ⟨ρ, env, st, er, R, gg⟩ := q
  have e : test cl (.ite u x y) env st = (test cl u env st).bind fun b st => if b = true then test cl x env st else test cl y env st := by
    show (evalE cl (.ite u x y) env st).bind asB = ((evalE cl u env st).bind asB).bind _
    rw [evalE, bind_assoc, bind_assoc]
    congr 1
    funext d st
    rw [bind_assoc]
    congr 1
    funext b st
    cases b <;> rfl
  rw [e] at gg
  have h1 : lT (pm X cv) W (test cl u) σ H (fun b H1 => (b = true → lT (pm X cv) W (test cl x) σ H1 Q) ∧ (b = false → lT (pm X cv) W (test cl y) σ H1 Q)) :=
    lT_bind er R gg fun b st1 ρ1 H1 e1 R1 er1 g1 => by
      refine ⟨fun z => ?_, fun z => ?_⟩
      · subst z
        exact ⟨ρ1, env, st1, er1, R1, g1⟩
      · subst z
        exact ⟨ρ1, env, st1, er1, R1, g1⟩
  show wpAny (model X.prog X.w) X.A (isTrue (.IfExp t a b pos) X.env (eval (.IfExp t a b pos) X.env)) _ _ _
  rw [PySem.isTrue]
  refine wpAny_bind (thn (ht.run pins s σ H _ I h1) fun d s1 ⟨H1, I1, q1⟩ => ?_)
  cases d with
  | true =>
    rw [if_pos rfl]
    exact ha.run pins s1 σ H1 Q I1 (q1.1 rfl)
  | false =>
    rw [if_neg Bool.false_ne_true]
    exact hb.run pins s1 σ H1 Q I1 (q1.2 rfl)⟩
/-- subscripts and slices -/
theorem pe_ixD (g : Gd cl cv k X c) {a b : Expr} {x y : E} {pos : Pos} (hp : plainE b = true) (ha : PE X a (lE (pm X cv) W (evalE cl x))) (hb : PE X b (lE (pm X cv) W (evalE cl y))) : PE X (.Subscript a b pos) (lE (pm X cv) W (evalE cl (.ix x y))) :=
  (pe_ix (ix_ok (cv := cv) g.units) ha hb (plain_ix hp)).mono fun σ H Q q => by
    obtain ⟨ρ, env, st, er, R, gg⟩ := q
    rw [evalE] at gg
    refine lE_bind er R gg fun x st1 ρ1 H1 v e1 R1 er1 rv g1 => ?_
    refine lE_bind er1 R1 g1 fun y st2 ρ2 H2 u e2 R2 er2 ru g2 => ?_
    exact ⟨_, ρ2, st2, x, y, R2, rv.ext e2, ru, g2⟩
theorem po_noneD : PO X none (lO (pm X cv) W (evalO cl none)) := po_none.mono fun σ H Q q => by
  obtain ⟨ρ, env, st, er, R, gg⟩ := q
  rw [evalO] at gg
  exact Got.here R gg
theorem po_someD {a : Expr} {x : E} (ha : PE X a (lE (pm X cv) W (evalE cl x))) : PO X (some a) (lO (pm X cv) W (evalO cl (some x))) := (po_some ha).mono fun σ H Q q => by
  obtain ⟨ρ, env, st, er, R, gg⟩ := q
  rw [evalO] at gg
  refine lE_bind er R gg fun x st1 ρ1 H1 v e1 R1 er1 rv g1 => ?_
  obtain ⟨i, rfl, g2⟩ := got_asI g1
  cases rv
  exact ⟨i, rfl, Got.here R1 g2⟩
theorem pe_slD {a : Expr} {lo hi : Option Expr} {x : E} {l h : Option E} {p2 pos : Pos} (ha : PE X a (lE (pm X cv) W (evalE cl x))) (hl : PO X lo (lO (pm X cv) W (evalO cl l))) (hh : PO X hi (lO (pm X cv) W (evalO cl h))) :
    PE X (.Subscript a (.Slice lo hi none p2) pos) (lE (pm X cv) W (evalE cl (.sl x l h))) :=
  (pe_slice (sl_ok (cv := cv)) ha hl hh).mono fun σ H Q q => by
    obtain ⟨ρ, env, st, er, R, gg⟩ := q
    rw [evalE] at gg
    refine lE_bind er R gg fun x st1 ρ1 H1 v e1 R1 er1 rv g1 => ?_
    refine lO_bind er1 R1 g1 fun l st2 ρ2 H2 e2 R2 er2 g2 => ?_
    refine lO_bind er2 R2 g2 fun h st3 ρ3 H3 e3 R3 er3 g3 => ?_
    exact ⟨_, ρ3, st3, x, R3, (rv.ext e2).ext e3, g3⟩
/-- calls -/
theorem pe_fnD (g : Gd cl cv k X c) (tk : Takes X W) {x : Str} {p pos : Pos} {as : List Expr} {es : List E} {i : Nat} (hg : c.glob x = true) (hi : ixOf c.fs x = some i) (hne : as ≠ []) (hp : ∀ a ∈ as, plainE a = true) (ha : PA X as (lA (pm X cv) W (evalEs cl es))) :
    PE X (.Call (.Name x p) as [] pos) (lE (pm X cv) W (evalE cl (.fn i es))) := by
  obtain ⟨g1, g2⟩ := g.glob hg
  obtain ⟨d1, d2, d3⟩ := plain_parts g2
  obtain ⟨fa, fd, ps, m1, m2, m3, F⟩ := g.fns i x (ixOf_at hi)
  have rd : ∀ σ H Q, lE (pm X cv) W (evalE cl (.fn i es)) σ H Q → tCallSD (spOf (pm X cv) (cl i)) [] (fun σ => WE W σ) (lA (pm X cv) W (evalEs cl es)) σ H Q := fun σ H Q q => by
    obtain ⟨ρ, env, st, er, R, gg⟩ := q
    rw [evalE] at gg
    refine lA_bind er R gg fun xs st1 ρ1 H1 vs e1 R1 er1 rvs g1 => ?_
    rw [List.append_nil]
    exact ⟨ρ1, st1, xs, R1, rvs, g1⟩
  cases as with
  | nil => exact absurd rfl hne
  | cons a as =>
    refine (pe_callSD F g.room g1 m1 m2 m3 .nil (fun σ => passAt tk σ) ha d1 (star_cons (hp a List.mem_cons_self)) (plain_any (fun e he => hp e (List.mem_cons_of_mem _ he)) pos)).mono rd
theorem biTab_ok : ∀ p ∈ biTab, bootBuiltins p.1 = some (biVal p.2.2) ∧ p.1 ∈ bltNames := by
  have h : (biTab.all fun p => decide (bootBuiltins p.1 = some (biVal p.2.2)) && decide (p.1 ∈ bltNames)) = true := by decide +kernel
  intro p hp
  have q := List.all_eq_true.mp h p hp
  rw [Bool.and_eq_true, decide_eq_true_eq, decide_eq_true_eq] at q
  exact q
theorem biOf_ok {x : Str} {n : Nat} {f : Bi} (h : biOf x n = some f) : bootBuiltins x = some (biVal f) ∧ x ∈ bltNames := by
  unfold biOf at h
  obtain ⟨p, hp, rfl⟩ := Option.map_eq_some_iff.mp h
  have h1 := List.find?_some hp
  rw [Bool.and_eq_true, decide_eq_true_eq] at h1
  obtain ⟨q1, q2⟩ := biTab_ok p (List.mem_of_find?_eq_some hp)
  rw [h1.1] at q1 q2
  exact ⟨q1, q2⟩
theorem pe_biD (g : Gd cl cv k X c) {x : Str} {p pos : Pos} {a : Expr} {as : List Expr} {es : List E} {n : Nat} {f : Bi} (hg : c.glob x = true) (hf : biOf x n = some f) (hp : ∀ b ∈ a :: as, plainE b = true) (ha : PA X (a :: as) (lA (pm X cv) W (evalEs cl es))) :
    PE X (.Call (.Name x p) (a :: as) [] pos) (lE (pm X cv) W (evalE cl (.bi f es))) := by
  obtain ⟨g1, g2⟩ := g.glob hg
  obtain ⟨d1, d2, d3⟩ := plain_parts g2
  obtain ⟨b1, b2⟩ := biOf_ok hf
  have hm := g.blt x b2
  have rd : ∀ σ H Q, lE (pm X cv) W (evalE cl (.bi f es)) σ H Q → tCB (CalD (pm X cv) (bi f)) (lA (pm X cv) W (evalEs cl es)) σ H Q := fun σ H Q q => by
    obtain ⟨ρ, env, st, er, R, gg⟩ := q
    rw [evalE] at gg
    refine lA_bind er R gg fun xs st1 ρ1 H1 vs e1 R1 er1 rvs g1 => ?_
    exact ⟨_, ρ1, st1, xs, R1, rvs, g1⟩
  have hs := star_cons (es := as) (env := X.env) (hp a List.mem_cons_self)
  have hpl := plain_any (env := X.env) (fun e he => hp e (List.mem_cons_of_mem _ he)) pos
  have hc := bi_ok (X := X) (cv := cv) g.calm g.units f
  cases f <;> first
    | exact (pe_callB hc g1 hm b1 ha d3 d1 hs hpl).mono rd
    | exact (pe_callTy hc g1 hm b1 ha d3 d1 hs hpl).mono rd
theorem tyTab_ok : ∀ p ∈ tyTab, bootBuiltins p.1 = some (.type (tyName p.2)) ∧ p.1 ∈ bltNames := by
  have h : (tyTab.all fun p => decide (bootBuiltins p.1 = some (.type (tyName p.2))) && decide (p.1 ∈ bltNames)) = true := by decide +kernel
  intro p hp
  have q := List.all_eq_true.mp h p hp
  rw [Bool.and_eq_true, decide_eq_true_eq, decide_eq_true_eq] at q
  exact q
theorem tyNamed_ok {x : Str} {t : Ty} (h : tyNamed x = some t) : bootBuiltins x = some (.type (tyName t)) ∧ x ∈ bltNames := by
  unfold tyNamed at h
  obtain ⟨p, hp, rfl⟩ := Option.map_eq_some_iff.mp h
  have h1 := List.find?_some hp
  rw [decide_eq_true_eq] at h1
  obtain ⟨q1, q2⟩ := tyTab_ok p (List.mem_of_find?_eq_some hp)
  rw [h1] at q1 q2
  exact ⟨q1, q2⟩
def rIsiD (p : Pm) (t : Ty) : List V → Hp → VK → Prop := fun xs H Q => ∃ ρ st v d b, xs = [v, .ty (tyName t)] ∧ Rel p ρ H st ∧ Rep p.K ρ H v d ∧ isi st d t = some b ∧ Q (.bl b) H
theorem pe_isiD (g : Gd cl cv k X c) {tn : Str} {p p' pos : Pos} {a : Expr} {e : E} {t : Ty} (hg : c.glob "isinstance" = true) (hg' : c.glob tn = true) (ht : tyNamed tn = some t) (hp : plainE a = true) (ha : PE X a (lE (pm X cv) W (evalE cl e))) :
    PE X (.Call (.Name "isinstance" p) [a, .Name tn p'] [] pos) (lE (pm X cv) W (evalE cl (.isi e t))) := by
  obtain ⟨g1, g2⟩ := g.glob hg
  obtain ⟨d1, d2, d3⟩ := plain_parts g2
  obtain ⟨g1', g2'⟩ := g.glob hg'
  obtain ⟨d1', d2', d3'⟩ := plain_parts g2'
  obtain ⟨b1, b2⟩ := tyNamed_ok ht
  have hc : CallR X (.builtin "isinstance") (rIsiD (pm X cv) t) := by
    intro pins s σ H xs us Q I rv h
    obtain ⟨ρ, st, v, d, b, rfl, R, r, hb, q⟩ := h
    exact isi_ok I R r hb rv q
  have hT : PE X (.Name tn p') (tC (.ty (tyName t))) := pe_bltn g1' (g.blt tn b2) b1 rfl d3' d1'
  refine (pe_callB hc g1 (g.blt _ (by decide)) (by decide +kernel) (pa_cons ha (pa_cons hT pa_nil) (star_cons hp)) d3 d1 (star_cons hp) (plain_any (es := [.Name tn p']) (fun e he => ?_) pos)).mono fun σ H Q q => ?_
  · simp at he
    subst he
    rfl
  · obtain ⟨ρ, env, st, er, R, gg⟩ := q
    rw [evalE] at gg
    refine lE_bind er R gg fun x st1 ρ1 H1 v e1 R1 er1 rv g1 => ?_
    obtain ⟨b, hb, g2⟩ := got_of g1
    exact ⟨ρ1, st1, v, x, b, rfl, R1, rv, hb, Got.here R1 g2 _ (.bl b)⟩
/-- methods -/
theorem mtTab_ok : ∀ p ∈ mtTab, p.1 = mtName p.2.2 ∧ p.2.1 ≤ 2 := by
  intro p hp
  simp only [mtTab, List.mem_cons, List.not_mem_nil, or_false] at hp
  rcases hp with rfl | rfl | rfl | rfl | rfl | rfl | rfl <;> exact ⟨rfl, by simp⟩
theorem mtOf_ok {x : Str} {n : Nat} {m : Mt} (h : mtOf x n = some m) : x = mtName m ∧ n ≤ 2 := by
  unfold mtOf at h
  obtain ⟨p, hp, rfl⟩ := Option.map_eq_some_iff.mp h
  have h1 := List.find?_some hp
  rw [Bool.and_eq_true, decide_eq_true_eq, decide_eq_true_eq] at h1
  rw [← h1.1, ← h1.2]
  exact mtTab_ok p (List.mem_of_find?_eq_some hp)
theorem kindM_ok {m : Mt} {st : Sto} {d : D} {kd : Kd} (h : kindM m st d = some kd) : kindD st d = some kd ∧ mtId kd m ≠ "" := by
  unfold kindM at h
  split at h
  · rename_i k hk
    split at h
    · rename_i ho
      cases h
      refine ⟨hk, ?_⟩
      cases kd <;> cases m <;> first | decide | (simp [mtOk] at ho)
    · cases h
  · cases h
theorem pe_mtD (g : Gd cl cv k X c) {o : Expr} {apos pos : Pos} {as : List Expr} {x : E} {es : List E} {m : Mt} (ho : okBase o = true) (hl : (apos.endLine == pos.line) = true) (hp : ∀ b ∈ as, plainE b = true) (hlen : as.length < 20) (hes : as = [] → es = [])
    (hx : PE X o (lE (pm X cv) W (evalE cl x))) (ha : PA X as (lA (pm X cv) W (evalEs cl es))) : PE X (.Call (.Attribute o (mtName m) apos) as [] pos) (lE (pm X cv) W (evalE cl (.mt m x es))) := by
  refine ⟨fun pins s σ H Q I q => ?_⟩
  obtain ⟨ρ, env, st, er, R, gg⟩ := q
  rw [evalE] at gg
  have hx' : lE (pm X cv) W (evalE cl x) σ H (fun v H1 => ∃ d st1 ρ1 kd, Rel (pm X cv) ρ1 H1 st1 ∧ EnvR X.K ρ1 H1 σ env ∧ Rep X.K ρ1 H1 v d ∧ kindM m st1 d = some kd ∧
      Got (pm X cv) ρ1 H1 ((evalEs cl es env st1).bind fun ds st => mt kd m d ds st) (fun d _ ρ' H' => ∀ v, Rep X.K ρ' H' v d → Q v H') (fun c dd H' => W c dd σ H')) :=
    lE_bind er R gg fun d st1 ρ1 H1 v e1 R1 er1 rv g1 => by
      obtain ⟨kd, hk, g2⟩ := got_of g1
      exact ⟨d, st1, ρ1, kd, R1, er1, rv, hk, g2⟩
  have hfew : ((backTo pos (starEach as X.env)).all (fun x => !x.1) && (backToKw pos (keywordEach [] X.env)).all (fun x => x.1.isSome) && decide (as.length + ([] : List Keyword).length + (if ([] : List Keyword).isEmpty then 0 else 1) < 30)) = true := by
    rw [plain_all hp]
    show (true && true && decide (as.length + 0 + 0 < 30)) = true
    rw [decide_eq_true (by omega)]
    rfl
  refine wpAny_Call_method_late (base_ok ho) hfew hl rfl (thn (hx.run pins s σ H _ I hx') fun u s1 ⟨v, H1, I1, ru, d, st1, ρ1, kd, R1, er1, rv, hk, g2⟩ => ?_)
  obtain ⟨hk1, hk2⟩ := kindM_ok hk
  obtain ⟨m1, m2, m3⟩ := mt_slot hk2
  obtain ⟨t1, t2⟩ := kind_is I1 R1 rv ru hk1
  refine ⟨kdT kd, mtId kd m, m1, m2, m3, t1, t2, ?_⟩
  cases as with
  | nil =>
    have e0 : es = [] := hes rfl
    subst e0
    have g3 : Got (pm X cv) ρ1 H1 (mt kd m d [] st1) (fun d _ ρ' H' => ∀ v, Rep X.K ρ' H' v d → Q v H') (fun c dd H' => W c dd σ H') := by
      rw [evalEs] at g2
      exact g2
    exact Calls.callWith_builtin rfl (PySem.evalArgs_none (mt_ok g.units I1 R1 rv .nil ru .nil g3).2)
  | cons a as =>
  have hA := ha.run pos pins s1 σ H1 (fun vs H2 => ∃ ds st2 ρ2, Ext ρ1 H1 ρ2 H2 ∧ Rel (pm X cv) ρ2 H2 st2 ∧ Reps X.K ρ2 H2 vs ds ∧ Got (pm X cv) ρ2 H2 (mt kd m d ds st2) (fun d _ ρ' H' => ∀ v, Rep X.K ρ' H' v d → Q v H') (fun c dd H' => W c dd σ H')) I1
    (lA_bind er1 R1 g2 fun ds st2 ρ2 H2 vs e2 R2 er2 rvs g3 => ⟨ds, st2, ρ2, e2, R2, rvs, g3⟩)
  have hst := star_cons (es := as) (env := X.env) (hp a List.mem_cons_self)
  have hpl := plain_any (env := X.env) hp pos
  rw [hst] at hA hpl ⊢
  refine Calls.callWith_builtin hpl (Calls.evalArgs_plain ?_)
  refine thn hA fun us s2 ⟨vs, H2, I2, r2, ds, st2, ρ2, e2, R2, rvs, g3⟩ => ?_
  exact (mt_ok g.units I2 R2 (rv.ext e2) rvs ru r2 g3).2
end
end Ev

/-! Targets, walks, comprehensions; all expressions. -/
namespace Ev
open PySem PySem.Spec PyProof.Rows L2

/-! ### targets -/
/-- only these slots have changed -/
def But (sl : List Nat) (σ σ' : L2.St) : Prop := σ'.length = σ.length ∧ ∀ i, i ∉ sl → σ'[i]? = σ[i]?
theorem But.trans {a b : List Nat} {σ σ1 σ2 : L2.St} (h : But a σ σ1) (h' : But b σ1 σ2) : But (a ++ b) σ σ2 :=
  ⟨h'.1.trans h.1, fun i hi => (h'.2 i fun z => hi (List.mem_append_right _ z)).trans (h.2 i fun z => hi (List.mem_append_left _ z))⟩
theorem wipe_at (σ : L2.St) : ∀ (vs : List Nat) (i : Nat), (L2.wipe σ vs)[i]? = if i ∈ vs then (if i < σ.length then some none else none) else σ[i]?
  | [], i => by simp [L2.wipe]
  | v :: vs, i => by
    unfold L2.wipe
    by_cases hv : v = i
    · subst hv
      by_cases hl : v < σ.length
      · rw [List.getElem?_set_self (by rw [wipe_length]; exact hl)]
        simp [hl]
      · rw [List.getElem?_eq_none (by simp [wipe_length]; omega)]
        simp [hl]
    · rw [List.getElem?_set_ne hv, wipe_at σ vs i]
      have e : (i ∈ v :: vs) ↔ (i ∈ vs) := by
        rw [List.mem_cons]
        exact ⟨fun h => h.resolve_left fun z => hv z.symm, .inr⟩
      simp only [e]
theorem wipe_but {sl vs : List Nat} {σ σ' : L2.St} (h : But sl (L2.wipe σ vs) σ') (hs : ∀ i ∈ sl, i ∈ vs) : L2.wipe σ' vs = L2.wipe σ vs := by
  apply List.ext_getElem?
  intro i
  have hl : σ'.length = σ.length := by rw [h.1, wipe_length]
  rw [wipe_at, hl]
  by_cases hi : i ∈ vs
  · rw [if_pos hi, wipe_at, if_pos hi]
  · rw [if_neg hi]
    exact h.2 i fun z => hi (hs i z)
def lG (p : Pm) (t : Tg) : TG := fun v σ H Q => ∃ ρ env st d env', EnvR p.K ρ H σ env ∧ Rel p ρ H st ∧ Rep p.K ρ H v d ∧ bindT st t d env = some env' ∧ ∀ σ', EnvR p.K ρ H σ' env' → But (tgSlots t) σ σ' → Q σ' H
def lGs (p : Pm) (ts : List Tg) : TGs := fun vs σ H Q => ∃ ρ env st ds env', EnvR p.K ρ H σ env ∧ Rel p ρ H st ∧ Reps p.K ρ H vs ds ∧ ds.length = ts.length ∧ bindTs st ts ds env = some env' ∧ ∀ σ', EnvR p.K ρ H σ' env' → But (tgsSlots ts) σ σ' → Q σ' H
theorem _root_.L2.PG.or {X : Cx} {e : Expr} {t t' : TG} (h : PG X e t) (h' : PG X e t') : PG X e (fun v σ H Q => t v σ H Q ∨ t' v σ H Q) := ⟨fun pins s σ H v u Q I r q => q.elim (h.run pins s σ H v u Q I r) (h'.run pins s σ H v u Q I r)⟩
theorem _root_.L2.PG.mono {X : Cx} {e : Expr} {t t' : TG} (h : PG X e t) (m : ∀ v σ H Q, t' v σ H Q → t v σ H Q) : PG X e t' := ⟨fun pins s σ H v u Q I r q => h.run pins s σ H v u Q I r (m v σ H Q q)⟩
theorem _root_.L2.PGs.mono {X : Cx} {e : List Expr} {t t' : TGs} (h : PGs X e t) (m : ∀ v σ H Q, t' v σ H Q → t v σ H Q) : PGs X e t' := ⟨fun pins s σ H v u Q I r q => h.run pins s σ H v u Q I r (m v σ H Q q)⟩
theorem assign_cons {e : Expr} {es : List Expr} {env : Env} (h : plainE e = true) : assignEach (e :: es) env = (false, assign e env) :: assignEach es env := by
  cases e <;> first | rfl | (simp [plainE] at h)
theorem assign_len {env : Env} : ∀ {es : List Expr}, (∀ e ∈ es, plainE e = true) → (assignEach es env).length = es.length ∧ (assignEach es env).findIdx? (·.1) = none
  | [], _ => ⟨rfl, rfl⟩
  | e :: es, h => by
    rw [assign_cons (h e List.mem_cons_self)]
    obtain ⟨a, b⟩ := assign_len (env := env) (es := es) fun x hx => h x (List.mem_cons_of_mem _ hx)
    refine ⟨by simp [a], ?_⟩
    rw [List.findIdx?_cons]
    simp [b]
section
variable {cl : Calls} {cv : Nat → Value} {k : Nat} {X : Cx} {c : CC} {W : WX}
theorem cTs_plain : ∀ {n : Nat} {es : List Expr} {ts : List Tg}, cTs c n es = some ts → (∀ e ∈ es, plainE e = true) ∧ ts.length = es.length
  | n, [], ts, h => by cases n <;> (simp [cTs] at h; subst h; simp)
  | 0, e :: es, ts, h => by simp [cTs] at h
  | n + 1, e :: es, ts, h => by
    rw [cTs] at h
    split at h
    · rename_i hp
      split at h
      · rename_i t ts' h1 h2
        cases h
        obtain ⟨a, b⟩ := cTs_plain h2
        refine ⟨fun x hx => ?_, by simp [b]⟩
        rcases List.mem_cons.mp hx with rfl | hx
        · exact hp
        · exact a x hx
      · cases h
    · cases h
mutual
theorem cT_ok (g : Gd cl cv k X c) : ∀ (n : Nat) (a : Expr) (t : Tg), cT c n a = some t → PG X a (lG (pm X cv) t)
  | 0, a, t, h => by simp [cT] at h
  | n + 1, a, t, h => by
    cases a with
    | Name x pos =>
      rw [cT] at h
      obtain ⟨i, hi, rfl⟩ := Option.map_eq_some_iff.mp h
      obtain ⟨h1, h2, h3⟩ := g.store hi
      refine (pg_name g.nd h1 h2 h3).mono fun v σ H Q q => ?_
      obtain ⟨ρ, env, st, d, env', er, R, r, hb, q⟩ := q
      simp only [bindT, Option.some.injEq] at hb
      subst hb
      refine q _ (er.set r i) ⟨by simp, fun j hj => ?_⟩
      rw [List.getElem?_set_ne]
      intro z
      exact hj (by simp [tgSlots, z])
    | Tuple es kk pos =>
      rw [cT] at h
      obtain ⟨ts, ht, rfl⟩ := Option.map_eq_some_iff.mp h
      obtain ⟨hp, hl⟩ := cTs_plain ht
      obtain ⟨a1, a2⟩ := assign_len (env := X.env) hp
      have hr := cTs_ok g n es ts ht
      refine ((pg_tup (n := es.length) g.calm hr a1 a2).or (pg_unl (n := es.length) g.calm hr a1 a2)).mono fun v σ H Q q => ?_
      obtain ⟨ρ, env, st, d, env', er, R, r, hb, q⟩ := q
      simp only [bindT] at hb
      split at hb
      · rename_i ds hs
        split at hb
        · rename_i hlen
          obtain ⟨a, vs, rfl, h2, hh⟩ := seq_rep R hs r
          rcases hh with hh | hh
          · exact .inr ⟨a, vs, rfl, hh, by rw [h2.length, hlen, hl], ρ, env, st, ds, env', er, R, h2, hlen, hb, q⟩
          · exact .inl ⟨a, vs, rfl, hh, by rw [h2.length, hlen, hl], ρ, env, st, ds, env', er, R, h2, hlen, hb, q⟩
        · cases hb
      · cases hb
    | _ => simp [cT] at h
theorem cTs_ok (g : Gd cl cv k X c) : ∀ (n : Nat) (as : List Expr) (ts : List Tg), cTs c n as = some ts → PGs X as (lGs (pm X cv) ts)
  | n, [], ts, h => by
    have e : ts = [] := by cases n <;> (simp [cTs] at h; exact h)
    subst e
    refine pgs_nil.mono fun vs σ H Q q => ?_
    obtain ⟨ρ, env, st, ds, env', er, R, r, hl, hb, q⟩ := q
    have e : ds = [] := List.length_eq_zero_iff.mp hl
    subst e
    cases r
    simp only [bindTs, Option.some.injEq] at hb
    subst hb
    exact ⟨rfl, q σ er ⟨rfl, fun _ _ => rfl⟩⟩
  | 0, e :: es, ts, h => by simp [cTs] at h
  | n + 1, e :: es, ts, h => by
    rw [cTs] at h
    split at h
    · rename_i hp
      split at h
      · rename_i t ts' h1 h2
        cases h
        refine (pgs_cons (cT_ok g n e t h1) (cTs_ok g n es ts' h2) (by rw [assign_cons hp]; rfl)).mono fun vs σ H Q q => ?_
        obtain ⟨ρ, env, st, ds, env', er, R, r, hl, hb, q⟩ := q
        cases r with
        | nil => simp at hl
        | cons r1 r2 =>
          rw [bindTs] at hb
          obtain ⟨env1, hb1, hb2⟩ := Option.bind_eq_some_iff.mp hb
          refine ⟨_, _, rfl, ρ, env, st, _, env1, er, R, r1, hb1, fun σ1 er1 b1 => ?_⟩
          exact ⟨ρ, env1, st, _, env', er1, R, r2, by simpa using hl, hb2, fun σ2 er2 b2 => q σ2 er2 (b1.trans b2)⟩
      · cases h
    · cases h
end

/-! ### walks -/
structure LW (p : Pm) (J : It) (w : Its) (ρ0 : List Addr) (H0 : Hp) : Prop where
  goes : ∀ i ρ H st, Ext ρ0 H0 ρ H → Rel p ρ H st → still w.gd st = true → i < w.xs.length → J.go i H
  stops : ∀ ρ H st, Ext ρ0 H0 ρ H → Rel p ρ H st → still w.gd st = true → J.stop w.xs.length H
  yields : ∀ i ρ H st x H', Ext ρ0 H0 ρ H → Rel p ρ H st → still w.gd st = true → i < w.xs.length → J.yld i H x H' → Ext ρ H ρ H' ∧ Rel p ρ H' st ∧ ∃ d, w.xs[i]? = some d ∧ Rep p.K ρ H' x d
def lI (p : Pm) (W : WX) (m : En → Sto → Res Its) : TI := fun σ H R => ∃ ρ env st, EnvR p.K ρ H σ env ∧ Rel p ρ H st ∧ Got p ρ H (m env st) (fun w _ ρ' H' => ∀ J, LW p J w ρ' H' → R J H') (fun c dd H' => W c dd σ H')
theorem _root_.L2.PI.mono {tg e : Expr} {t t' : TI} (h : PI X tg e t) (m : ∀ σ H Q, t' σ H Q → t σ H Q) : PI X tg e t' := ⟨fun pins s σ H Q I q => h.run pins s σ H Q I (m σ H Q q)⟩
theorem _root_.L2.PI.or {tg e : Expr} {t t' : TI} (h : PI X tg e t) (h' : PI X tg e t') : PI X tg e (fun σ H R => t σ H R ∨ t' σ H R) := ⟨fun pins s σ H Q I q => q.elim (h.run pins s σ H Q I) (h'.run pins s σ H Q I)⟩
theorem still_one {l : Nat} {o : O} {st : Sto} (h : still [(l, o)] st = true) : st[l]? = some o := by
  unfold still at h
  simpa using h
theorem lw_list {p : Pm} {ρ0 : List Addr} {H0 : Hp} {l : Nat} {a : Addr} {xs : List D} (hl : ρ0[l]? = some a) : LW p (Itl p.K a) ⟨xs, [(l, .lst xs)]⟩ ρ0 H0 := by
  have at' : ∀ ρ H st, Ext ρ0 H0 ρ H → Rel p ρ H st → still [(l, .lst xs)] st = true → ∃ vs, H a = some (.lst vs) ∧ Reps p.K ρ H vs xs := fun ρ H st e R h => R.obj l a _ (e.pre l a hl) (still_one h)
  refine ⟨fun i ρ H st e R h hi => ?_, fun ρ H st e R h => ?_, fun i ρ H st x H' e R h hi y => ?_⟩
  · obtain ⟨vs, h1, h2⟩ := at' ρ H st e R h
    have hv : i < vs.length := by rw [h2.length]; exact hi
    exact ⟨vs, vs[i], SqL.of h1, List.getElem?_eq_getElem hv⟩
  · obtain ⟨vs, h1, h2⟩ := at' ρ H st e R h
    exact ⟨vs, SqL.of h1, by rw [h2.length]; exact Nat.le_refl _⟩
  · obtain ⟨vs, h1, h2⟩ := at' ρ H st e R h
    obtain ⟨e1, y⟩ := y
    subst e1
    obtain ⟨d, hd, r⟩ := h2.get' (y vs (SqL.of h1))
    exact ⟨.refl, R, d, hd, r⟩
theorem lw_scr {p : Pm} {ρ0 : List Addr} {H0 : Hp} {a : Addr} {ns : List Int} (hs : Scr p.K H0 a (ns.map V.int)) : LW p (Itl p.K a) ⟨ns.map .int, []⟩ ρ0 H0 := by
  refine ⟨fun i ρ H st e R h hi => ?_, fun ρ H st e R h => ?_, fun i ρ H st x H' e R h hi y => ?_⟩
  · have hs' := (Scr.ext e.toPre hs).sq
    have hv : i < (ns.map V.int).length := by simpa using hi
    exact ⟨_, _, hs', List.getElem?_eq_getElem hv⟩
  · have hs' := (Scr.ext e.toPre hs).sq
    exact ⟨_, hs', by simp⟩
  · have hs' := (Scr.ext e.toPre hs).sq
    obtain ⟨e1, y⟩ := y
    subst e1
    obtain ⟨d, hd, r⟩ := (Reps.ints (K := p.K) (ρ := ρ) (H := H') (ns := ns)).get' (y _ hs')
    exact ⟨.refl, R, d, hd, r⟩
theorem lw_tup {p : Pm} {ρ0 : List Addr} {H0 : Hp} {a : Addr} {vs : List V} {xs : List D} (hs : SqT p.K H0 a vs) (r : Reps p.K ρ0 H0 vs xs) : LW p (Itt p.K a) ⟨xs, []⟩ ρ0 H0 := by
  refine ⟨fun i ρ H st e R h hi => ?_, fun ρ H st e R h => ?_, fun i ρ H st x H' e R h hi y => ?_⟩
  · have hv : i < vs.length := by rw [r.length]; exact hi
    exact ⟨_, _, SqT.ext e.toPre hs, List.getElem?_eq_getElem hv⟩
  · exact ⟨_, SqT.ext e.toPre hs, by rw [r.length]; exact Nat.le_refl _⟩
  · obtain ⟨e1, y⟩ := y
    subst e1
    obtain ⟨d, hd, rr⟩ := (r.ext e).get' (y vs (SqT.ext e.toPre hs))
    exact ⟨.refl, R, d, hd, rr⟩
theorem lw_range {p : Pm} {ρ0 : List Addr} {H0 : Hp} {lo : Int} {n : Nat} : LW p (Itr lo n) ⟨(List.range n).map fun k => .int (lo + (k : Nat)), []⟩ ρ0 H0 := by
  refine ⟨fun i ρ H st e R h hi => (by simpa using hi : i < n), fun ρ H st e R h => by simp [Itr], fun i ρ H st x H' e R h hi y => ?_⟩
  obtain ⟨e1, y⟩ := y
  subst e1 y
  have hi' : i < n := by simpa using hi
  exact ⟨.refl, R, _, by simp [hi'], .int _⟩
/-- what is walked as a list (a list of the store, the script) -/
theorem walkD_list {p : Pm} {ρ : List Addr} {H : Hp} {st : Sto} {x : D} {v : V} {w : Its} (R : Rel p ρ H st) (r : Rep p.K ρ H v x) (h : walkD st x = some w) :
    (∃ a vs, v = .ref a ∧ SqL p.K H a vs ∧ LW p (Itl p.K a) w ρ H ∧ (∀ ρ' H' st', Ext ρ H ρ' H' → Rel p ρ' H' st' → still w.gd st' = true → ∃ ws, SqL p.K H' a ws ∧ Reps p.K ρ' H' ws w.xs)) ∨ (∃ a vs, v = .ref a ∧ SqT p.K H a vs ∧ LW p (Itt p.K a) w ρ H) := by
  cases r with
  | tup h1 h2 =>
    simp only [walkD, Option.some.injEq] at h
    subst h
    exact .inr ⟨_, _, rfl, h1, lw_tup h1 h2⟩
  | scr h1 =>
    simp only [walkD, Option.some.injEq] at h
    subst h
    exact .inl ⟨_, _, rfl, h1.sq, lw_scr h1, fun ρ' H' st' e R' _ => ⟨_, (Scr.ext e.toPre h1).sq, Reps.ints⟩⟩
  | ref hl =>
    rename_i l a
    rw [walkD] at h
    cases e : st[l]? with
    | none => rw [e] at h; cases h
    | some o =>
      rw [e] at h
      cases o with
      | lst ds =>
        cases h
        obtain ⟨vs, h1, h2⟩ := R.obj l a _ hl e
        exact .inl ⟨a, vs, rfl, SqL.of h1, lw_list hl, fun ρ' H' st' ee R' hs => by
          obtain ⟨ws, w1, w2⟩ := R'.obj l a _ (ee.pre l a hl) (still_one hs)
          exact ⟨ws, SqL.of w1, w2⟩⟩
      | dct kvs => cases h
  | _ => cases h
theorem walkL_ok {p : Pm} {ρ : List Addr} {H : Hp} {st : Sto} {x : D} {v : V} {w : Its} (R : Rel p ρ H st) (r : Rep p.K ρ H v x) (h : walkL st x = some w) :
    ∃ a vs, v = .ref a ∧ SqL p.K H a vs ∧ ∀ ρ' H' st', Ext ρ H ρ' H' → Rel p ρ' H' st' → still w.gd st' = true → ∃ ws, SqL p.K H' a ws ∧ Reps p.K ρ' H' ws w.xs := by
  cases r with
  | tup h1 h2 => cases h
  | scr h1 =>
    have h' : walkD st (.scr _) = some w := h
    simp only [walkD, Option.some.injEq] at h'
    subst h'
    exact ⟨_, _, rfl, h1.sq, fun ρ' H' st' e R' _ => ⟨_, (Scr.ext e.toPre h1).sq, Reps.ints⟩⟩
  | ref hl =>
    rename_i l a
    have h' : walkD st (.ref l) = some w := h
    rw [walkD] at h'
    cases e : st[l]? with
    | none => rw [e] at h'; cases h'
    | some o =>
      rw [e] at h'
      cases o with
      | lst ds =>
        cases h'
        obtain ⟨vs, h1, h2⟩ := R.obj l a _ hl e
        exact ⟨a, vs, rfl, SqL.of h1, fun ρ' H' st' ee R' hs => by
          obtain ⟨ws, w1, w2⟩ := R'.obj l a _ (ee.pre l a hl) (still_one hs)
          exact ⟨ws, SqL.of w1, w2⟩⟩
      | dct kvs => cases h'
  | _ => cases h
theorem pi_seqD {tg a : Expr} {e : E} (ha : PE X a (lE (pm X cv) W (evalE cl e))) : PI X tg a (lI (pm X cv) W (evalI cl (.seq e))) :=
  ((pi_list ha).or (pi_tup ha)).mono fun σ H Q q => by
    obtain ⟨ρ, env, st, er, R, gg⟩ := q
    rw [evalI] at gg
    cases hr : evalE cl e env st with
    | bad => rw [hr] at gg; exact gg.elim
    | exc c fs st1 =>
      rw [hr] at gg
      exact .inl ⟨ρ, env, st, er, R, by rw [hr]; exact gg⟩
    | ok x st1 =>
      rw [hr] at gg
      cases hw : walkD st1 x with
      | none =>
        have g2 : Got (pm X cv) ρ H (Res.of (walkD st1 x) st1) _ _ := gg
        rw [hw] at g2
        exact g2.elim
      | some w =>
        have g2 : Got (pm X cv) ρ H (Res.of (walkD st1 x) st1) _ _ := gg
        rw [hw] at g2
        by_cases ht : ∃ ds, x = .tup ds
        · obtain ⟨ds, rfl⟩ := ht
          refine .inr ⟨ρ, env, st, er, R, ?_⟩
          rw [hr]
          intro ρ1 H1 e1 R1 v rv
          cases rv with
          | tup h1 h2 =>
            simp only [walkD, Option.some.injEq] at hw
            subst hw
            exact ⟨_, rfl, ⟨_, h1⟩, g2 ρ1 H1 e1 R1 _ (lw_tup h1 h2)⟩
        · refine .inl ⟨ρ, env, st, er, R, ?_⟩
          rw [hr]
          intro ρ1 H1 e1 R1 v rv
          rcases walkD_list R1 rv hw with ⟨a, vs, rfl, h1, h2, _⟩ | ⟨a, vs, rfl, h1, h2⟩
          · exact ⟨a, rfl, ⟨vs, h1⟩, g2 ρ1 H1 e1 R1 _ h2⟩
          · cases rv with
            | tup h1 h2 => exact absurd ⟨_, rfl⟩ ht
            | ref hl =>
              rename_i l
              rw [walkD] at hw
              cases e0 : st1[l]? with
              | none => rw [e0] at hw; cases hw
              | some o =>
                rw [e0] at hw
                cases o with
                | dct kvs => cases hw
                | lst ds =>
                  cases hw
                  obtain ⟨ws, w1, w2⟩ := R1.obj l a _ hl e0
                  exact ⟨a, rfl, ⟨ws, SqL.of w1⟩, g2 ρ1 H1 e1 R1 _ (lw_list hl)⟩
            | scr hs =>
              simp only [walkD, Option.some.injEq] at hw
              subst hw
              exact ⟨a, rfl, ⟨_, hs.sq⟩, g2 ρ1 H1 e1 R1 _ (lw_scr hs)⟩
theorem rangeD_ok {lo hi : Int} {w : Its} (h : rangeD lo hi = some w) : (-(2 ^ 62) ≤ lo ∧ lo < 2 ^ 62 ∧ -(2 ^ 62) ≤ hi ∧ hi < 2 ^ 62) ∧ w = ⟨(List.range (hi - lo).toNat).map fun k => .int (lo + (k : Nat)), []⟩ := by
  unfold rangeD at h
  split at h
  · rename_i hc
    cases h
    exact ⟨hc, rfl⟩
  · cases h
theorem pi_rng1D (g : Gd cl cv k X c) {tg a : Expr} {e : E} {p pos : Pos} (hg : c.glob "range" = true) (hp : plainE a = true) (ha : PE X a (lE (pm X cv) W (evalE cl e))) : PI X tg (.Call (.Name "range" p) [a] [] pos) (lI (pm X cv) W (evalI cl (.rng1 e))) := by
  refine (pi_range1 (g.glob hg).1 (g.blt _ (by decide)) (pa_cons ha pa_nil (star_cons hp)) (by rw [star_cons hp]; rfl)).mono fun σ H Q q => ?_
  obtain ⟨ρ, env, st, er, R, gg⟩ := q
  rw [evalI] at gg
  refine lE_bind er R gg fun x st1 ρ1 H1 v e1 R1 er1 rv g1 => ?_
  obtain ⟨i, rfl, g2⟩ := got_asI g1
  cases rv
  obtain ⟨w, hw, q⟩ := Got.of R1 g2
  obtain ⟨⟨b1, b2, b3, b4⟩, rfl⟩ := rangeD_ok hw
  refine ⟨i, rfl, b3, b4, q _ ?_⟩
  have e0 : (i - 0).toNat = i.toNat := by simp
  rw [e0]
  exact lw_range
theorem pi_rng2D (g : Gd cl cv k X c) {tg a b : Expr} {e f : E} {p pos : Pos} (hg : c.glob "range" = true) (hp : plainE a = true) (hp' : plainE b = true) (ha : PE X a (lE (pm X cv) W (evalE cl e))) (hb : PE X b (lE (pm X cv) W (evalE cl f))) :
    PI X tg (.Call (.Name "range" p) [a, b] [] pos) (lI (pm X cv) W (evalI cl (.rng2 e f))) := by
  refine (pi_range2 (g.glob hg).1 (g.blt _ (by decide)) (pa_cons ha (pa_cons hb pa_nil (star_cons hp')) (star_cons hp)) (by rw [star_cons hp, star_cons hp']; rfl) (by rw [star_cons hp']; rfl)).mono fun σ H Q q => ?_
  obtain ⟨ρ, env, st, er, R, gg⟩ := q
  rw [evalI] at gg
  refine lE_bind er R gg fun x st1 ρ1 H1 v e1 R1 er1 rv g1 => ?_
  refine lE_bind er1 R1 g1 fun y st2 ρ2 H2 u e2 R2 er2 ru g2 => ?_
  obtain ⟨i, rfl, g3⟩ := got_asI g2
  obtain ⟨j, rfl, g4⟩ := got_asI g3
  cases rv
  cases ru
  obtain ⟨w, hw, q⟩ := Got.of R2 g4
  obtain ⟨⟨b1, b2, b3, b4⟩, rfl⟩ := rangeD_ok hw
  exact ⟨i, j, rfl, ⟨b1, b2, b3, b4⟩, q _ lw_range⟩
theorem enum_at {xs : List D} {i : Nat} {d : D} (h : xs[i]? = some d) : (enumD ⟨xs, []⟩).xs[i]? = some (.tup [.int (i : Nat), d]) := by
  have hi : i < xs.length := (List.getElem?_eq_some_iff.mp h).1
  have e : xs[i] = d := (List.getElem?_eq_some_iff.mp h).2
  simp [enumD, List.getElem?_zipWith, hi, e]
theorem lw_enum {p : Pm} {ρ0 : List Addr} {H0 : Hp} {a : Addr} {w : Its} (hw : ∀ ρ' H' st', Ext ρ0 H0 ρ' H' → Rel p ρ' H' st' → still w.gd st' = true → ∃ ws, SqL p.K H' a ws ∧ Reps p.K ρ' H' ws w.xs) : LW p (Ite p.K a) (enumD w) ρ0 H0 := by
  have hl : (enumD w).xs.length = w.xs.length := by simp [enumD]
  refine ⟨fun i ρ H st e R h hi => ?_, fun ρ H st e R h => ?_, fun i ρ H st x H' e R h hi y => ?_⟩
  · obtain ⟨ws, h1, h2⟩ := hw ρ H st e R h
    have hv : i < ws.length := by rw [h2.length, ← hl]; exact hi
    exact ⟨ws, ws[i], h1, List.getElem?_eq_getElem hv⟩
  · obtain ⟨ws, h1, h2⟩ := hw ρ H st e R h
    exact ⟨ws, h1, by rw [h2.length, hl]; exact Nat.le_refl _⟩
  · obtain ⟨ws, h1, h2⟩ := hw ρ H st e R h
    obtain ⟨T, z, rfl, hn, rfl, y⟩ := y
    obtain ⟨d, hd, r⟩ := h2.get' (y ws h1)
    exact ⟨Ext.grow hn _, R.grow hn _, _, enum_at hd, .tup (SqT.of upd_same) (.cons (.int _) (.cons (r.ext (Ext.grow hn _)) .nil))⟩
theorem pi_enmD (g : Gd cl cv k X c) {a : Expr} {elts : List Expr} {kk : Nat} {tpos : Pos} {e : E} {p pos : Pos} (hg : c.glob "enumerate" = true) (hp : plainE a = true) (ha : PE X a (lE (pm X cv) W (evalE cl e))) :
    PI X (.Tuple elts kk tpos) (.Call (.Name "enumerate" p) [a] [] pos) (lI (pm X cv) W (evalI cl (.enm e))) := by
  refine (pi_enum (g.glob hg).1 (g.blt _ (by decide)) (pa_cons ha pa_nil (star_cons hp)) (by rw [star_cons hp]; rfl)).mono fun σ H Q q => ?_
  obtain ⟨ρ, env, st, er, R, gg⟩ := q
  rw [evalI] at gg
  refine lE_bind er R gg fun x st1 ρ1 H1 v e1 R1 er1 rv g1 => ?_
  obtain ⟨w, hw, g2⟩ := got_of g1
  obtain ⟨a, vs, rfl, h1, h2⟩ := walkL_ok R1 rv hw
  exact ⟨a, vs, rfl, h1, Got.here R1 g2 _ (lw_enum h2)⟩
theorem still_app {a b : List (Nat × O)} {st : Sto} (h : still (a ++ b) st = true) : still a st = true ∧ still b st = true := by
  unfold still at h ⊢
  rwa [List.all_append, Bool.and_eq_true] at h
theorem lw_zip {p : Pm} {ρ0 : List Addr} {H0 : Hp} {a b : Addr} {w w' : Its} (hw : ∀ ρ' H' st', Ext ρ0 H0 ρ' H' → Rel p ρ' H' st' → still w.gd st' = true → ∃ ws, SqL p.K H' a ws ∧ Reps p.K ρ' H' ws w.xs)
    (hw' : ∀ ρ' H' st', Ext ρ0 H0 ρ' H' → Rel p ρ' H' st' → still w'.gd st' = true → ∃ ws, SqL p.K H' b ws ∧ Reps p.K ρ' H' ws w'.xs) : LW p (Itz p.K a b) (zipD w w') ρ0 H0 := by
  have hl : (zipD w w').xs.length = min w.xs.length w'.xs.length := by simp [zipD]
  refine ⟨fun i ρ H st e R h hi => ?_, fun ρ H st e R h => ?_, fun i ρ H st x H' e R h hi y => ?_⟩
  · obtain ⟨s1, s2⟩ := still_app h
    obtain ⟨ws, h1, h2⟩ := hw ρ H st e R s1
    obtain ⟨ws', h1', h2'⟩ := hw' ρ H st e R s2
    have hv : i < ws.length := by rw [h2.length]; omega
    have hv' : i < ws'.length := by rw [h2'.length]; omega
    exact ⟨ws, ws', ws[i], ws'[i], h1, h1', List.getElem?_eq_getElem hv, List.getElem?_eq_getElem hv'⟩
  · obtain ⟨s1, s2⟩ := still_app h
    obtain ⟨ws, h1, h2⟩ := hw ρ H st e R s1
    obtain ⟨ws', h1', h2'⟩ := hw' ρ H st e R s2
    exact ⟨ws, ws', h1, h1', by rw [h2.length, h2'.length, hl]; omega⟩
  · obtain ⟨s1, s2⟩ := still_app h
    obtain ⟨ws, h1, h2⟩ := hw ρ H st e R s1
    obtain ⟨ws', h1', h2'⟩ := hw' ρ H st e R s2
    obtain ⟨T, z, z', rfl, hn, rfl, y, y'⟩ := y
    obtain ⟨d, hd, r⟩ := h2.get' (y ws h1)
    obtain ⟨d', hd', r'⟩ := h2'.get' (y' ws' h1')
    exact ⟨Ext.grow hn _, R.grow hn _, .tup [d, d'], by simp [zipD, List.getElem?_zipWith, hd, hd'], .tup (SqT.of upd_same) (.cons (r.ext (Ext.grow hn _)) (.cons (r'.ext (Ext.grow hn _)) .nil))⟩
theorem pi_zipD (g : Gd cl cv k X c) {a b : Expr} {elts : List Expr} {kk : Nat} {tpos : Pos} {e f : E} {p pos : Pos} (hg : c.glob "zip" = true) (hp : plainE a = true) (hp' : plainE b = true) (ha : PE X a (lE (pm X cv) W (evalE cl e))) (hb : PE X b (lE (pm X cv) W (evalE cl f))) :
    PI X (.Tuple elts kk tpos) (.Call (.Name "zip" p) [a, b] [] pos) (lI (pm X cv) W (evalI cl (.zip e f))) := by
  refine (pi_zip (g.glob hg).1 (g.blt _ (by decide)) (pa_cons ha (pa_cons hb pa_nil (star_cons hp')) (star_cons hp)) (star_cons hp) (plain_any (es := [b]) (fun x hx => by simp at hx; subst hx; exact hp') pos)).mono fun σ H Q q => ?_
  obtain ⟨ρ, env, st, er, R, gg⟩ := q
  rw [evalI] at gg
  refine lE_bind er R gg fun x st1 ρ1 H1 v e1 R1 er1 rv g1 => ?_
  refine lE_bind er1 R1 g1 fun y st2 ρ2 H2 u e2 R2 er2 ru g2 => ?_
  obtain ⟨w, hw, g3⟩ := got_of g2
  obtain ⟨w', hw', g4⟩ := got_of g3
  obtain ⟨a, vs, rfl, h1, h2⟩ := walkL_ok R2 (rv.ext e2) hw
  obtain ⟨b, us, rfl, h1', h2'⟩ := walkL_ok R2 ru hw'
  exact ⟨a, b, vs, us, rfl, h1, h1', Got.here R2 g4 _ (lw_zip h2 h2')⟩

/-! ### comprehensions -/
/-- the tests of a clause -/
theorem pts_nilD : PTs X [] (lT (pm X cv) W (evalTs cl [])) := ⟨fun pins s σ H Q I q => pts_nil.run pins s σ H Q I (by
  obtain ⟨ρ, env, st, er, R, gg⟩ := q
  rw [evalTs] at gg
  exact Got.here R gg)⟩
theorem pts_oneD {a : Expr} {e : E} (ha : PT X a (lT (pm X cv) W (test cl e))) : PTs X [a] (lT (pm X cv) W (evalTs cl [e])) := ⟨fun pins s σ H Q I q => (pts_one ha).run pins s σ H Q I (by
  obtain ⟨ρ, env, st, er, R, gg⟩ := q
  rw [evalTs] at gg
  exact ⟨ρ, env, st, er, R, gg⟩)⟩
theorem loopC_cons {bd : Sto → D → En → Option En} {tst : En → Sto → Res Bool} {elt : En → Sto → Res D} {gd : List (Nat × O)} {env : En} {d : D} {ds : List D} {st st2 : Sto} {rest : List D} (h : loopC bd tst elt gd env (d :: ds) st = .ok rest st2) :
    still gd st = true ∧ ∃ env1 b st', bd st d env = some env1 ∧ tst env1 st = .ok b st' ∧ ((b = true ∧ ∃ x st'' xs, elt env1 st' = .ok x st'' ∧ loopC bd tst elt gd env ds st'' = .ok xs st2 ∧ rest = x :: xs) ∨ (b = false ∧ loopC bd tst elt gd env ds st' = .ok rest st2)) := by
  rw [loopC] at h
  split at h
  · rename_i hs
    refine ⟨hs, ?_⟩
    split at h
    · rename_i env1 hb
      cases ht : tst env1 st with
      | bad => rw [ht] at h; cases h
      | exc => rw [ht] at h; cases h
      | ok b st' =>
        rw [ht, Res.bind_ok] at h
        refine ⟨env1, b, st', hb, ht, ?_⟩
        cases b with
        | true =>
          simp only [if_true] at h
          cases he : elt env1 st' with
          | bad => rw [he] at h; cases h
          | exc => rw [he] at h; cases h
          | ok x st'' =>
            rw [he, Res.bind_ok] at h
            cases hl : loopC bd tst elt gd env ds st'' with
            | bad => rw [hl] at h; cases h
            | exc => rw [hl] at h; cases h
            | ok xs st3 =>
              rw [hl, Res.bind_ok] at h
              cases h
              exact .inl ⟨rfl, x, st'', xs, rfl, hl, rfl⟩
        | false =>
          simp only [Bool.false_eq_true, if_false] at h
          exact .inr ⟨rfl, h⟩
    · cases h
  · cases h
theorem ext_fresh {p : Pm} {ρ ρ1 : List Addr} {H H1 : Hp} {st1 : Sto} {A : Addr} (e : Ext ρ H ρ1 H1) (R1 : Rel p ρ1 H1 st1) (h : H1 A = none) : H A = none := by
  cases q : H A with
  | none => rfl
  | some o =>
    by_cases hm : A ∈ ρ
    · obtain ⟨l, hl, e0⟩ := List.mem_iff_getElem.mp hm
      have h1 : ρ[l]? = some A := by rw [List.getElem?_eq_getElem hl, e0]
      exact absurd (List.mem_of_getElem? (e.pre _ _ h1)) (R1.fresh h)
    · rw [e.keep A o hm q] at h
      cases h
theorem rd_lc {p : Pm} {t : Tg} {it : I} {ts : List E} {e : E} {vs : List Nat} {σ : L2.St} {H : Hp} {Q : VK} (hsl : ∀ i ∈ tgSlots t, i ∈ vs) (h : lE p W (evalE cl (.lc vs t it ts e)) σ H Q) :
    tLc (lI p W (evalI cl it)) (lG p t) (lT p (fun _ _ _ _ => False) (evalTs cl ts)) (lE p (fun _ _ _ _ => False) (evalE cl e)) vs σ H Q := by
  obtain ⟨ρ, env, st, er, R, gg⟩ := h
  rw [evalE] at gg
  cases hr : evalI cl it env st with
  | bad => rw [hr] at gg; exact gg.elim
  | exc c fs st1 =>
    rw [hr] at gg
    exact ⟨ρ, env, st, er, R, by rw [hr]; exact gg⟩
  | ok w st1 =>
    rw [hr] at gg
    simp only at gg
    generalize hbody : loopC (fun st => bindT st t) (fun env st => evalTs cl ts env st) (fun env st => evalE cl e env st) w.gd (wipe env vs) w.xs st1 = rl at gg
    cases rl with
    | bad => exact gg.elim
    | exc => exact gg.elim
    | ok fin st2 =>
      simp only at gg
      have hfin : fin.length ≤ sizeLine := by
        unfold newL at gg
        split at gg
        · rw [line_eq]; assumption
        · exact gg.elim
      have gnew : Got p ρ H (new (.lst fin) st2) (fun d _ ρ' H' => ∀ v, Rep p.K ρ' H' v d → Q v H') (fun c dd H' => W c dd σ H') := by
        unfold newL at gg
        split at gg
        · exact gg
        · exact gg.elim
      refine ⟨ρ, env, st, er, R, ?_⟩
      rw [hr]
      intro ρ1 H1 e1 R1 J hJ A hA
      have er1 : EnvR p.K ρ1 H1 (L2.wipe σ vs) (wipe env vs) := (er.ext e1).wipe vs
      let Pv : Nat → Hp → Prop := fun i Hh => ∃ ρi sti accD accV rest, Ext ρ1 H1 ρi Hh ∧ Rel p ρi Hh sti ∧ A ∉ ρi ∧ Hh A = some (.lst accV) ∧ Reps p.K ρi Hh accV accD ∧
        loopC (fun st => bindT st t) (fun env st => evalTs cl ts env st) (fun env st => evalE cl e env st) w.gd (wipe env vs) (w.xs.drop i) sti = .ok rest st2 ∧ fin = accD ++ rest
      refine ⟨fun i m Hh => m = w.xs.length - i ∧ i ≤ w.xs.length ∧ Pv i Hh, ⟨w.xs.length, by simp, Nat.zero_le _, ρ1, st1, [], [], fin, Ext.grow hA _, R1.grow hA _, R1.fresh hA, upd_same, .nil, hbody, rfl⟩, ?_⟩
      rintro i m Hh ⟨rfl, hi, ρi, sti, accD, accV, rest, ei, Ri, nA, hAt, ra, hlp, hf⟩
      by_cases hlt : i < w.xs.length
      · have hd : w.xs.drop i = w.xs[i] :: w.xs.drop (i + 1) := List.drop_eq_getElem_cons hlt
        rw [hd] at hlp
        obtain ⟨hst, env1, b, st', hb, ht, hcase⟩ := loopC_cons hlp
        refine .inr ⟨hJ.goes i ρi Hh sti ei Ri hst hlt, Pv (i + 1), fun H' p' => ⟨w.xs.length - (i + 1), by omega, rfl, hlt, p'⟩, fun x H' y => ?_⟩
        obtain ⟨ey, Ry, d, hdx, rx⟩ := hJ.yields i ρi Hh sti x H' ei Ri hst hlt y
        have ed : d = w.xs[i] := by
          rw [List.getElem?_eq_getElem hlt] at hdx
          exact (Option.some.inj hdx).symm
        subst ed
        have ey1 : Ext ρ1 H1 ρi H' := ei.trans ey
        refine ⟨ρi, wipe env vs, sti, _, env1, er1.ext ey1, Ry, rx, hb, fun σ2 er2 b2 => ⟨wipe_but b2 hsl, ρi, env1, sti, er2, Ry, ?_⟩⟩
        show Got p ρi H' (evalTs cl ts env1 sti) _ _
        have ht' : evalTs cl ts env1 sti = .ok b st' := ht
        rw [ht']
        intro ρ3 H3 e3 R3
        have hA3 : H3 A = some (.lst accV) := e3.keep A _ nA (ey.keep A _ nA hAt)
        have nA3 : A ∉ ρ3 := fun z => by
          rcases e3.new A z with q | q
          · exact nA q
          · rw [ey.keep A _ nA hAt] at q; cases q
        rcases hcase with ⟨rfl, x', st'', xs, he, hrest, rfl⟩ | ⟨rfl, hrest⟩
        · refine iteT ⟨ρ3, env1, st', er2.ext e3, R3, ?_⟩
          have he' : evalE cl e env1 st' = .ok x' st'' := he
          rw [he']
          intro ρ4 H4 e4 R4 v rv
          have hA4 : H4 A = some (.lst accV) := e4.keep A _ nA3 hA3
          have nA4 : A ∉ ρ4 := fun z => by
            rcases e4.new A z with q | q
            · exact nA3 q
            · rw [hA3] at q; cases q
          have hm : Mut (H4 A) := by rw [hA4]; trivial
          have ra4 := ((ra.ext ey).ext e3).ext e4
          have hlen : accV.length < sizeLine := by
            rw [ra.length]
            have : fin.length = accD.length + (xs.length + 1) := by rw [hf]; simp
            omega
          refine ⟨accV, hA4, hlen, ρ4, st'', accD ++ [x'], accV ++ [v], xs, ((ey1.trans e3).trans e4).out hA hm, R4.out nA4 hm, nA4, upd_same, ?_, hrest, by rw [hf]; simp⟩
          exact (ra4.append (.cons rv .nil)).kept (Pre.out hm)
        · exact iteF ⟨ρ3, st', accD, accV, rest, ey1.trans e3, R3, nA3, hA3, (ra.ext ey).ext e3, hrest, hf⟩
      · have en : i = w.xs.length := by omega
        subst en
        rw [List.drop_length] at hlp
        rw [loopC] at hlp
        split at hlp
        · rename_i hst
          cases hlp
          rw [List.append_nil] at hf
          subst hf
          refine .inl ⟨hJ.stops ρi Hh st2 ei Ri hst, ?_⟩
          exact gnew (ρi ++ [A]) Hh ((e1.trans ei).adopt (ext_fresh e1 R1 hA)) (Ri.adopt nA hAt ra) _ (Rep.new Ri)
        · cases hlp
theorem Gd.blk (g : Gd cl cv k X c) {scope : Scope} (s : Shared) (H : Hp) (C : Addr) (cl' : List (Str × Addr)) (fp : List Addr) : Gd cl cv k (X.blk s H scope (compEnvC scope cl' C X.env) fp) (c.blk scope) where
  N := g.N
  nd := g.nd
  sc := by
    show relabel scope X.env = relS scope c.sc
    rw [← g.sc]
    rfl
  own := fun x h => h
  calm := g.calm
  room := g.room
  fns := g.fns
  gs := g.gs
  blt := g.blt
theorem takes_none {X : Cx} : Takes X (fun _ _ _ _ => False) := fun u s' ⟨a, B, sI, pins, σ, H, cls, d, e, I, nb, up, sky, na, os, ag, w⟩ => w.elim
theorem pe_lcD (g : Gd cl cv k X c) {elt tg iter : Expr} {ifs : List Expr} {scope : Scope} {pos : Pos} {t : Tg} {it : I} {ts : List E} {e : E} (hp : plainE iter = true) (hb : blkC c.N c.sc scope (ownOf c.N scope.names) = true)
    (hsl : ∀ i ∈ tgSlots t, i ∈ (ownOf c.N scope.names).map (·.2)) (hi : PI X tg iter (lI (pm X cv) W (evalI cl it)))
    (hg : ∀ (s : Shared) (H : Hp) (C : Addr) (cl' : List (Str × Addr)) (fp : List Addr), PG (X.blk s H scope (compEnvC scope cl' C X.env) fp) tg (lG (pm X cv) t))
    (ht : ∀ (s : Shared) (H : Hp) (C : Addr) (cl' : List (Str × Addr)) (fp : List Addr), PTs (X.blk s H scope (compEnvC scope cl' C X.env) fp) ifs (lT (pm X cv) (fun _ _ _ _ => False) (evalTs cl ts)))
    (he : ∀ (s : Shared) (H : Hp) (C : Addr) (cl' : List (Str × Addr)) (fp : List Addr), PE (X.blk s H scope (compEnvC scope cl' C X.env) fp) elt (lE (pm X cv) (fun _ _ _ _ => False) (evalE cl e))) :
    PE X (.ListComp elt [⟨tg, iter, ifs, 0⟩] scope pos) (lE (pm X cv) W (evalE cl (.lc ((ownOf c.N scope.names).map (·.2)) t it ts e))) :=
  (pe_lc g.calm g.nd hi (by rw [g.N, g.sc]; exact blkOk_by hb) hg ht he (plain_folded hp)).mono fun σ H Q q => rd_lc hsl q
end
end Ev

/-! All expressions. -/
namespace Ev
open PySem PySem.Spec PyProof.Rows L2

section
variable (cl : Calls) (cv : Nat → Value) (k : Nat)
def OkE (n : Nat) : Prop := ∀ (c : CC) (a : Expr) (e : E), cE n c a = some e → ∀ (X : Cx) (W : WX), Gd cl cv k X c → Takes X W → PE X a (lE (pm X cv) W (evalE cl e)) ∧ PT X a (lT (pm X cv) W (test cl e))
def OkEs (n : Nat) : Prop := ∀ (c : CC) (as : List Expr) (es : List E), cEs n c as = some es → (∀ a ∈ as, plainE a = true) ∧ es.length = as.length ∧ ∀ (X : Cx) (W : WX), Gd cl cv k X c → Takes X W → PA X as (lA (pm X cv) W (evalEs cl es)) ∧
  (as ≠ [] → ∀ op pos, PE X (.BoolOp op as pos) (lE (pm X cv) W (evalB cl op es)) ∧ PW X (.BoolOp op as pos) (lT (pm X cv) W (testB cl op es))) ∧ (as.length ≤ 1 → PTs X as (lT (pm X cv) W (evalTs cl es)))
def OkO (n : Nat) : Prop := ∀ (c : CC) (a : Option Expr) (e : Option E), cO n c a = some e → ∀ (X : Cx) (W : WX), Gd cl cv k X c → Takes X W → PO X a (lO (pm X cv) W (evalO cl e))
def OkI (n : Nat) : Prop := ∀ (c : CC) (tg a : Expr) (e : I), cI n c tg a = some e → ∀ (X : Cx) (W : WX), Gd cl cv k X c → Takes X W → PI X tg a (lI (pm X cv) W (evalI cl e))
variable {cl cv k}
theorem okEs_succ {n : Nat} (hE : OkE cl cv k n) (hEs : OkEs cl cv k n) : OkEs cl cv k (n + 1) := by
  intro c as es h
  cases as with
  | nil =>
    simp only [cEs, Option.some.injEq] at h
    subst h
    exact ⟨by simp, rfl, fun X W g tk => ⟨pa_nilD, fun z => absurd rfl z, fun _ => pts_nilD⟩⟩
  | cons a as =>
    rw [cEs] at h
    split at h
    · rename_i hp
      split at h
      · rename_i x xs h1 h2
        cases h
        obtain ⟨p1, p2, p3⟩ := hEs c as xs h2
        refine ⟨fun b hb => ?_, by simp [p2], fun X W g tk => ?_⟩
        · rcases List.mem_cons.mp hb with rfl | hb
          · exact hp
          · exact p1 b hb
        · obtain ⟨q1, q2⟩ := hE c a x h1 X W g tk
          obtain ⟨r1, r2, r3⟩ := p3 X W g tk
          refine ⟨pa_consD hp q1 r1, fun _ op pos => ?_, fun hl => ?_⟩
          · cases as with
            | nil =>
              have e0 : xs = [] := List.length_eq_zero_iff.mp p2
              subst e0
              exact ⟨pe_bop1 q1, pw_bop1 q2⟩
            | cons b as =>
              cases xs with
              | nil => simp at p2
              | cons y ys =>
                obtain ⟨s1, s2⟩ := r2 (by simp) op pos
                exact ⟨pe_bop2 q1 s1, pw_bop2 q2 s2⟩
          · have e1 : as = [] := List.length_eq_zero_iff.mp (by simp at hl; simp [hl])
            subst e1
            have e0 : xs = [] := List.length_eq_zero_iff.mp p2
            subst e0
            exact pts_oneD q2
      · cases h
    · cases h
theorem okO_succ {n : Nat} (hE : OkE cl cv k n) : OkO cl cv k (n + 1) := by
  intro c a e h X W g tk
  cases a with
  | none =>
    simp only [cO, Option.some.injEq] at h
    subst h
    exact po_noneD
  | some a =>
    rw [cO] at h
    obtain ⟨x, hx, rfl⟩ := Option.map_eq_some_iff.mp h
    exact po_someD (hE c a x hx X W g tk).1
theorem walk_name {c : CC} {a : Expr} {i : Nat} {args : List Expr} (h : walkCall c a = some (i, args)) : ∃ x p pos, a = .Call (.Name x p) args [] pos ∧ c.glob x = true ∧ ((i = 0 ∧ x = "range") ∨ (i = 1 ∧ x = "enumerate") ∨ (i = 2 ∧ x = "zip")) := by
  unfold walkCall at h
  split at h
  · rename_i x p as pos
    split at h
    · rename_i hc
      rw [Bool.and_eq_true] at hc
      split at h
      · rename_i hx
        cases h
        exact ⟨x, p, pos, rfl, hc.1, .inl ⟨rfl, hx⟩⟩
      · split at h
        · rename_i hx
          cases h
          exact ⟨x, p, pos, rfl, hc.1, .inr (.inl ⟨rfl, hx⟩)⟩
        · split at h
          · rename_i hx
            cases h
            exact ⟨x, p, pos, rfl, hc.1, .inr (.inr ⟨rfl, hx⟩)⟩
          · cases h
    · cases h
  · cases h
theorem isTup_of {tg : Expr} (h : isTup tg = true) : ∃ es kk pos, tg = .Tuple es kk pos := by
  cases tg <;> first | exact ⟨_, _, _, rfl⟩ | (simp [isTup] at h)
theorem walk0 {c : CC} {a : Expr} {args : List Expr} (h : walkCall c a = some (0, args)) : ∃ p pos, a = .Call (.Name "range" p) args [] pos ∧ c.glob "range" = true := by
  obtain ⟨x, p, pos, rfl, hg, ⟨_, rfl⟩ | ⟨z, _⟩ | ⟨z, _⟩⟩ := walk_name h
  · exact ⟨p, pos, rfl, hg⟩
  · cases z
  · cases z
theorem walk1 {c : CC} {a : Expr} {args : List Expr} (h : walkCall c a = some (1, args)) : ∃ p pos, a = .Call (.Name "enumerate" p) args [] pos ∧ c.glob "enumerate" = true := by
  obtain ⟨x, p, pos, rfl, hg, ⟨z, _⟩ | ⟨_, rfl⟩ | ⟨z, _⟩⟩ := walk_name h
  · cases z
  · exact ⟨p, pos, rfl, hg⟩
  · cases z
theorem walk2 {c : CC} {a : Expr} {args : List Expr} (h : walkCall c a = some (2, args)) : ∃ p pos, a = .Call (.Name "zip" p) args [] pos ∧ c.glob "zip" = true := by
  obtain ⟨x, p, pos, rfl, hg, ⟨z, _⟩ | ⟨z, _⟩ | ⟨_, rfl⟩⟩ := walk_name h
  · cases z
  · cases z
  · exact ⟨p, pos, rfl, hg⟩
theorem okI_succ {n : Nat} (hE : OkE cl cv k n) : OkI cl cv k (n + 1) := by
  intro c tg a e h X W g tk
  rw [cI] at h
  split at h
  · rename_i y hw
    obtain ⟨p, pos, rfl, hg⟩ := walk0 hw
    split at h
    · rename_i hp
      obtain ⟨z, hz, rfl⟩ := Option.map_eq_some_iff.mp h
      exact pi_rng1D g hg hp (hE c _ z hz X W g tk).1
    · cases h
  · rename_i y y2 hw
    obtain ⟨p, pos, rfl, hg⟩ := walk0 hw
    split at h
    · rename_i hp
      rw [Bool.and_eq_true] at hp
      obtain ⟨z, hz, h⟩ := Option.bind_eq_some_iff.mp h
      obtain ⟨z2, hz2, rfl⟩ := Option.map_eq_some_iff.mp h
      exact pi_rng2D g hg hp.1 hp.2 (hE c _ z hz X W g tk).1 (hE c _ z2 hz2 X W g tk).1
    · cases h
  · rename_i y hw
    obtain ⟨p, pos, rfl, hg⟩ := walk1 hw
    split at h
    · rename_i hp
      rw [Bool.and_eq_true] at hp
      obtain ⟨es, kk, tp, rfl⟩ := isTup_of hp.1
      obtain ⟨z, hz, rfl⟩ := Option.map_eq_some_iff.mp h
      exact pi_enmD g hg hp.2 (hE c _ z hz X W g tk).1
    · cases h
  · rename_i y y2 hw
    obtain ⟨p, pos, rfl, hg⟩ := walk2 hw
    split at h
    · rename_i hp
      rw [Bool.and_eq_true, Bool.and_eq_true] at hp
      obtain ⟨es, kk, tp, rfl⟩ := isTup_of hp.1.1
      obtain ⟨z, hz, h⟩ := Option.bind_eq_some_iff.mp h
      obtain ⟨z2, hz2, rfl⟩ := Option.map_eq_some_iff.mp h
      exact pi_zipD g hg hp.1.2 hp.2 (hE c _ z hz X W g tk).1 (hE c _ z2 hz2 X W g tk).1
    · cases h
  · cases h
  · obtain ⟨z, hz, rfl⟩ := Option.map_eq_some_iff.mp h
    exact pi_seqD (hE c _ z hz X W g tk).1
theorem okE_succ {n : Nat} (hE : OkE cl cv k n) (hEs : OkEs cl cv k n) (hO : OkO cl cv k n) (hI : OkI cl cv k n) : OkE cl cv k (n + 1) := by
  intro c a e h X W g tk
  have leaf : leafE a = true → PE X a (lE (pm X cv) W (evalE cl e)) → PE X a (lE (pm X cv) W (evalE cl e)) ∧ PT X a (lT (pm X cv) W (test cl e)) := fun hl hp => ⟨hp, pt_leafD hl hp⟩
  cases a with
  | Name x pos =>
    refine leaf rfl ?_
    simp only [cE] at h
    split at h
    · rename_i i hi
      cases h
      exact pe_name g hi
    · split at h
      · rename_i hg
        obtain ⟨i, hi, rfl⟩ := Option.map_eq_some_iff.mp h
        obtain ⟨t, ht⟩ := g.gs x i hi
        obtain ⟨g1, g2⟩ := g.glob hg
        exact pe_cst (pe_glob (v := .int i) g1 ht ⟨t, rfl⟩ (plain_parts g2).1) fun _ _ => .int i
      · cases h
  | Constant kk j pos =>
    refine leaf rfl ?_
    simp only [cE] at h
    split at h
    · cases h; exact pe_cst pe_non fun _ _ => .non
    · cases h; exact pe_cst pe_bl fun _ _ => .bl _
    · cases h; exact pe_cst pe_int fun _ _ => .int _
    · cases h; exact pe_cst pe_str fun _ _ => .str _
    · cases h
  | Tuple es kk pos =>
    refine leaf rfl ?_
    simp only [cE] at h
    obtain ⟨xs, hx, rfl⟩ := Option.map_eq_some_iff.mp h
    exact pe_tupD ((hEs c es xs hx).2.2 X W g tk).1
  | List es pos =>
    refine leaf rfl ?_
    simp only [cE] at h
    obtain ⟨xs, hx, rfl⟩ := Option.map_eq_some_iff.mp h
    exact pe_lstD ((hEs c es xs hx).2.2 X W g tk).1
  | Dict ks vs pos =>
    refine leaf rfl ?_
    simp only [cE] at h
    split at h
    · rename_i hc
      rw [Bool.and_eq_true, List.isEmpty_iff, List.isEmpty_iff] at hc
      cases h
      rw [hc.1, hc.2]
      exact pe_dctD
    · cases h
  | BinOp x op y pos =>
    refine leaf rfl ?_
    simp only [cE] at h
    obtain ⟨a, ha, h⟩ := Option.bind_eq_some_iff.mp h
    obtain ⟨b, hb, rfl⟩ := Option.map_eq_some_iff.mp h
    exact pe_binD g (hE c x a ha X W g tk).1 (hE c y b hb X W g tk).1
  | UnaryOp op x pos =>
    simp only [cE] at h
    split at h
    · refine leaf rfl ?_
      obtain ⟨a, ha, rfl⟩ := Option.map_eq_some_iff.mp h
      exact pe_negD (hE c x a ha X W g tk).1
    · obtain ⟨a, ha, rfl⟩ := Option.map_eq_some_iff.mp h
      obtain ⟨h1, h2⟩ := hE c x a ha X W g tk
      exact ⟨pe_notD h1, pt_notD h2⟩
    · cases h
  | Compare x ops ys pos =>
    simp only [cE] at h
    split at h
    · rename_i op y
      split at h
      · rename_i hp
        obtain ⟨a, ha, h⟩ := Option.bind_eq_some_iff.mp h
        obtain ⟨b, hb, rfl⟩ := Option.map_eq_some_iff.mp h
        have h1 := (hE c x a ha X W g tk).1
        have h2 := (hE c y b hb X W g tk).1
        exact ⟨pe_cmpD g hp h1 h2, pt_cmpD g hp h1 h2⟩
      · cases h
    · rename_i op op' y z
      split at h
      · rename_i hp
        rw [Bool.and_eq_true] at hp
        obtain ⟨a, ha, h⟩ := Option.bind_eq_some_iff.mp h
        obtain ⟨b, hb, h⟩ := Option.bind_eq_some_iff.mp h
        obtain ⟨d, hd, rfl⟩ := Option.map_eq_some_iff.mp h
        have h1 := (hE c x a ha X W g tk).1
        have h2 := (hE c y b hb X W g tk).1
        have h3 := (hE c z d hd X W g tk).1
        exact ⟨pe_chnD g hp.2 h1 h2 h3, pt_chnD g hp.2 h1 h2 h3⟩
      · cases h
    · cases h
  | BoolOp op es pos =>
    simp only [cE] at h
    split at h
    · cases h
    · rename_i b bs
      obtain ⟨xs, hx, rfl⟩ := Option.map_eq_some_iff.mp h
      obtain ⟨h1, h2⟩ := ((hEs c (b :: bs) xs hx).2.2 X W g tk).2.1 (by simp) op pos
      refine ⟨h1.mono fun σ H Q q => ?_, h2.pt.mono fun σ H Q q => ?_⟩
      · obtain ⟨ρ, env, st, er, R, gg⟩ := q
        rw [evalE] at gg
        exact ⟨ρ, env, st, er, R, gg⟩
      · obtain ⟨ρ, env, st, er, R, gg⟩ := q
        have e0 : test cl (.bop op xs) env st = testB cl op xs env st := by
          show (evalE cl (.bop op xs) env st).bind asB = (evalB cl op xs env st).bind asB
          rw [evalE]
        rw [e0] at gg
        exact ⟨ρ, env, st, er, R, gg⟩
  | IfExp t x y pos =>
    simp only [cE] at h
    obtain ⟨u, hu, h⟩ := Option.bind_eq_some_iff.mp h
    obtain ⟨a, ha, h⟩ := Option.bind_eq_some_iff.mp h
    obtain ⟨b, hb, rfl⟩ := Option.map_eq_some_iff.mp h
    obtain ⟨t1, t2⟩ := hE c t u hu X W g tk
    obtain ⟨a1, a2⟩ := hE c x a ha X W g tk
    obtain ⟨b1, b2⟩ := hE c y b hb X W g tk
    exact ⟨pe_iteD t2 a1 b1, pt_iteD t2 a2 b2⟩
  | Subscript x s pos =>
    refine leaf rfl ?_
    simp only [cE] at h
    split at h
    · rename_i lo hi p2
      obtain ⟨a, ha, h⟩ := Option.bind_eq_some_iff.mp h
      obtain ⟨l, hl, h⟩ := Option.bind_eq_some_iff.mp h
      obtain ⟨u, hu, rfl⟩ := Option.map_eq_some_iff.mp h
      exact pe_slD (hE c x a ha X W g tk).1 (hO c lo l hl X W g tk) (hO c hi u hu X W g tk)
    · split at h
      · rename_i hp
        obtain ⟨a, ha, h⟩ := Option.bind_eq_some_iff.mp h
        obtain ⟨b, hb, rfl⟩ := Option.map_eq_some_iff.mp h
        exact pe_ixD g hp (hE c x a ha X W g tk).1 (hE c _ b hb X W g tk).1
      · cases h
  | Call f args kws pos =>
    refine leaf rfl ?_
    simp only [cE] at h
    split at h
    · rename_i hk
      rw [List.isEmpty_iff] at hk
      subst hk
      split at h
      · rename_i x p
        split at h
        · rename_i hg
          split at h
          · rename_i i hi
            split at h
            · cases h
            · rename_i hne
              obtain ⟨xs, hx, rfl⟩ := Option.map_eq_some_iff.mp h
              obtain ⟨h1, h2, h3⟩ := hEs c args xs hx
              exact pe_fnD g tk hg hi (fun z => hne (by rw [z]; rfl)) h1 (h3 X W g tk).1
          · split at h
            · cases h
            · rename_i a t p'
              split at h
              · rename_i hxi
                subst hxi
                split at h
                · rename_i hg'
                  split at h
                  · obtain ⟨ty, hty, h⟩ := Option.bind_eq_some_iff.mp h
                    split at h
                    · rename_i hp
                      obtain ⟨b, hb, rfl⟩ := Option.map_eq_some_iff.mp h
                      exact pe_isiD g hg hg' hty hp (hE c a b hb X W g tk).1
                    · cases h
                  · cases h
                · cases h
              · obtain ⟨f, hf, h⟩ := Option.bind_eq_some_iff.mp h
                obtain ⟨xs, hx, rfl⟩ := Option.map_eq_some_iff.mp h
                obtain ⟨h1, h2, h3⟩ := hEs c _ xs hx
                exact pe_biD g hg hf h1 (h3 X W g tk).1
            · obtain ⟨f, hf, h⟩ := Option.bind_eq_some_iff.mp h
              obtain ⟨xs, hx, rfl⟩ := Option.map_eq_some_iff.mp h
              obtain ⟨h1, h2, h3⟩ := hEs c _ xs hx
              exact pe_biD g hg hf h1 (h3 X W g tk).1
        · cases h
      · rename_i o m apos
        split at h
        · rename_i hc
          rw [Bool.and_eq_true, Bool.and_eq_true] at hc
          obtain ⟨mm, hm, h⟩ := Option.bind_eq_some_iff.mp h
          obtain ⟨y, hy, h⟩ := Option.bind_eq_some_iff.mp h
          obtain ⟨xs, hx, rfl⟩ := Option.map_eq_some_iff.mp h
          obtain ⟨h1, h2, h3⟩ := hEs c args xs hx
          obtain ⟨m1, m2⟩ := mtOf_ok hm
          subst m1
          exact pe_mtD g hc.2 hc.1.1 h1 (by omega) (fun z => by subst z; exact List.length_eq_zero_iff.mp h2) (hE c o y hy X W g tk).1 (h3 X W g tk).1
        · cases h
      · cases h
    · cases h
  | ListComp elt gs scope pos =>
    refine leaf rfl ?_
    simp only [cE] at h
    split at h
    · rename_i tg iter ifs
      split at h
      · rename_i hc
        rw [Bool.and_eq_true, Bool.and_eq_true, decide_eq_true_eq] at hc
        obtain ⟨t, ht, h⟩ := Option.bind_eq_some_iff.mp h
        split at h
        · rename_i hs
          obtain ⟨it, hit, h⟩ := Option.bind_eq_some_iff.mp h
          obtain ⟨ts, hts, h⟩ := Option.bind_eq_some_iff.mp h
          obtain ⟨e, he, rfl⟩ := Option.map_eq_some_iff.mp h
          refine pe_lcD g hc.1.2 hc.1.1 (fun i hi => ?_) (hI c tg iter it hit X W g tk) (fun s H C cl' fp => cT_ok (g.blk s H C cl' fp) n tg t ht) (fun s H C cl' fp => ?_) (fun s H C cl' fp => ?_)
          · have q := List.all_eq_true.mp hs i hi
            simpa using q
          · exact ((hEs (c.blk scope) ifs ts hts).2.2 _ _ (g.blk s H C cl' fp) takes_none).2.2 hc.2
          · exact (hE (c.blk scope) elt e he _ _ (g.blk s H C cl' fp) takes_none).1
        · cases h
      · cases h
    · cases h
  | _ => simp [cE] at h
theorem ok_all : ∀ n, OkE cl cv k n ∧ OkEs cl cv k n ∧ OkO cl cv k n ∧ OkI cl cv k n
  | 0 => by
    refine ⟨fun c a e h => by simp [cE] at h, fun c as es h => ?_, fun c a e h X W g tk => ?_, fun c tg a e h => by simp [cI] at h⟩
    · cases as with
      | nil =>
        simp only [cEs, Option.some.injEq] at h
        subst h
        exact ⟨by simp, rfl, fun X W g tk => ⟨pa_nilD, fun z => absurd rfl z, fun _ => pts_nilD⟩⟩
      | cons a as => simp [cEs] at h
    · cases a with
      | none =>
        simp only [cO, Option.some.injEq] at h
        subst h
        exact po_noneD
      | some a => simp [cO] at h
  | n + 1 => by
    obtain ⟨h1, h2, h3, h4⟩ := ok_all n
    exact ⟨okE_succ h1 h2 h3 h4, okEs_succ h1 h2, okO_succ h1, okI_succ h1⟩
end
end Ev

/-! Statements. -/
namespace Ev
open PySem PySem.Spec PyProof.Rows L2

/-! ### from the text -/
def plainV : Expr → Bool
  | .Starred .. => false
  | _ => true
/-- a comprehension that is stored as it is let go -/
def CC.swaps (c : CC) (x : Str) (l : Nat) (e : Expr) : Bool := match e with
  | .ListComp _ _ scope pos => decide (c.sc.kind = .function) && decide (c.sc.names.lookup x = some .local) && (l == pos.line) && !(scope.names.any fun (n, k) => n == x && (k == .local || k == .cell))
  | _ => false
mutual
def cS : Nat → CC → Stmt → Option S
  | 0, _, _ => none
  | n + 1, c, s => match s with
    | .Assign ts e pos => match ts with
      | [.Name x p] => if isLc e then (if c.swaps x p.line e then (c.store x).bind fun i => (cE n c e).map fun a => .asg (.nm i) a else none)
          else (c.store x).bind fun i => (cE n c e).map fun a => .asg (.nm i) a
      | [.Tuple us k tp] => match e with
        | .Tuple vs k2 tp2 => match us, vs with
          | [.Name x px, .Name y py], [a, b] => if decide (c.sc.kind = .function) && decide (c.sc.names.lookup x = some .local) && decide (c.sc.names.lookup y = some .local) && decide (py.line = px.line) && decide (x ≠ y) && plainE a && plainE b
                && !([a, b].all (foldedForSure 8)) && !([a, b].all (constantsAlone 8)) then
              (ixOf c.N x).bind fun i => (ixOf c.N y).bind fun j => (cE n c a).bind fun u => (cE n c b).map fun v => .par i j u v
              else none
          | _, _ => none
        | e => (cT c n (.Tuple us k tp)).bind fun t => (cE n c e).map fun a => .asg t a
      | [.Subscript o i p] => if plainE i then (cE n c o).bind fun a => (cE n c i).bind fun b => (cE n c e).map fun v => .put a b v else none
      | _ => none
    | .AugAssign t op e pos => match t, op with
      | .Name x p, .Add => (c.store x).bind fun i => (cE n c e).map fun a => .aug i .Add a
      | _, _ => none
    | .Expr e pos => if isLc e then none else (cE n c e).map .exp
    | .If t a b pos => (cE n c t).bind fun u => (cSs n c a).bind fun x => (cSs n c b).map fun y => .ite u x y
    | .For tg it b e pos => if e.isEmpty && plainE it then (cT c n tg).bind fun t => (cI n c tg it).bind fun i => (cSs n c b).map fun x => .fo t i x else none
    | .While t b e pos => if e.isEmpty then (cE n c t).bind fun u => (cSs n c b).map fun x => .wh u x else none
    | .Return e pos => match e with
      | none => some .retN
      | some e => (cE n c e).map .ret
    | .Continue _ => some .con
    | .Pass _ => some .pas
    | _ => none
def cSs : Nat → CC → List Stmt → Option (List S)
  | _, _, [] => some []
  | 0, _, _ => none
  | n + 1, c, s :: ss => match cS n c s, cSs n c ss with
    | some x, some xs => some (x :: xs)
    | _, _ => none
end

/-! ### readings -/
def GotF (p : Pm) (ρ : List Addr) (H : Hp) (r : Fl) (D : Ends) (W : WX) : Prop := match r with
  | .nx env st => ∀ ρ' H' σ', Ext ρ H ρ' H' → Rel p ρ' H' st → EnvR p.K ρ' H' σ' env → D.nx σ' H'
  | .ct env st => ∀ ρ' H' σ', Ext ρ H ρ' H' → Rel p ρ' H' st → EnvR p.K ρ' H' σ' env → D.ct σ' H'
  | .rt d st => ∀ ρ' H' v, Ext ρ H ρ' H' → Rel p ρ' H' st → Rep p.K ρ' H' v d → D.rt v H'
  | .exc c fs env st => ∀ ρ' H' σ' dd, Ext ρ H ρ' H' → Rel p ρ' H' st → EnvR p.K ρ' H' σ' env → ExcD p ρ' H' fs dd → W (p.cv c) dd σ' H'
  | .bad => False
def lS (p : Pm) (W : WX) (m : En → Sto → Fl) : TS := fun D σ H => ∃ ρ env st, EnvR p.K ρ H σ env ∧ Rel p ρ H st ∧ GotF p ρ H (m env st) D W
section
variable {p : Pm} {W : WX} {ρ ρ1 : List Addr} {H H1 : Hp} {σ : L2.St} {env : En} {st : Sto} {D : Ends}
theorem GotF.step {r : Fl} (e : Ext ρ H ρ1 H1) (g : GotF p ρ H r D W) : GotF p ρ1 H1 r D W := by
  cases r with
  | nx env st => exact fun ρ' H' σ' e' => g ρ' H' σ' (e.trans e')
  | ct env st => exact fun ρ' H' σ' e' => g ρ' H' σ' (e.trans e')
  | rt d st => exact fun ρ' H' v e' => g ρ' H' v (e.trans e')
  | exc c fs env st => exact fun ρ' H' σ' dd e' => g ρ' H' σ' dd (e.trans e')
  | bad => exact g
theorem GotF.fl {α : Type} {r : Res α} {f : α → Sto → Fl} (er : EnvR p.K ρ H σ env) (g : GotF p ρ H (r.fl env f) D W) :
    Got p ρ H r (fun a st1 ρ1 H1 => Ext ρ H ρ1 H1 ∧ Rel p ρ1 H1 st1 ∧ EnvR p.K ρ1 H1 σ env ∧ GotF p ρ1 H1 (f a st1) D W) (fun c dd H' => W c dd σ H') := by
  cases r with
  | ok a st1 => exact fun ρ' H' e' R => ⟨e', R, er.ext e', g.step e'⟩
  | exc c fs st1 => exact fun ρ' H' dd e' R x => g ρ' H' σ dd e' R (er.ext e') x
  | bad => exact g
theorem lE_fl {m : En → Sto → Res Ev.D} {f : Ev.D → Sto → Fl} {K : VK} (er : EnvR p.K ρ H σ env) (R : Rel p ρ H st) (g : GotF p ρ H ((m env st).fl env f) D W)
    (nx : ∀ x st1 ρ1 H1 v, Ext ρ H ρ1 H1 → Rel p ρ1 H1 st1 → EnvR p.K ρ1 H1 σ env → Rep p.K ρ1 H1 v x → GotF p ρ1 H1 (f x st1) D W → K v H1) : lE p W m σ H K :=
  ⟨ρ, env, st, er, R, (GotF.fl er g).mono fun x st1 ρ1 H1 _ _ ⟨e1, R1, er1, g1⟩ v rv => nx x st1 ρ1 H1 v e1 R1 er1 rv g1⟩
theorem lA_fl {m : En → Sto → Res (List Ev.D)} {f : List Ev.D → Sto → Fl} {K : List V → Hp → Prop} (er : EnvR p.K ρ H σ env) (R : Rel p ρ H st) (g : GotF p ρ H ((m env st).fl env f) D W)
    (nx : ∀ x st1 ρ1 H1 v, Ext ρ H ρ1 H1 → Rel p ρ1 H1 st1 → EnvR p.K ρ1 H1 σ env → Reps p.K ρ1 H1 v x → GotF p ρ1 H1 (f x st1) D W → K v H1) : lA p W m σ H K :=
  ⟨ρ, env, st, er, R, (GotF.fl er g).mono fun x st1 ρ1 H1 _ _ ⟨e1, R1, er1, g1⟩ v rv => nx x st1 ρ1 H1 v e1 R1 er1 rv g1⟩
theorem lT_fl {m : En → Sto → Res Bool} {f : Bool → Sto → Fl} {K : Bool → Hp → Prop} (er : EnvR p.K ρ H σ env) (R : Rel p ρ H st) (g : GotF p ρ H ((m env st).fl env f) D W)
    (nx : ∀ x st1 ρ1 H1, Ext ρ H ρ1 H1 → Rel p ρ1 H1 st1 → EnvR p.K ρ1 H1 σ env → GotF p ρ1 H1 (f x st1) D W → K x H1) : lT p W m σ H K :=
  ⟨ρ, env, st, er, R, (GotF.fl er g).mono fun x st1 ρ1 H1 _ _ ⟨e1, R1, er1, g1⟩ => nx x st1 ρ1 H1 e1 R1 er1 g1⟩
/-- one after another -/
def Fl.andThen (r : Fl) (k : En → Sto → Fl) : Fl := match r with
  | .nx env st => k env st
  | r => r
/-- a turn's end: on to the next -/
def Fl.turn (r : Fl) (k : En → Sto → Fl) : Fl := match r with
  | .nx env st => k env st
  | .ct env st => k env st
  | r => r
def Nx (p : Pm) (W : WX) (D : Ends) (ρ : List Addr) (H : Hp) (k : En → Sto → Fl) : L2.St → Hp → Prop := fun σ' H' => ∃ ρ' env' st', Ext ρ H ρ' H' ∧ EnvR p.K ρ' H' σ' env' ∧ Rel p ρ' H' st' ∧ GotF p ρ' H' (k env' st') D W
theorem GotF.andThen {r : Fl} {k : En → Sto → Fl} (g : GotF p ρ H (r.andThen k) D W) : GotF p ρ H r { D with nx := Nx p W D ρ H k } W := by
  cases r with
  | nx env st => exact fun ρ' H' σ' e' R' er' => ⟨ρ', env, st, e', er', R', GotF.step e' g⟩
  | _ => exact g
theorem GotF.turn {r : Fl} {k : En → Sto → Fl} {B : L2.St → Hp → Prop} (g : GotF p ρ H (r.turn k) D W) : GotF p ρ H r { D with nx := Nx p W D ρ H k, ct := Nx p W D ρ H k, bk := B } W := by
  cases r with
  | nx env st => exact fun ρ' H' σ' e' R' er' => ⟨ρ', env, st, e', er', R', GotF.step e' g⟩
  | ct env st => exact fun ρ' H' σ' e' R' er' => ⟨ρ', env, st, e', er', R', GotF.step e' g⟩
  | _ => exact g
end
theorem _root_.L2.PS.mono {X : Cx} {s : Stmt} {t t' : TS} (h : PS X s t) (m : ∀ D σ H, t' D σ H → t D σ H) : PS X s t' := ⟨fun pins s σ H D I q => h.run pins s σ H D I (m D σ H q)⟩
theorem _root_.L2.PSs.mono {X : Cx} {s : List Stmt} {t t' : TS} (h : PSs X s t) (m : ∀ D σ H, t' D σ H → t D σ H) : PSs X s t' := ⟨fun pins s σ H D I q => h.run pins s σ H D I (m D σ H q)⟩

/-! ### each statement -/
section
variable {cl : Calls} {cv : Nat → Value} {k w : Nat} {X : Cx} {c : CC} {W : WX}
theorem pss_nilD : PSs X [] (lS (pm X cv) W (execSs cl w [])) := pss_nil.mono fun D σ H q => by
  obtain ⟨ρ, env, st, er, R, g⟩ := q
  rw [execSs] at g
  exact g ρ H σ .refl R er
theorem pss_consD {a : Stmt} {as : List Stmt} {s : S} {ss : List S} (h1 : PS X a (lS (pm X cv) W (execS cl w s))) (h2 : PSs X as (lS (pm X cv) W (execSs cl w ss))) : PSs X (a :: as) (lS (pm X cv) W (execSs cl w (s :: ss))) := (pss_cons h1 h2).mono fun D σ H q => by
  obtain ⟨ρ, env, st, er, R, g⟩ := q
  have e : execSs cl w (s :: ss) env st = (execS cl w s env st).andThen (execSs cl w ss) := by rw [execSs]; rfl
  rw [e] at g
  refine ⟨ρ, env, st, er, R, ?_⟩
  have g2 := GotF.andThen g
  revert g2
  generalize execS cl w s env st = r
  intro g2
  cases r with
  | nx env st =>
    intro ρ' H' σ' e' R' er'
    obtain ⟨ρ2, env2, st2, _, h2, h3, h4⟩ := g2 ρ' H' σ' e' R' er'
    exact ⟨ρ2, env2, st2, h2, h3, h4⟩
  | _ => exact g2
theorem ps_asgD (g : Gd cl cv k X c) {tg e : Expr} {t : Tg} {a : E} {pos : Pos} (he : PE X e (lE (pm X cv) W (evalE cl a))) (hg : PG X tg (lG (pm X cv) t)) (hs : swapsWithSole [tg] e pos.line X.env = pure false) (hw : swappedStores [tg] e X.env = pure none)
    (h1 : (assignEach [tg] X.env).map (·.2) = [assign tg X.env]) : PS X (.Assign [tg] e pos) (lS (pm X cv) W (execS cl w (.asg t a))) := (ps_asg he hg hs hw h1).mono fun D σ H q => by
  obtain ⟨ρ, env, st, er, R, gg⟩ := q
  rw [execS] at gg
  refine lE_fl er R gg fun x st1 ρ1 H1 v e1 R1 er1 rv g1 => ?_
  split at g1
  · rename_i env' hb
    exact ⟨ρ1, env, st1, x, env', er1, R1, rv, hb, fun σ' er' _ => g1 ρ1 H1 σ' .refl R1 er'⟩
  · exact g1.elim
theorem rd_set {p : Pm} {D : Ends} {σ : L2.St} {H : Hp} {i : Nat} {a : E} {te : TE} (h : ∀ Q, lE p W (evalE cl a) σ H Q → te σ H Q) (q : lS p W (execS cl w (.asg (.nm i) a)) D σ H) : tAsg te (gName i) D σ H := by
  obtain ⟨ρ, env, st, er, R, gg⟩ := q
  rw [execS] at gg
  refine h _ (lE_fl er R gg fun x st1 ρ1 H1 v e1 R1 er1 rv g1 => ?_)
  simp only [bindT] at g1
  exact g1 ρ1 H1 _ .refl R1 (er1.set rv i)
theorem swaps_plain {e : Expr} {t : Option Expr} {l : Nat} {env : Env} (h : isLc e = false) : swapsWith e t l env = pure false := by
  cases e <;> first | rfl | (simp [isLc] at h)
theorem ps_setD (g : Gd cl cv k X c) {x : Str} {e : Expr} {a : E} {i : Nat} {p' pos : Pos} (hi : c.store x = some i) (hl : isLc e = false) (he : PE X e (lE (pm X cv) W (evalE cl a))) : PS X (.Assign [.Name x p'] e pos) (lS (pm X cv) W (execS cl w (.asg (.nm i) a))) := by
  obtain ⟨h1, h2, h3⟩ := g.store hi
  exact (ps_set g.nd h1 h2 he (swaps_plain hl) h3).mono fun D σ H q => rd_set (fun _ q => q) q
/-- the parts of a comprehension -/
theorem lc_parts {n : Nat} {elt : Expr} {gs : List Comprehension} {scope : Scope} {pos : Pos} {e : E} (h : cE (n + 1) c (.ListComp elt gs scope pos) = some e) : ∃ tg iter ifs t it ts el, gs = [⟨tg, iter, ifs, 0⟩] ∧ e = .lc ((ownOf c.N scope.names).map (·.2)) t it ts el ∧
    blkC c.N c.sc scope (ownOf c.N scope.names) = true ∧ plainE iter = true ∧ ifs.length ≤ 1 ∧ cT (c.blk scope) n tg = some t ∧ (∀ i ∈ tgSlots t, i ∈ (ownOf c.N scope.names).map (·.2)) ∧ cI n c tg iter = some it ∧ cEs n (c.blk scope) ifs = some ts ∧ cE n (c.blk scope) elt = some el := by
  simp only [cE] at h
  split at h
  · rename_i tg iter ifs
    split at h
    · rename_i hc
      rw [Bool.and_eq_true, Bool.and_eq_true, decide_eq_true_eq] at hc
      obtain ⟨t, ht, h⟩ := Option.bind_eq_some_iff.mp h
      split at h
      · rename_i hs
        obtain ⟨it, hit, h⟩ := Option.bind_eq_some_iff.mp h
        obtain ⟨ts, hts, h⟩ := Option.bind_eq_some_iff.mp h
        obtain ⟨e, he, rfl⟩ := Option.map_eq_some_iff.mp h
        refine ⟨tg, iter, ifs, t, it, ts, e, rfl, rfl, hc.1.1, hc.1.2, hc.2, ht, fun i hi => ?_, hit, hts, he⟩
        have q := List.all_eq_true.mp hs i hi
        simpa using q
      · cases h
    · cases h
  · cases h
theorem ps_setLcD (g : Gd cl cv k X c) (tk : Takes X W) {n : Nat} {x : Str} {e : Expr} {a : E} {i : Nat} {p' pos : Pos} (hi : c.store x = some i) (hl : c.swaps x p'.line e = true) (he : cE n c e = some a) : PS X (.Assign [.Name x p'] e pos) (lS (pm X cv) W (execS cl w (.asg (.nm i) a))) := by
  obtain ⟨h1, h2, h3⟩ := g.store hi
  cases e with
  | ListComp elt gs scope lpos =>
    simp only [CC.swaps, Bool.and_eq_true, decide_eq_true_eq, Bool.not_eq_true'] at hl
    obtain ⟨⟨⟨l1, l2⟩, l3⟩, l4⟩ := hl
    cases n with
    | zero => simp [cE] at he
    | succ n =>
      obtain ⟨tg, iter, ifs, t, it, ts, el, rfl, rfl, q1, q2, q3, q4, q5, q6, q7, q8⟩ := lc_parts he
      obtain ⟨oE, oEs, oO, oI⟩ := ok_all (cl := cl) (cv := cv) (k := k) n
      refine (ps_setLc (wi := lI (pm X cv) W (evalI cl it)) (g := lG (pm X cv) t) (tt := lT (pm X cv) (fun _ _ _ _ => False) (evalTs cl ts)) (te := lE (pm X cv) (fun _ _ _ _ => False) (evalE cl el)) g.calm g.nd h1 (by rw [g.sc]; exact l2) (sw_true (by rw [g.sc]; exact l1) (by rw [g.sc]; exact l2) l3 l4) (oI c tg iter it q6 X W g tk) (by rw [g.N, g.sc]; exact blkOk_by q1)
        (fun s H C cl' fp => cT_ok (g.blk s H C cl' fp) n tg t q4) (fun s H C cl' fp => ((oEs (c.blk scope) ifs ts q7).2.2 _ _ (g.blk s H C cl' fp) takes_none).2.2 q3) (fun s H C cl' fp => (oE (c.blk scope) elt el q8 _ _ (g.blk s H C cl' fp) takes_none).1) (plain_folded q2)).mono fun D σ H q => rd_set (fun Q q => ?_) q
      exact rd_lc q5 q
  | _ => simp [CC.swaps] at hl
theorem star_no {a : Expr} (h : plainE a = true) : (match a with | .Starred .. => true | _ => false) = false := by
  cases a <;> first | rfl | (simp [plainE] at h)
theorem ps_parD (g : Gd cl cv k X c) {x y : Str} {a b : Expr} {u v : E} {i j : Nat} {px py pt pt2 pos : Pos} {kt k2 : Nat} (hi : ixOf c.N x = some i) (hj : ixOf c.N y = some j) (hk : c.sc.kind = .function) (hx : c.sc.names.lookup x = some .local) (hy : c.sc.names.lookup y = some .local) (hl : py.line = px.line) (hxy : x ≠ y)
    (pa : plainE a = true) (pb : plainE b = true) (hf : [a, b].all (foldedForSure 8) = false) (hcs : [a, b].all (constantsAlone 8) = false) (ha : PE X a (lE (pm X cv) W (evalE cl u))) (hb : PE X b (lE (pm X cv) W (evalE cl v))) :
    PS X (.Assign [.Tuple [.Name x px, .Name y py] kt pt] (.Tuple [a, b] k2 pt2) pos) (lS (pm X cv) W (execS cl w (.par i j u v))) := by
  have hN1 : X.N[i]? = some x := by rw [g.N]; exact ixOf_at hi
  have hN2 : X.N[j]? = some y := by rw [g.N]; exact ixOf_at hj
  have hij : i ≠ j := fun z => by
    subst z
    rw [hN1] at hN2
    exact hxy (Option.some.inj hN2)
  have hw : swappedStores [.Tuple [.Name x px, .Name y py] kt pt] (.Tuple [a, b] k2 pt2) X.env = pure (some [x, y]) := by
    have ky : X.env.kindOf y = some .local := by show X.env.scope.names.lookup y = _; rw [g.sc]; exact hy
    have kx : X.env.kindOf x = some .local := by show X.env.scope.names.lookup x = _; rw [g.sc]; exact hx
    have kb : X.env.blockKind = .function := by unfold Env.blockKind; rw [g.sc, hk]; rfl
    have hne : y ≠ x := fun z => hxy z.symm
    unfold swappedStores
    simp only [List.length_cons, List.length_nil, kb, star_no pa, star_no pb, List.any_cons, List.any_nil, List.filterMap_cons, List.filterMap_nil, kx, ky, Expr.pos, hl, hf, hcs, List.eraseDups_cons, List.filter_cons, List.head?_cons, Option.map_some, Option.getD_some]
    simp [hne, hxy]
    have e2 : [x, y].eraseDups.length = 2 := by
      rw [List.eraseDups_cons]
      simp [hne, List.eraseDups_cons]
    rw [if_neg, if_pos e2]
    intro z
    rcases z with z | z
    · cases a <;> first | (exact absurd z Bool.false_ne_true) | (simp [plainE] at pa)
    · cases b <;> first | (exact absurd z Bool.false_ne_true) | (simp [plainE] at pb)
  refine (ps_par g.calm g.nd hN1 hN2 hij (by rw [g.sc]; exact hx) (by rw [g.sc]; exact hy) (pa_cons ha (pa_cons hb pa_nil (star_cons pb)) (star_cons pa)) hw rfl).mono fun D σ H q => ?_
  obtain ⟨ρ, env, st, er, R, gg⟩ := q
  rw [execS] at gg
  refine lE_fl er R gg fun x st1 ρ1 H1 v e1 R1 er1 rv g1 => ?_
  refine lE_fl er1 R1 g1 fun y st2 ρ2 H2 u e2 R2 er2 ru g2 => ?_
  exact ⟨v, u, rfl, g2 ρ2 H2 _ .refl R2 ((er2.set (rv.ext e2) i).set ru j)⟩
theorem ps_putD (g : Gd cl cv k X c) {o i e : Expr} {a b v : E} {p' pos : Pos} (hp : plainE i = true) (ho : PE X o (lE (pm X cv) W (evalE cl a))) (hi : PE X i (lE (pm X cv) W (evalE cl b))) (he : PE X e (lE (pm X cv) W (evalE cl v))) :
    PS X (.Assign [.Subscript o i p'] e pos) (lS (pm X cv) W (execS cl w (.put a b v))) := by
  have hs : swapsWithSole [.Subscript o i p'] e pos.line X.env = pure false := by
    show swapsWith e (some (.Subscript o i p')) pos.line X.env = pure false
    cases e <;> rfl
  have hw : swappedStores [.Subscript o i p'] e X.env = pure none := by cases e <;> rfl
  have hst : PG X (.Subscript o i p') (gSub (lE (pm X cv) W (evalE cl a)) (lE (pm X cv) W (evalE cl b)) (PutD (pm X cv))) := pg_sub ho hi (put_ok g.units) (by
    intro v
    cases i <;> first | rfl | (simp [plainE] at hp))
  refine (ps_asg he hst hs hw rfl).mono fun D σ H q => ?_
  obtain ⟨ρ, env, st, er, R, gg⟩ := q
  rw [execS] at gg
  refine lE_fl er R gg fun z st1 ρ1 H1 vz e1 R1 er1 rz g1 => ?_
  refine lE_fl er1 R1 g1 fun x st2 ρ2 H2 vx e2 R2 er2 rx g2 => ?_
  refine lE_fl er2 R2 g2 fun y st3 ρ3 H3 vy e3 R3 er3 ry g3 => ?_
  split at g3
  · rename_i st' hput
    exact ⟨ρ3, st3, x, y, z, st', R3, rx.ext e3, ry, (rz.ext e2).ext e3, hput, fun H' e' R' => g3 ρ3 H' σ e' R' (er3.ext e')⟩
  · exact g3.elim
theorem ps_augD (g : Gd cl cv k X c) {x : Str} {e : Expr} {a : E} {i : Nat} {p' pos : Pos} (hi : c.store x = some i) (he : PE X e (lE (pm X cv) W (evalE cl a))) : PS X (.AugAssign (.Name x p') .Add e pos) (lS (pm X cv) W (execS cl w (.aug i .Add a))) := by
  obtain ⟨h1, h2, h3⟩ := g.store hi
  refine (ps_aug g.nd h1 h2 he ip_add h3).mono fun D σ H q => ?_
  obtain ⟨ρ, env, st, er, R, gg⟩ := q
  rw [execS] at gg
  cases hv : env.val i with
  | none => rw [hv] at gg; exact gg.elim
  | some d =>
    rw [hv, Res.of_some, Res.fl_ok] at gg
    obtain ⟨v, hv', rv⟩ := er.val i d (En.val_some hv)
    refine ⟨v, hv', lE_fl er R gg fun y st1 ρ1 H1 u e1 R1 er1 ru g1 => ?_⟩
    split at g1
    · rename_i z1 z2 z3
      cases rv
      cases ru
      exact ⟨_, _, rfl, rfl, g1 ρ1 H1 _ .refl R1 (er1.set (.int _) i)⟩
    · exact g1.elim
theorem ps_expD {e : Expr} {a : E} {pos : Pos} (hl : isLc e = false) (he : PE X e (lE (pm X cv) W (evalE cl a))) : PS X (.Expr e pos) (lS (pm X cv) W (execS cl w (.exp a))) := (ps_expr he (swaps_plain hl)).mono fun D σ H q => by
  obtain ⟨ρ, env, st, er, R, gg⟩ := q
  rw [execS] at gg
  exact lE_fl er R gg fun y st1 ρ1 H1 u e1 R1 er1 ru g1 => g1 ρ1 H1 σ .refl R1 er1
theorem ps_iteD {t : Expr} {a b : List Stmt} {u : E} {x y : List S} {pos : Pos} (ht : PT X t (lT (pm X cv) W (test cl u))) (ha : PSs X a (lS (pm X cv) W (execSs cl w x))) (hb : PSs X b (lS (pm X cv) W (execSs cl w y))) : PS X (.If t a b pos) (lS (pm X cv) W (execS cl w (.ite u x y))) := (ps_if ht ha hb).mono fun D σ H q => by
  obtain ⟨ρ, env, st, er, R, gg⟩ := q
  rw [execS] at gg
  refine lT_fl (m := test cl u) er R gg fun b st1 ρ1 H1 e1 R1 er1 g1 => ?_
  cases b with
  | true => exact ite_tt ⟨ρ1, env, st1, er1, R1, g1⟩
  | false => exact ite_ff ⟨ρ1, env, st1, er1, R1, g1⟩
theorem ps_retD {e : Expr} {a : E} {pos : Pos} (he : PE X e (lE (pm X cv) W (evalE cl a))) : PS X (.Return (some e) pos) (lS (pm X cv) W (execS cl w (.ret a))) := (ps_ret he).mono fun D σ H q => by
  obtain ⟨ρ, env, st, er, R, gg⟩ := q
  rw [execS] at gg
  exact lE_fl er R gg fun y st1 ρ1 H1 u e1 R1 er1 ru g1 => g1 ρ1 H1 u .refl R1 ru
theorem ps_retND {pos : Pos} : PS X (.Return none pos) (lS (pm X cv) W (execS cl w .retN)) := ps_retN.mono fun D σ H q => by
  obtain ⟨ρ, env, st, er, R, gg⟩ := q
  rw [execS] at gg
  exact gg ρ H .non .refl R .non
theorem ps_conD {pos : Pos} : PS X (.Continue pos) (lS (pm X cv) W (execS cl w .con)) := ps_continue.mono fun D σ H q => by
  obtain ⟨ρ, env, st, er, R, gg⟩ := q
  rw [execS] at gg
  exact gg ρ H σ .refl R er
theorem ps_pasD {pos : Pos} : PS X (.Pass pos) (lS (pm X cv) W (execS cl w .pas)) := ps_pass.mono fun D σ H q => by
  obtain ⟨ρ, env, st, er, R, gg⟩ := q
  rw [execS] at gg
  exact gg ρ H σ .refl R er
theorem loopW_succ (test : En → Sto → Res Bool) (body : En → Sto → Fl) (n : Nat) (env : En) (st : Sto) : loopW test body (n + 1) env st = (test env st).fl env fun b st1 => if b = true then (body env st1).turn (loopW test body n) else .nx env st1 := by
  rw [loopW]
  have e : (fun b st1 => if b = true then match body env st1 with
      | .nx env2 st2 => loopW test body n env2 st2
      | .ct env2 st2 => loopW test body n env2 st2
      | r => r
    else .nx env st1) = (fun b st1 => if b = true then (body env st1).turn (loopW test body n) else .nx env st1 : Bool → Sto → Fl) := by
    funext b st1
    cases b with
    | true =>
      simp only [if_true]
      cases body env st1 <;> rfl
    | false => rfl
  exact congrArg _ e
theorem ps_whD {t : Expr} {b : List Stmt} {u : E} {x : List S} {pos : Pos} (hp : PassesOwn (model X.prog X.w) X.A X.env X.xe) (ht : PT X t (lT (pm X cv) W (test cl u))) (hb : PSs X b (lS (pm X cv) W (execSs cl w x))) : PS X (.While t b [] pos) (lS (pm X cv) W (execS cl w (.wh u x))) := (ps_while hp ht hb).mono fun D σ H q => by
  obtain ⟨ρ, env, st, er, R, gg⟩ := q
  rw [execS] at gg
  refine ⟨fun m σ H => ∃ ρ env st, EnvR X.K ρ H σ env ∧ Rel (pm X cv) ρ H st ∧ GotF (pm X cv) ρ H (loopW (test cl u) (execSs cl w x) m env st) D W, ⟨w, ρ, env, st, er, R, gg⟩, ?_⟩
  rintro m σ H ⟨ρ, env, st, er, R, gg⟩
  cases m with
  | zero => exact gg.elim
  | succ m =>
    rw [loopW_succ] at gg
    refine lT_fl er R gg fun b st1 ρ1 H1 e1 R1 er1 g1 => ?_
    cases b with
    | true =>
      refine ite_tt ⟨Nx (pm X cv) W D ρ1 H1 (loopW (test cl u) (execSs cl w x) m), ?_, ρ1, env, st1, er1, R1, GotF.turn g1⟩
      rintro σ' H' ⟨ρ', env', st', _, h2, h3, h4⟩
      exact ⟨m, Nat.lt_succ_self m, ρ', env', st', h2, h3, h4⟩
    | false => exact ite_ff (g1 ρ1 H1 σ .refl R1 er1)
theorem loopF_cons (bd : Sto → Ev.D → En → Option En) (body : En → Sto → Fl) (gd : List (Nat × O)) (d : Ev.D) (ds : List Ev.D) (env : En) (st : Sto) : loopF bd body gd (d :: ds) env st = if still gd st then match bd st d env with
    | some env1 => (body env1 st).turn (loopF bd body gd ds)
    | none => .bad
    else .bad := by
  rw [loopF]
  cases still gd st with
  | false => rfl
  | true =>
    simp only [if_true]
    cases bd st d env with
    | none => rfl
    | some env1 =>
      simp only
      cases body env1 st <;> rfl
theorem ps_foD (g : Gd cl cv k X c) {tg it : Expr} {b : List Stmt} {t : Tg} {i : I} {x : List S} {pos : Pos} (hp : PassesOwn (model X.prog X.w) X.A X.env X.xe) (hpl : plainE it = true) (hg : PG X tg (lG (pm X cv) t)) (hi : PI X tg it (lI (pm X cv) W (evalI cl i))) (hb : PSs X b (lS (pm X cv) W (execSs cl w x))) :
    PS X (.For tg it b [] pos) (lS (pm X cv) W (execS cl w (.fo t i x))) := (ps_for hp g.calm hi hg hb (plain_folded hpl)).mono fun D σ H q => by
  obtain ⟨ρ, env, st, er, R, gg⟩ := q
  rw [execS] at gg
  refine ⟨ρ, env, st, er, R, (GotF.fl er gg).mono fun w0 st1 ρ1 H1 _ _ ⟨e1, R1, er1, g1⟩ J hJ => ?_⟩
  let lp := loopF (fun st => bindT st t) (fun env st => execSs cl w x env st) w0.gd
  refine ⟨fun i m σ H => m = w0.xs.length - i ∧ i ≤ w0.xs.length ∧ ∃ ρi envi sti, Ext ρ1 H1 ρi H ∧ EnvR X.K ρi H σ envi ∧ Rel (pm X cv) ρi H sti ∧ GotF (pm X cv) ρi H (lp (w0.xs.drop i) envi sti) D W,
    ⟨w0.xs.length, by simp, Nat.zero_le _, ρ1, env, st1, .refl, er1, R1, g1⟩, ?_⟩
  rintro i m σ H ⟨rfl, hi, ρi, envi, sti, ei, eri, Ri, gi⟩
  by_cases hlt : i < w0.xs.length
  · have hd : w0.xs.drop i = w0.xs[i] :: w0.xs.drop (i + 1) := List.drop_eq_getElem_cons hlt
    rw [hd] at gi
    have gi' : GotF (pm X cv) ρi H (loopF (fun st => bindT st t) (fun env st => execSs cl w x env st) w0.gd (w0.xs[i] :: w0.xs.drop (i + 1)) envi sti) D W := gi
    rw [loopF_cons] at gi'
    split at gi'
    · rename_i hst
      split at gi'
      · rename_i env1 hbd
        refine .inr ⟨hJ.goes i ρi H sti ei Ri hst hlt, Nx (pm X cv) W D ρi H (lp (w0.xs.drop (i + 1))), ?_, fun y H' hy => ?_⟩
        · rintro σ' H' ⟨ρ', env', st', h1, h2, h3, h4⟩
          exact ⟨w0.xs.length - (i + 1), by omega, rfl, hlt, ρ', env', st', ei.trans h1, h2, h3, h4⟩
        · obtain ⟨ey, Ry, d, hdx, rx⟩ := hJ.yields i ρi H sti y H' ei Ri hst hlt hy
          have ed : d = w0.xs[i] := by
            rw [List.getElem?_eq_getElem hlt] at hdx
            exact (Option.some.inj hdx).symm
          subst ed
          refine ⟨ρi, envi, sti, _, env1, eri.ext ey, Ry, rx, hbd, fun σ2 er2 _ => ⟨ρi, env1, sti, er2, Ry, ?_⟩⟩
          have g2 := (GotF.turn (B := D.nx) gi').step ey
          exact g2
      · exact gi'.elim
    · exact gi'.elim
  · have en : i = w0.xs.length := by omega
    subst en
    rw [List.drop_length] at gi
    have gi' : GotF (pm X cv) ρi H (loopF (fun st => bindT st t) (fun env st => execSs cl w x env st) w0.gd [] envi sti) D W := gi
    rw [loopF] at gi'
    split at gi'
    · rename_i hst
      exact .inl ⟨hJ.stops ρi H sti ei Ri hst, gi' ρi H σ .refl Ri eri⟩
    · exact gi'.elim
end
end Ev

/-! All statements, the defs' table, the law's end. -/
namespace Ev
open PySem PySem.Spec PyProof.Rows L2

section
variable (cl : Calls) (cv : Nat → Value) (k w : Nat)
def OkS (n : Nat) : Prop := ∀ (c : CC) (a : Stmt) (s : S), cS n c a = some s → ∀ (X : Cx) (W : WX), Gd cl cv k X c → Takes X W → PassesOwn (model X.prog X.w) X.A X.env X.xe → PS X a (lS (pm X cv) W (execS cl w s))
def OkSs (n : Nat) : Prop := ∀ (c : CC) (as : List Stmt) (ss : List S), cSs n c as = some ss → ∀ (X : Cx) (W : WX), Gd cl cv k X c → Takes X W → PassesOwn (model X.prog X.w) X.A X.env X.xe → PSs X as (lS (pm X cv) W (execSs cl w ss))
variable {cl cv k w}
theorem okSs_succ {n : Nat} (hS : OkS cl cv k w n) (hSs : OkSs cl cv k w n) : OkSs cl cv k w (n + 1) := by
  intro c as ss h X W g tk po
  cases as with
  | nil =>
    simp only [cSs, Option.some.injEq] at h
    subst h
    exact pss_nilD
  | cons a as =>
    rw [cSs] at h
    split at h
    · rename_i x xs h1 h2
      cases h
      exact pss_consD (hS c a x h1 X W g tk po) (hSs c as xs h2 X W g tk po)
    · cases h
theorem swapped_not {us : List Expr} {kk : Nat} {tp : Pos} {e : Expr} {env : Env} (h : isTup e = false) : swappedStores [.Tuple us kk tp] e env = pure none := by
  cases e <;> first | rfl | (simp [isTup] at h)
theorem swaps_tup {us : List Expr} {kk l : Nat} {tp : Pos} {e : Expr} {env : Env} : swapsWithSole [.Tuple us kk tp] e l env = pure false := by
  show swapsWith e (some (.Tuple us kk tp)) l env = pure false
  cases e <;> rfl
theorem okS_succ {n : Nat} (hSs : OkSs cl cv k w n) : OkS cl cv k w (n + 1) := by
  intro c a s h X W g tk po
  obtain ⟨oE, oEs, oO, oI⟩ := ok_all (cl := cl) (cv := cv) (k := k) n
  cases a with
  | Assign ts e pos =>
    simp only [cS] at h
    split at h
    · rename_i x p
      split at h
      · split at h
        · rename_i hsw
          obtain ⟨i, hi, h⟩ := Option.bind_eq_some_iff.mp h
          obtain ⟨a, ha, rfl⟩ := Option.map_eq_some_iff.mp h
          exact ps_setLcD g tk hi hsw ha
        · cases h
      · rename_i hl
        obtain ⟨i, hi, h⟩ := Option.bind_eq_some_iff.mp h
        obtain ⟨a, ha, rfl⟩ := Option.map_eq_some_iff.mp h
        exact ps_setD g hi (by simpa using hl) (oE c e a ha X W g tk).1
    · rename_i us kk tp
      split at h
      · rename_i vs k2 tp2
        split at h
        · rename_i x px y py a b
          split at h
          · rename_i hc
            simp only [Bool.and_eq_true, decide_eq_true_eq, Bool.not_eq_true'] at hc
            obtain ⟨⟨⟨⟨⟨⟨⟨⟨h1, h2⟩, h3⟩, h4⟩, h5⟩, h6⟩, h7⟩, h8⟩, h9⟩ := hc
            obtain ⟨i, hi, h⟩ := Option.bind_eq_some_iff.mp h
            obtain ⟨j, hj, h⟩ := Option.bind_eq_some_iff.mp h
            obtain ⟨u, hu, h⟩ := Option.bind_eq_some_iff.mp h
            obtain ⟨v, hv, rfl⟩ := Option.map_eq_some_iff.mp h
            exact ps_parD g hi hj h1 h2 h3 h4 h5 h6 h7 h8 h9 (oE c a u hu X W g tk).1 (oE c b v hv X W g tk).1
          · cases h
        · cases h
      · rename_i hne
        obtain ⟨t, ht, h⟩ := Option.bind_eq_some_iff.mp h
        obtain ⟨a, ha, rfl⟩ := Option.map_eq_some_iff.mp h
        have hnt : isTup e = false := by
          cases e <;> first | rfl | exact absurd rfl (hne _ _ _)
        exact ps_asgD g (oE c e a ha X W g tk).1 (cT_ok g n _ t ht) swaps_tup (swapped_not hnt) rfl
    · rename_i o i p
      split at h
      · rename_i hp
        obtain ⟨a, ha, h⟩ := Option.bind_eq_some_iff.mp h
        obtain ⟨b, hb, h⟩ := Option.bind_eq_some_iff.mp h
        obtain ⟨v, hv, rfl⟩ := Option.map_eq_some_iff.mp h
        exact ps_putD g hp (oE c o a ha X W g tk).1 (oE c i b hb X W g tk).1 (oE c e v hv X W g tk).1
      · cases h
    · cases h
  | AugAssign t op e pos =>
    simp only [cS] at h
    split at h
    · obtain ⟨i, hi, h⟩ := Option.bind_eq_some_iff.mp h
      obtain ⟨a, ha, rfl⟩ := Option.map_eq_some_iff.mp h
      exact ps_augD g hi (oE c e a ha X W g tk).1
    · cases h
  | Expr e pos =>
    simp only [cS] at h
    split at h
    · cases h
    · rename_i hl
      obtain ⟨a, ha, rfl⟩ := Option.map_eq_some_iff.mp h
      exact ps_expD (by simpa using hl) (oE c e a ha X W g tk).1
  | If t a b pos =>
    simp only [cS] at h
    obtain ⟨u, hu, h⟩ := Option.bind_eq_some_iff.mp h
    obtain ⟨x, hx, h⟩ := Option.bind_eq_some_iff.mp h
    obtain ⟨y, hy, rfl⟩ := Option.map_eq_some_iff.mp h
    exact ps_iteD (oE c t u hu X W g tk).2 (hSs c a x hx X W g tk po) (hSs c b y hy X W g tk po)
  | For tg it b e pos =>
    simp only [cS] at h
    split at h
    · rename_i hc
      rw [Bool.and_eq_true, List.isEmpty_iff] at hc
      obtain ⟨t, ht, h⟩ := Option.bind_eq_some_iff.mp h
      obtain ⟨i, hi, h⟩ := Option.bind_eq_some_iff.mp h
      obtain ⟨x, hx, rfl⟩ := Option.map_eq_some_iff.mp h
      rw [hc.1]
      exact ps_foD g po hc.2 (cT_ok g n tg t ht) (oI c tg it i hi X W g tk) (hSs c b x hx X W g tk po)
    · cases h
  | While t b e pos =>
    simp only [cS] at h
    split at h
    · rename_i hc
      rw [List.isEmpty_iff] at hc
      obtain ⟨u, hu, h⟩ := Option.bind_eq_some_iff.mp h
      obtain ⟨x, hx, rfl⟩ := Option.map_eq_some_iff.mp h
      rw [hc]
      exact ps_whD po (oE c t u hu X W g tk).2 (hSs c b x hx X W g tk po)
    · cases h
  | Return e pos =>
    simp only [cS] at h
    split at h
    · cases h; exact ps_retND
    · obtain ⟨a, ha, rfl⟩ := Option.map_eq_some_iff.mp h
      exact ps_retD (oE c _ a ha X W g tk).1
  | Continue pos =>
    simp only [cS] at h
    cases h
    exact ps_conD
  | Pass pos =>
    simp only [cS] at h
    cases h
    exact ps_pasD
  | _ => simp [cS] at h
theorem ok_stmts : ∀ n, OkS cl cv k w n ∧ OkSs cl cv k w n
  | 0 => by
    refine ⟨fun c a s h => by simp [cS] at h, fun c as ss h X W g tk po => ?_⟩
    cases as with
    | nil =>
      simp only [cSs, Option.some.injEq] at h
      subst h
      exact pss_nilD
    | cons a as => simp [cSs] at h
  | n + 1 => by
    obtain ⟨h1, h2⟩ := ok_stmts n
    exact ⟨okS_succ h2, okSs_succ h1 h2⟩
end

/-! ### the defs -/
structure Df where
  nm : Str
  st : Stmt
  N : List Str
  ps : List Str
  F : Fn
def Df.cc (d : Df) (fs : List Str) (gs : List (Str × Int)) : CC := ⟨d.N, defScope d.st, fun _ => true, fs, gs⟩
structure DfOk (fs : List Str) (gs : List (Str × Int)) (d : Df) : Prop where
  sc : FnScope d.N d.ps (defScope d.st)
  cc : cSs 64 (d.cc fs gs) (defBody d.st) = some d.F.body
  fps : d.F.ps = d.ps.length
  fns : d.F.ns = d.N.length
  bd : ∀ (kV doc pm : Value) (an : Option Addr) (cdv ct : Value) (us : List Value), us.length = d.ps.length → bindArgs (PySem.W.fnOf d.nm d.nm (defArgs d.st) (defBody d.st) (defScope d.st) .none kV doc pm an cdv ct) ⟨us, []⟩ = pure (d.ps.zip us)
def Df.dd (d : Df) : He.DefD := ⟨(d.nm, none), d.nm, d.nm, defArgs d.st, defBody d.st, defScope d.st, [], []⟩
def faOf (tab : List Df) (gs : List (Str × Int)) : List He.Fa := (tab.map fun d => .glo d.nm) ++ (bltNames.map fun x => .free x) ++ (gs.map fun q => .int q.1 q.2)
theorem Says.all {fa : List He.Fa} {fn : List He.DefD} {K : PySem.W.Frag} (c : He.SaysD fa fn K) : (∀ f ∈ fa, f.ok K = true) ∧ ∀ d ∈ fn, ∃ fd, FunD K d.name d.qual d.params d.body d.scope (d.dvs K) (d.kws K) (He.fAd K d.at_) fd := by
  refine ⟨fun f hf => ?_, fun d hd => ?_⟩
  · obtain ⟨i, hi, e⟩ := List.mem_iff_getElem.mp hf
    exact c.fact i (by rw [List.getElem?_eq_getElem hi, e])
  · obtain ⟨i, hi, e⟩ := List.mem_iff_getElem.mp hd
    exact c.def_ i (by rw [List.getElem?_eq_getElem hi, e])
theorem enter_ok {K : PySem.W.Frag} {ρ : List Addr} {H : Hp} {N : List Str} {vs : List V} {ds : List D} {F : Fn} (hn : F.ns = N.length) (r : Reps K ρ H vs ds) : EnvR K ρ H (L2.start N vs) (enter F ds) := by
  have hl := r.length
  unfold L2.start enter
  refine ⟨by simp [hl, hn], fun i d hd => ?_⟩
  by_cases hi : i < ds.length
  · rw [List.getElem?_append_left (by simpa using hi), List.getElem?_map] at hd
    cases e : ds[i]? with
    | none => rw [e] at hd; cases hd
    | some d' =>
      rw [e] at hd
      cases hd
      obtain ⟨v, hv, rv⟩ := r.get e
      refine ⟨v, ?_, rv⟩
      rw [List.getElem?_append_left (by simpa [hl] using hi), List.getElem?_map, hv]
      rfl
  · rw [List.getElem?_append_right (by simpa using hi), List.getElem?_replicate] at hd
    split at hd <;> cases hd
theorem GotF.out {p : Pm} {ρ : List Addr} {H : Hp} {r : Fl} {Q : VK} {E : XK} (g : Got p ρ H r.out (fun d _ ρ' H' => ∀ v, Rep p.K ρ' H' v d → Q v H') E) : GotF p ρ H r { nx := fun _ H' => Q .non H', rt := Q } (fun cls d _ H => E cls d H) := by
  cases r with
  | nx env st => exact fun ρ' H' σ' e R _ => g ρ' H' e R .non .non
  | ct env st => exact g.elim
  | rt d st => exact fun ρ' H' v e R r => g ρ' H' e R v r
  | exc c fs env st => exact fun ρ' H' σ' dd e R _ x => g ρ' H' dd e R x
  | bad => exact g.elim
theorem run_at {T : List Fn} {w k i : Nat} {F : Fn} {ds : List D} {st : Sto} (h : T[i]? = some F) : run T w (k + 1) i ds st = if ds.length = F.ps then (execSs (run T w k) w F.body (enter F ds) st).out else .bad := by
  show (match T[i]? with
    | some F => if ds.length = F.ps then (execSs (run T w k) w F.body (enter F ds) st).out else .bad
    | none => .bad) = _
  rw [h]
section
variable {P : Program} {wd : World} {K : PySem.W.Frag} {mg : Str → Option Value} {h : Heap} {tab : List Df} {gs : List (Str × Int)} {cv : Nat → Value} {w : Nat}
theorem tab_ok (X : K.In h) (G : h.Ns mainGlobals mg) (hok : ∀ d ∈ tab, DfOk (tab.map Df.nm) gs d) (c : He.SaysD (faOf tab gs) (tab.map Df.dd) K) : ∀ (k i : Nat) (d : Df), tab[i]? = some d →
    ∃ fa fd, mg d.nm = some (.ref fa) ∧ PySem.W.keepIn K (.ref fa) = true ∧ Binds K fd d.ps [] ∧ (∀ (s : Shared) (us : List Value), us.length = d.ps.length → BindsTo s fd ⟨us, []⟩ (d.ps.zip us)) ∧ ∀ base : Heap, FnOk P wd K mg base (CX P wd) k fa fd d.ps (spOf ⟨P, wd, K, cv⟩ (run (tab.map Df.F) w k i)) := by
  obtain ⟨cf, cd⟩ := Says.all c
  have hglo : ∀ d ∈ tab, mg d.nm = some (.ref (He.ga K d.nm)) := fun d hd => He.glo_ok X G (cf _ (List.mem_append_left _ (List.mem_append_left _ (List.mem_map.mpr ⟨d, hd, rfl⟩))))
  have hfree : ∀ x ∈ bltNames, mg x = none := fun x hx => He.free_ok X G (cf _ (List.mem_append_left _ (List.mem_append_right _ (List.mem_map.mpr ⟨x, hx, rfl⟩))))
  have hint : ∀ x i, gs.lookup x = some i → ∃ t, mg x = some (.int i t) := fun x i hx => He.int_ok X G (cf _ (List.mem_append_right _ (List.mem_map.mpr ⟨(x, i), PySem.mem_of_lookup hx, rfl⟩)))
  have hfun : ∀ d ∈ tab, ∃ fd, FunD K d.nm d.nm (defArgs d.st) (defBody d.st) (defScope d.st) [] [] (He.ga K d.nm) fd := fun d hd => cd d.dd (List.mem_map.mpr ⟨d, hd, rfl⟩)
  have fix : ∀ d ∈ tab, ∃ fd, FunD K d.nm d.nm (defArgs d.st) (defBody d.st) (defScope d.st) [] [] (He.ga K d.nm) fd ∧ Binds K fd d.ps [] ∧ (∀ (s : Shared) (us : List Value), us.length = d.ps.length → BindsTo s fd ⟨us, []⟩ (d.ps.zip us)) := fun d hd => by
    obtain ⟨fd, F⟩ := hfun d hd
    exact ⟨fd, F, F.bindsN (hok d hd).bd, fun s us hl => F.bindsA (hok d hd).bd s us hl⟩
  have main : ∀ (base : Heap) (k i : Nat) (d : Df), tab[i]? = some d → ∀ fd, FunD K d.nm d.nm (defArgs d.st) (defBody d.st) (defScope d.st) [] [] (He.ga K d.nm) fd → FnOk P wd K mg base (CX P wd) k (He.ga K d.nm) fd d.ps (spOf ⟨P, wd, K, cv⟩ (run (tab.map Df.F) w k i)) := by
    intro base k
    induction k with
    | zero =>
      intro i d hd fd F
      exact ⟨fun vs H Q E ⟨_, _, _, _, _, g⟩ => g.elim, fun A outer s H args us vs Q E _ _ _ _ ⟨_, _, _, _, _, g⟩ => g.elim⟩
    | succ k ih =>
      intro i d hd fd F
      have hm := List.mem_of_getElem? hd
      have ho := hok d hm
      have hT : (tab.map Df.F)[i]? = some d.F := by rw [List.getElem?_map, hd]; rfl
      refine F.ok ho.sc (fun vs H Q E q => ?_) (fun cdv A outer s H vs Q E hr q => ?_)
      · obtain ⟨ρ, st, ds, R, r, g⟩ := q
        rw [r.length]
        rw [run_at hT] at g
        split at g
        · rename_i hl
          rw [hl, ho.fps]
        · exact g.elim
      · obtain ⟨ρ, st, ds, R, r, g⟩ := q
        rw [run_at hT] at g
        split at g
        · rename_i hl
          let X : Cx := cxOf (CX P wd) P wd K mg base d.N d.nm (defScope d.st) (He.ga K d.nm) cdv A outer s H E
          have gd : Gd (run (tab.map Df.F) w k) cv k X (d.cc (tab.map Df.nm) gs) := {
            N := rfl
            nd := ho.sc.nd
            sc := rfl
            own := fun _ _ => rfl
            calm := rfl
            room := hr
            fns := fun j x hx => by
              have hx' : (tab.map Df.nm)[j]? = some x := hx
              rw [List.getElem?_map] at hx'
              cases e : tab[j]? with
              | none => rw [e] at hx'; cases hx'
              | some d' =>
                rw [e] at hx'
                cases hx'
                have hm' := List.mem_of_getElem? e
                obtain ⟨fd', F', b', _⟩ := fix d' hm'
                exact ⟨_, fd', d'.ps, hglo d' hm', F'.kp, b', ih j d' e fd' F'⟩
            gs := hint
            blt := hfree }
          have tk : Takes X (fun cls d _ H => E cls d H) := takes_of rfl rfl rfl rfl
          have po : PassesOwn (model X.prog X.w) X.A X.env X.xe := passes_of rfl
          refine ⟨_, (ok_stmts (cl := run (tab.map Df.F) w k) (cv := cv) (k := k) (w := w) 64).2 _ _ _ ho.cc X _ gd tk po, ρ, enter d.F ds, st, enter_ok ho.fns r, R, GotF.out g⟩
        · exact g.elim
  intro k i d hd
  have hm := List.mem_of_getElem? hd
  obtain ⟨fd, F, b, ba⟩ := fix d hm
  exact ⟨_, fd, hglo d hm, F.kp, b, ba, fun base => main base k i d hd fd F⟩
end
/-- the law's promise: whatever the script, the evaluator answers true -/
theorem law_end {K : PySem.W.Frag} {P : Program} {wd : World} {cv : Nat → Value} {m : List D → Sto → Res D} {n : Nat} (hm : ∀ ns : List Int, ns.length ≤ n → ∃ st, m [.scr ns] [] = .ok (.bl true) st) (H : Hp) (a : Addr) (ns : List Int) (hl : ns.length ≤ n) (ho : Only H) (hS : SqL K H a (ns.map V.int)) :
    spOf ⟨P, wd, K, cv⟩ m [.ref a] H (fun v _ => v = .bl true) fun _ _ _ => False := by
  have hs : Scr K H a (ns.map V.int) := by
    rcases hS with (h | ⟨o, h⟩) | h
    · rcases ho a with z | ⟨o, xs, z⟩
      · rw [h] at z; cases z
      · rw [h] at z; cases z
    · exact .inl ⟨o, h⟩
    · exact .inr h
  obtain ⟨st, e⟩ := hm ns hl
  refine ⟨[], [], [.scr ns], ⟨rfl, List.nodup_nil, fun l a o h => by simp at h⟩, .cons (.scr hs) .nil, ?_⟩
  rw [e]
  intro ρ' H' _ _ v rv
  cases rv
  rfl
/-- from the table to the law -/
theorem law_walk {l : PySem.W.OpenLaw} {n k W i : Nat} {q : Program} {loose : List Str} {XP : (Str → Option Value) → Heap → Prop} {YP : World → Heap → Prop} {dr : DefRec} {tab : List Df} {gs : List (Str × Int)} {d : Df} {x : Str}
    (hok : ∀ d ∈ tab, DfOk (tab.map Df.nm) gs d) (hi : tab[i]? = some d) (hnm : dr.name = d.nm) (hps : d.ps = [x]) (hpure : ∀ ns : List Int, ns.length ≤ n → ∃ st, run (tab.map Df.F) W k i [.scr ns] [] = .ok (.bl true) st)
    (hY : ∀ w h, YP w h → ∃ K : PySem.W.Frag, K.In h ∧ He.SaysD (faOf tab gs) (tab.map Df.dd) K) (hn : l.most = some n) (hn2 : n ≤ sizeLine) (hdf : dr.params.defaults = []) (hr : Room k callerA) :
    PySem.W.WalkO q loose XP YP l.row.toRowW dr [] (fun f vs => PySem.call f vs) := by
  refine Att.attach_call hn hdf fun w s₀ s₁ mg mb fa o pm cd doc a vs ns G Y ho hd hcd hmg hobj hints hlen hg => ?_
  obtain ⟨K, KX, c⟩ := hY w _ Y
  obtain ⟨fa', fd, hm, hk, _, hb, hF⟩ := tab_ok (P := l.prog) (wd := w) (cv := fun _ => .none) (w := W) KX G.T.g hok c k i d hi
  rw [hnm, hm] at hmg
  cases hmg
  rw [hps] at hF hb
  refine law_call (CX := CX l.prog w) (x := x) KX G.T.g G.T.b G.T.builtins G.T.nolimit hg hobj hints (Nat.le_trans hlen hn2) hr (fun base _ _ => hF base) (fun s u => hb s [u] rfl) (fun H hO hS => law_end hpure H a ns hlen hO hS) fun H e s' z => ?_
  obtain ⟨a, B, H', cls, d, _, _, _, _, _, _, _, z⟩ := z
  exact z
end Ev

/-! Plain laws of the evaluator: loops, the store. -/
namespace Ev

/-! ### the store -/
section
variable {α : Type} (st l : List α) (x : α) (i : Nat)
@[simp] theorem at_end : (st ++ l)[st.length]? = l[0]? := by
  rw [List.getElem?_append_right (Nat.le_refl _), Nat.sub_self]
@[simp] theorem at_endN : (st ++ l)[st.length + i]? = l[i]? := by
  rw [List.getElem?_append_right (by omega)]
  congr 1
  omega
@[simp] theorem set_end : (st ++ l).set st.length x = st ++ l.set 0 x := by
  rw [List.set_append_right _ _ (Nat.le_refl _)]
  simp
@[simp] theorem set_endN : (st ++ l).set (st.length + i) x = st ++ l.set i x := by
  rw [List.set_append_right _ _ (by omega)]
  congr 2
  omega
end

/-! ### loops -/
theorem loopF_ind {bd : Sto → D → En → Option En} {body : En → Sto → Fl} {gd : List (Nat × O)} (Inv : Nat → En → Sto → Prop) {xs : List D}
    (hst : ∀ i env st, i ≤ xs.length → Inv i env st → still gd st = true)
    (hs : ∀ i env st (h : i < xs.length), Inv i env st → ∃ env1, bd st xs[i] env = some env1 ∧ ∃ env2 st2, (body env1 st = .nx env2 st2 ∨ body env1 st = .ct env2 st2) ∧ Inv (i + 1) env2 st2) {env : En} {st : Sto} (h0 : Inv 0 env st) :
    ∃ env' st', loopF bd body gd xs env st = .nx env' st' ∧ Inv xs.length env' st' := by
  have go : ∀ (m i : Nat), i + m = xs.length → ∀ env st, Inv i env st → ∃ env' st', loopF bd body gd (xs.drop i) env st = .nx env' st' ∧ Inv xs.length env' st' := by
    intro m
    induction m with
    | zero =>
      intro i hi env st h
      have e : i = xs.length := by omega
      subst e
      rw [List.drop_length, loopF, if_pos (hst _ env st (Nat.le_refl _) h)]
      exact ⟨env, st, rfl, h⟩
    | succ m ih =>
      intro i hi env st h
      have hlt : i < xs.length := by omega
      obtain ⟨env1, hb, env2, st2, hbody, h2⟩ := hs i env st hlt h
      obtain ⟨env', st', e, hI⟩ := ih (i + 1) (by omega) env2 st2 h2
      refine ⟨env', st', ?_, hI⟩
      rw [List.drop_eq_getElem_cons hlt, loopF, if_pos (hst i env st (Nat.le_of_lt hlt) h), hb]
      rcases hbody with hbody | hbody
      · simp only [hbody]
        exact e
      · simp only [hbody]
        exact e
  have := go xs.length 0 (by omega) env st h0
  simpa using this

/-! ### one step at a time -/
@[simp] theorem line_is : line = 16777216 := (rfl)
section
variable {cl : Calls} {w : Nat} {env : En} {st : Sto}
@[simp] theorem ev_var {i : Nat} : evalE cl (.var i) env st = Res.of (env.val i) st := by rw [evalE]
@[simp] theorem ev_cst {c : D} : evalE cl (.cst c) env st = .ok c st := by rw [evalE]
@[simp] theorem ev_tup {es : List E} : evalE cl (.tup es) env st = (evalEs cl es env st).bind fun ds st => if ds.length ≤ 16777216 then .ok (.tup ds) st else .bad := by rw [evalE]; rfl
@[simp] theorem ev_lst {es : List E} : evalE cl (.lst es) env st = (evalEs cl es env st).bind fun ds st => newL ds st := by rw [evalE]
@[simp] theorem ev_dct0 : evalE cl .dct0 env st = .ok (.ref st.length) (st ++ [.dct []]) := by rw [evalE]; rfl
@[simp] theorem ev_bin {op : PySem.Operator} {a b : E} : evalE cl (.bin op a b) env st = (evalE cl a env st).bind fun x st => (evalE cl b env st).bind fun y st => bin op x y st := by rw [evalE]
@[simp] theorem ev_neg {a : E} : evalE cl (.neg a) env st = (evalE cl a env st).bind fun x st => (asI x st).bind fun i st => .ok (.int (-i)) st := by rw [evalE]
@[simp] theorem ev_not {a : E} : evalE cl (.not a) env st = (evalE cl a env st).bind fun x st => (asB x st).bind fun b st => .ok (.bl (!b)) st := by rw [evalE]
@[simp] theorem ev_cmp {op : PySem.CmpOp} {a b : E} : evalE cl (.cmp op a b) env st = (evalE cl a env st).bind fun x st => (evalE cl b env st).bind fun y st => (Res.of (cmp op x y st) st).bind fun b st => .ok (.bl b) st := by rw [evalE]
@[simp] theorem ev_chn {op op' : PySem.CmpOp} {a b c : E} : evalE cl (.chn op op' a b c) env st = (evalE cl a env st).bind fun x st => (evalE cl b env st).bind fun y st => (Res.of (cmp op x y st) st).bind fun k st =>
    if k = true then (evalE cl c env st).bind fun z st => (Res.of (cmp op' y z st) st).bind fun k st => .ok (.bl k) st else .ok (.bl false) st := by rw [evalE]
@[simp] theorem ev_bop {op : PySem.BoolOp} {es : List E} : evalE cl (.bop op es) env st = evalB cl op es env st := by rw [evalE]
@[simp] theorem ev_ite {c a b : E} : evalE cl (.ite c a b) env st = (evalE cl c env st).bind fun x st => (asB x st).bind fun k st => if k = true then evalE cl a env st else evalE cl b env st := by rw [evalE]
@[simp] theorem ev_fn {f : Nat} {es : List E} : evalE cl (.fn f es) env st = (evalEs cl es env st).bind fun ds st => cl f ds st := by rw [evalE]
@[simp] theorem ev_bi {f : Bi} {es : List E} : evalE cl (.bi f es) env st = (evalEs cl es env st).bind fun ds st => bi f ds st := by rw [evalE]
@[simp] theorem ev_mt {m : Mt} {o : E} {es : List E} : evalE cl (.mt m o es) env st = (evalE cl o env st).bind fun x st => (Res.of (kindM m st x) st).bind fun k st => (evalEs cl es env st).bind fun ds st => mt k m x ds st := by rw [evalE]
@[simp] theorem ev_ix {a b : E} : evalE cl (.ix a b) env st = (evalE cl a env st).bind fun x st => (evalE cl b env st).bind fun y st => Res.of (ixD x y st) st := by rw [evalE]
@[simp] theorem ev_sl {a : E} {lo hi : Option E} : evalE cl (.sl a lo hi) env st = (evalE cl a env st).bind fun x st => (evalO cl lo env st).bind fun l st => (evalO cl hi env st).bind fun h st => slD x l h st := by rw [evalE]
@[simp] theorem ev_isi {a : E} {t : Ty} : evalE cl (.isi a t) env st = (evalE cl a env st).bind fun x st => (Res.of (isi st x t) st).bind fun b st => .ok (.bl b) st := by rw [evalE]
@[simp] theorem evs_nil : evalEs cl [] env st = .ok [] st := by rw [evalEs]
@[simp] theorem evs_cons {e : E} {es : List E} : evalEs cl (e :: es) env st = (evalE cl e env st).bind fun x st => (evalEs cl es env st).bind fun xs st => .ok (x :: xs) st := by rw [evalEs]
@[simp] theorem evo_none : evalO cl none env st = .ok none st := by rw [evalO]
@[simp] theorem evo_some {e : E} : evalO cl (some e) env st = (evalE cl e env st).bind fun x st => (asI x st).bind fun i st => .ok (some i) st := by rw [evalO]
@[simp] theorem evb_one {op : PySem.BoolOp} {e : E} : evalB cl op [e] env st = (evalE cl e env st).bind fun x st => (asB x st).bind fun b st => .ok (.bl b) st := by rw [evalB]
@[simp] theorem evb_and {e f : E} {es : List E} : evalB cl .And (e :: f :: es) env st = (evalE cl e env st).bind fun x st => (asB x st).bind fun b st => if b = true then evalB cl .And (f :: es) env st else .ok (.bl false) st := by rw [evalB]
@[simp] theorem evb_or {e f : E} {es : List E} : evalB cl .Or (e :: f :: es) env st = (evalE cl e env st).bind fun x st => (asB x st).bind fun b st => if b = true then .ok (.bl true) st else evalB cl .Or (f :: es) env st := by rw [evalB]
@[simp] theorem evt_nil : evalTs cl [] env st = .ok true st := by rw [evalTs]
@[simp] theorem evt_one {e : E} : evalTs cl [e] env st = (evalE cl e env st).bind fun x st => asB x st := by rw [evalTs]
@[simp] theorem evi_seq {e : E} : evalI cl (.seq e) env st = (evalE cl e env st).bind fun x st => Res.of (walkD st x) st := by rw [evalI]
@[simp] theorem evi_rng1 {e : E} : evalI cl (.rng1 e) env st = (evalE cl e env st).bind fun x st => (asI x st).bind fun i st => Res.of (rangeD 0 i) st := by rw [evalI]
@[simp] theorem evi_rng2 {e f : E} : evalI cl (.rng2 e f) env st = (evalE cl e env st).bind fun x st => (evalE cl f env st).bind fun y st => (asI x st).bind fun i st => (asI y st).bind fun j st => Res.of (rangeD i j) st := by rw [evalI]
@[simp] theorem evi_enm {e : E} : evalI cl (.enm e) env st = (evalE cl e env st).bind fun x st => (Res.of (walkL st x) st).bind fun w st => .ok (enumD w) st := by rw [evalI]
@[simp] theorem evi_zip {e f : E} : evalI cl (.zip e f) env st = (evalE cl e env st).bind fun x st => (evalE cl f env st).bind fun y st => (Res.of (walkL st x) st).bind fun w st => (Res.of (walkL st y) st).bind fun w' st => .ok (zipD w w') st := by rw [evalI]
@[simp] theorem ex_asg {t : Tg} {e : E} : execS cl w (.asg t e) env st = (evalE cl e env st).fl env fun x st => match bindT st t x env with
    | some env' => .nx env' st
    | none => .bad := by rw [execS] <;> rfl
@[simp] theorem ex_par {i j : Nat} {a b : E} : execS cl w (.par i j a b) env st = (evalE cl a env st).fl env fun x st => (evalE cl b env st).fl env fun y st => .nx ((env.set i (some x)).set j (some y)) st := by rw [execS]
@[simp] theorem ex_put {o i e : E} : execS cl w (.put o i e) env st = (evalE cl e env st).fl env fun v st => (evalE cl o env st).fl env fun x st => (evalE cl i env st).fl env fun y st => match putD x y v st with
    | some st' => .nx env st'
    | none => .bad := by rw [execS] <;> rfl
@[simp] theorem ex_aug {i : Nat} {e : E} : execS cl w (.aug i .Add e) env st = (Res.of (env.val i) st).fl env fun x st => (evalE cl e env st).fl env fun y st => match ints2 x y with
    | some (a, b) => .nx (env.set i (some (.int (a + b)))) st
    | none => .bad := by
  rw [execS]
  congr 1
  funext x st
  congr 1
  funext y st
  cases x <;> cases y <;> rfl
@[simp] theorem ex_exp {e : E} : execS cl w (.exp e) env st = (evalE cl e env st).fl env fun _ st => .nx env st := by rw [execS]
@[simp] theorem ex_ite {c : E} {a b : List S} : execS cl w (.ite c a b) env st = ((evalE cl c env st).bind asB).fl env fun k st => if k = true then execSs cl w a env st else execSs cl w b env st := by rw [execS]
@[simp] theorem ex_fo {t : Tg} {it : I} {b : List S} : execS cl w (.fo t it b) env st = (evalI cl it env st).fl env fun its st => loopF (fun st => bindT st t) (fun env st => execSs cl w b env st) its.gd its.xs env st := by rw [execS]
@[simp] theorem ex_ret {e : E} : execS cl w (.ret e) env st = (evalE cl e env st).fl env fun x st => .rt x st := by rw [execS]
@[simp] theorem ex_retN : execS cl w .retN env st = .rt .non st := by rw [execS]
@[simp] theorem ex_con : execS cl w .con env st = .ct env st := by rw [execS]
@[simp] theorem ex_pas : execS cl w .pas env st = .nx env st := by rw [execS]
end
@[simp] theorem execSs_cons (cl : Calls) (w : Nat) (s : S) (ss : List S) (env : En) (st : Sto) : execSs cl w (s :: ss) env st = (execS cl w s env st).andThen (execSs cl w ss) := by
  rw [execSs]; rfl
@[simp] theorem execSs_nil (cl : Calls) (w : Nat) (env : En) (st : Sto) : execSs cl w [] env st = .nx env st := by rw [execSs]
section
variable {env : En} {st : Sto} {d : D} {ds : List D} {k : En → Sto → Fl}
@[simp] theorem then_nx : (Fl.nx env st).andThen k = k env st := (rfl)
@[simp] theorem then_ct : (Fl.ct env st).andThen k = .ct env st := (rfl)
@[simp] theorem then_rt : (Fl.rt d st).andThen k = .rt d st := (rfl)
@[simp] theorem then_exc {c : Nat} {fs : List D} : (Fl.exc c fs env st).andThen k = .exc c fs env st := (rfl)
@[simp] theorem then_bad : (Fl.bad).andThen k = .bad := (rfl)
@[simp] theorem turn_nx : (Fl.nx env st).turn k = k env st := (rfl)
@[simp] theorem turn_ct : (Fl.ct env st).turn k = k env st := (rfl)
@[simp] theorem turn_rt : (Fl.rt d st).turn k = .rt d st := (rfl)
@[simp] theorem turn_exc {c : Nat} {fs : List D} : (Fl.exc c fs env st).turn k = .exc c fs env st := (rfl)
@[simp] theorem turn_bad : (Fl.bad).turn k = .bad := (rfl)
theorem loopF_nil {bd : Sto → D → En → Option En} {body : En → Sto → Fl} {gd : List (Nat × O)} : loopF bd body gd [] env st = if still gd st then .nx env st else .bad := by rw [loopF]
@[simp] theorem out_nx : (Fl.nx env st).out = .ok .non st := (rfl)
@[simp] theorem out_rt : (Fl.rt d st).out = .ok d st := (rfl)
@[simp] theorem out_exc {c : Nat} {fs : List D} : (Fl.exc c fs env st).out = .exc c fs st := (rfl)
@[simp] theorem val_zero {x : Option D} : En.val (x :: env) 0 = x := by simp [En.val]
@[simp] theorem val_succ {x : Option D} {i : Nat} : En.val (x :: env) (i + 1) = En.val env i := by simp [En.val]
@[simp] theorem asB_bl {b : Bool} : asB (.bl b) st = .ok b st := (rfl)
@[simp] theorem asI_int {i : Int} : asI (.int i) st = .ok i st := (rfl)
@[simp] theorem seq_tup : seqOf st (.tup ds) = some ds := (rfl)
@[simp] theorem seq_scr {ns : List Int} : seqOf st (.scr ns) = some (ns.map .int) := (rfl)
@[simp] theorem lis_scr {ns : List Int} : lisOf st (.scr ns) = some (ns.map .int) := (rfl)
theorem seq_ref {l : Nat} (h : st[l]? = some (.lst ds)) : seqOf st (.ref l) = some ds := by simp [seqOf, h]
theorem lis_ref {l : Nat} (h : st[l]? = some (.lst ds)) : lisOf st (.ref l) = some ds := by simp [lisOf, seqOf, h]
@[simp] theorem dct_tup : dctOf st (.tup ds) = none := (rfl)
@[simp] theorem dct_scr {ns : List Int} : dctOf st (.scr ns) = none := (rfl)
@[simp] theorem dct_int {i : Int} : dctOf st (.int i) = none := (rfl)
@[simp] theorem dct_str {x : PySem.Str} : dctOf st (.str x) = none := (rfl)
theorem dct_lst {l : Nat} (h : st[l]? = some (.lst ds)) : dctOf st (.ref l) = none := by simp [dctOf, h]
theorem dct_ref {l : Nat} {kvs : List (D × D)} (h : st[l]? = some (.dct kvs)) : dctOf st (.ref l) = some kvs := by simp [dctOf, h]
@[simp] theorem bin_int {op : PySem.Operator} {i j : Int} : bin op (.int i) (.int j) st = binI op i j st := (rfl)
@[simp] theorem binI_add {i j : Int} : binI .Add i j st = .ok (.int (i + j)) st := (rfl)
@[simp] theorem binI_sub {i j : Int} : binI .Sub i j st = .ok (.int (i - j)) st := (rfl)
@[simp] theorem binI_and {i j : Int} : binI .BitAnd i j st = .ok (.int (PySem.Builtin.bitAnd i j)) st := (rfl)
@[simp] theorem binI_or {i j : Int} : binI .BitOr i j st = .ok (.int (PySem.Builtin.bitOr i j)) st := (rfl)
@[simp] theorem binI_xor {i j : Int} : binI .BitXor i j st = .ok (.int (PySem.Builtin.bitXor i j)) st := (rfl)
theorem binI_mod {i j : Int} (h : 0 < j) : binI .Mod i j st = .ok (.int (i % j)) st := by simp [binI, h]
theorem divOk_of {j : Int} (h : 0 < j) (h2 : j < 2 ^ 250) : divOk j = true := by
  unfold divOk
  rw [decide_eq_true_eq]
  refine ⟨h, ?_⟩
  have hp : j.natAbs < 2 ^ 250 := by omega
  exact Nat.lt_of_lt_of_le ((Nat.log2_lt (by omega)).mpr hp) (by decide)
theorem binI_div {i j : Int} (h : 0 < j) (h2 : j < 2 ^ 250) : binI .FloorDiv i j st = .ok (.int (i / j)) st := by simp [binI, divOk_of h h2]
theorem binI_mul {i j : Int} (h : mulOk i j = true) : binI .Mult i j st = .ok (.int (i * j)) st := by simp [binI, h]
theorem binI_pow {i j : Int} (h : powOk i j = true) : binI .Pow i j st = .ok (.int (i ^ j.toNat)) st := by simp [binI, h]
theorem binI_shl {i j : Int} (h : powOk i j = true) : binI .LShift i j st = .ok (.int (i * 2 ^ j.toNat)) st := by simp [binI, h]
theorem binI_shr {i j : Int} (h : 0 ≤ j) : binI .RShift i j st = .ok (.int (i / 2 ^ j.toNat)) st := by simp [binI, h]
theorem bin_lists {x y : D} {xs ys : List D} (h1 : lisOf st x = some xs) (h2 : lisOf st y = some ys) : bin .Add x y st = newL (xs ++ ys) st := by
  unfold bin
  have e : ints2 x y = none := by
    cases x <;> first | rfl | (simp [lisOf, seqOf] at h1)
  rw [e]
  simp only [h1, h2]
theorem newL_ok {xs : List D} (h : xs.length ≤ 16777216) : newL xs st = .ok (.ref st.length) (st ++ [.lst xs]) := by simp [newL, new, h]
@[simp] theorem new_ok {o : O} : new o st = .ok (.ref st.length) (st ++ [o]) := (rfl)
@[simp] theorem eq_int {i j : Int} : cmp .Eq (.int i) (.int j) st = some (decide (i = j)) := by
  simp [cmp, eqD, toP, deep, PySem.PyData.eqv]
  rfl
@[simp] theorem ne_int {i j : Int} : cmp .NotEq (.int i) (.int j) st = some (!decide (i = j)) := by
  simp [cmp, eqD, toP, deep, PySem.PyData.eqv]
  rfl
@[simp] theorem eq_bl {i j : Bool} : cmp .Eq (.bl i) (.bl j) st = some (decide (i = j)) := by cases i <;> cases j <;> simp [cmp, eqD, toP, deep, PySem.PyData.eqv]
@[simp] theorem ne_bl {i j : Bool} : cmp .NotEq (.bl i) (.bl j) st = some (!decide (i = j)) := by cases i <;> cases j <;> simp [cmp, eqD, toP, deep, PySem.PyData.eqv]
@[simp] theorem lt_int {i j : Int} : cmp .Lt (.int i) (.int j) st = some (decide (i < j)) := by
  simp [cmp, ltD, toP, PySem.W.alike, PySem.W.dataLt_int]
@[simp] theorem lt_pair {a b c e : Int} : cmp .Lt (.tup [.int a, .int b]) (.tup [.int c, .int e]) st = some (decide (a < c ∨ (a = c ∧ b < e))) := by
  simp [cmp, ltD, toP, toPs, deep, PySem.W.alike, PySem.W.alikeAll, PySem.W.dataLt_ii]
@[simp] theorem eq_pair {a b c e : Int} : cmp .Eq (.tup [.int a, .int b]) (.tup [.int c, .int e]) st = some (decide (a = c ∧ b = e)) := by
  simp [cmp, eqD, toP, toPs, deep, PySem.PyData.eqv, PySem.PyData.eqvAll]
  by_cases h : a = c <;> by_cases h' : b = e <;> simp [h, h']
@[simp] theorem ne_pair {a b c e : Int} : cmp .NotEq (.tup [.int a, .int b]) (.tup [.int c, .int e]) st = some (!decide (a = c ∧ b = e)) := by
  simp [cmp, eqD, toP, toPs, deep, PySem.PyData.eqv, PySem.PyData.eqvAll]
  by_cases h : a = c <;> by_cases h' : b = e <;> simp [h, h']
@[simp] theorem le_int {i j : Int} : cmp .LtE (.int i) (.int j) st = some (decide (i ≤ j)) := (rfl)
@[simp] theorem gt_int {i j : Int} : cmp .Gt (.int i) (.int j) st = some (decide (j < i)) := (rfl)
@[simp] theorem ge_int {i j : Int} : cmp .GtE (.int i) (.int j) st = some (decide (j ≤ i)) := (rfl)
@[simp] theorem is_non {x : D} : cmp .Is x .non st = some (decide (x = .non)) := (rfl)
@[simp] theorem isnot_non {x : D} : cmp .IsNot x .non st = some (!decide (x = .non)) := (rfl)
@[simp] theorem isi_non {t : Ty} : isi st .non t = some false := (rfl)
@[simp] theorem isi_bl {b : Bool} {t : Ty} : isi st (.bl b) t = some (decide (t = .bool) || decide (t = .int)) := by cases t <;> rfl
@[simp] theorem isi_int {i : Int} {t : Ty} : isi st (.int i) t = some (decide (t = .int)) := by cases t <;> rfl
@[simp] theorem isi_str {x : PySem.Str} {t : Ty} : isi st (.str x) t = some (decide (t = .str)) := by cases t <;> rfl
@[simp] theorem isi_tup {t : Ty} : isi st (.tup ds) t = some (decide (t = .tuple)) := by cases t <;> rfl
@[simp] theorem isi_scr {ns : List Int} {t : Ty} : isi st (.scr ns) t = some (decide (t = .list)) := by cases t <;> rfl
theorem isi_ref {l : Nat} {t : Ty} (h : st[l]? = some (.lst ds)) : isi st (.ref l) t = some (decide (t = .list)) := by cases t <;> simp [isi, tyOf, h]
@[simp] theorem len_tup : bi .len [.tup ds] st = .ok (.int ds.length) st := (rfl)
@[simp] theorem len_scr {ns : List Int} : bi .len [.scr ns] st = .ok (.int ns.length) st := by simp [bi]
theorem len_ref {l : Nat} (h : st[l]? = some (.lst ds)) : bi .len [.ref l] st = .ok (.int ds.length) st := by simp [bi, dct_lst h, seq_ref h]
theorem len_dct {l : Nat} {kvs : List (D × D)} (h : st[l]? = some (.dct kvs)) : bi .len [.ref l] st = .ok (.int kvs.length) st := by simp [bi, dct_ref h]
@[simp] theorem abs_int {i : Int} : bi .abs [.int i] st = .ok (.int (if i < 0 then -i else i)) st := (rfl)
@[simp] theorem int_int {i : Int} : bi .int [.int i] st = .ok (.int i) st := (rfl)
theorem list_seq {x : D} (h : seqOf st x = some ds) : bi .list [x] st = newL ds st := by simp [bi, h]
theorem tuple_seq {x : D} (h : seqOf st x = some ds) : bi .tuple [x] st = .ok (.tup ds) st := by simp [bi, h]
@[simp] theorem ix_tup {i : Int} : ixD (.tup ds) (.int i) st = item ds i := by simp [ixD]
@[simp] theorem ix_scr {ns : List Int} {i : Int} : ixD (.scr ns) (.int i) st = item (ns.map .int) i := by simp [ixD]
theorem ix_ref {l : Nat} {i : Int} (h : st[l]? = some (.lst ds)) : ixD (.ref l) (.int i) st = item ds i := by simp [ixD, dct_lst h, seq_ref h]
theorem ix_seq {x y : D} {i : Int} (h : seqOf st x = some ds) (hi : item ds i = some y) : ixD x (.int i) st = some y := by
  cases x with
  | tup es =>
    simp only [seqOf, Option.some.injEq] at h
    subst h
    rw [ix_tup]
    exact hi
  | scr ns =>
    simp only [seqOf, Option.some.injEq] at h
    subst h
    rw [ix_scr]
    exact hi
  | ref l =>
    cases q : st[l]? with
    | none => simp [seqOf, q] at h
    | some o =>
      cases o with
      | dct kvs => simp [seqOf, q] at h
      | lst es =>
        simp only [seqOf, q, Option.some.injEq] at h
        subst h
        rw [ix_ref q]
        exact hi
  | _ => simp [seqOf] at h
theorem item_nat {i : Nat} : item ds (i : Nat) = ds[i]? := by
  unfold item place
  by_cases h : i < ds.length
  · rw [if_pos (Int.natCast_nonneg i), if_pos (by exact_mod_cast h)]
    simp
  · rw [if_pos (Int.natCast_nonneg i), if_neg (by exact_mod_cast h)]
    rw [List.getElem?_eq_none (by omega)]
    rfl

@[simp] theorem item_zero : item ds 0 = ds[0]? := item_nat (i := 0)
@[simp] theorem item_one : item ds 1 = ds[1]? := item_nat (i := 1)
@[simp] theorem item_ge {i : Int} (h : 0 ≤ i) : item ds i = ds[i.toNat]? := by
  have e : i = ((i.toNat : Nat) : Int) := by omega
  rw [e, item_nat]
  rfl
@[simp] theorem bind_nm {i : Nat} : bindT st (.nm i) d env = some (env.set i (some d)) := by rw [bindT]
theorem bind_tp {ts : List Tg} (h : seqOf st d = some ds) (hl : ds.length = ts.length) : bindT st (.tp ts) d env = bindTs st ts ds env := by rw [bindT]; simp [h, hl]
@[simp] theorem bind_tup {ts : List Tg} (hl : ds.length = ts.length) : bindT st (.tp ts) (.tup ds) env = bindTs st ts ds env := bind_tp rfl hl
@[simp] theorem binds_nil : bindTs st [] ds env = some env := by rw [bindTs]
@[simp] theorem binds_cons {t : Tg} {ts : List Tg} : bindTs st (t :: ts) (d :: ds) env = (bindT st t d env).bind (bindTs st ts ds) := by rw [bindTs]
theorem rng_ok {lo hi : Int} : rangeD lo hi = if -lineR ≤ lo ∧ lo < lineR ∧ -lineR ≤ hi ∧ hi < lineR then some ⟨(List.range (hi - lo).toNat).map fun k => .int (lo + (k : Nat)), []⟩ else none := (rfl)
theorem rng_nat {n : Nat} (h : n ≤ 16777216) : rangeD 0 (n : Int) = some ⟨(List.range n).map fun k => .int (k : Nat), []⟩ := by
  rw [rng_ok, if_pos (by unfold lineR; omega)]
  simp
@[simp] theorem rng_lit {i : Int} (h : 0 ≤ i) (h2 : i ≤ 16777216) : rangeD 0 i = some ⟨(List.range i.toNat).map fun k => .int (k : Nat), []⟩ := by
  have e : i = ((i.toNat : Nat) : Int) := by omega
  rw [e, rng_nat (by omega)]
  rfl
@[simp] theorem eq_rf {l m : Nat} : cmp .Eq (.ref l) (.ref m) st = eqD st (.ref l) (.ref m) := (rfl)
@[simp] theorem ne_rf {l m : Nat} : cmp .NotEq (.ref l) (.ref m) st = (eqD st (.ref l) (.ref m)).map (!·) := (rfl)
@[simp] theorem enter_eq {F : Fn} : enter F ds = ds.map some ++ List.replicate (F.ns - ds.length) none := (rfl)
theorem mt_app {l : Nat} (h : st[l]? = some (.lst ds)) (hl : ds.length < 16777216) : mt .l .append (.ref l) [d] st = .ok .non (st.set l (.lst (ds ++ [d]))) := by simp [mt, h, mtL, hl]
theorem kind_l {m : Mt} {l : Nat} (h : st[l]? = some (.lst ds)) (hm : mtOk .l m = true) : kindM m st (.ref l) = some .l := by simp [kindM, kindD, h, hm]
theorem kind_d {m : Mt} {l : Nat} {kvs : List (D × D)} (h : st[l]? = some (.dct kvs)) (hm : mtOk .d m = true) : kindM m st (.ref l) = some .d := by simp [kindM, kindD, h, hm]
theorem mt_clear {l : Nat} (h : st[l]? = some (.lst ds)) : mt .l .clear (.ref l) [] st = .ok .non (st.set l (.lst [])) := by simp [mt, h, mtL]
@[simp] theorem still_nil : still [] st = true := (rfl)
@[simp] theorem walk_tup : walkD st (.tup ds) = some ⟨ds, []⟩ := (rfl)
@[simp] theorem walk_scr {ns : List Int} : walkD st (.scr ns) = some ⟨ns.map .int, []⟩ := (rfl)
theorem walk_ref {l : Nat} (h : st[l]? = some (.lst ds)) : walkD st (.ref l) = some ⟨ds, [(l, .lst ds)]⟩ := by simp [walkD, h]
theorem still_ref {l : Nat} {o : O} (h : st[l]? = some o) : still [(l, o)] st = true := by simp [still, h]
end
/-! ### statements that loop -/
section
variable {cl : Calls} {w : Nat}
theorem fo_ind {t : Tg} {it : I} {b : List S} {env : En} {st : Sto} {its : Its} {st1 : Sto} (hI : evalI cl it env st = .ok its st1) (Inv : Nat → En → Sto → Prop) (h0 : Inv 0 env st1) (hst : ∀ i env st, i ≤ its.xs.length → Inv i env st → still its.gd st = true)
    (hs : ∀ i env st (h : i < its.xs.length), Inv i env st → ∃ env1, bindT st t its.xs[i] env = some env1 ∧ ∃ env2 st2, (execSs cl w b env1 st = .nx env2 st2 ∨ execSs cl w b env1 st = .ct env2 st2) ∧ Inv (i + 1) env2 st2) :
    ∃ env' st', execS cl w (.fo t it b) env st = .nx env' st' ∧ Inv its.xs.length env' st' := by
  rw [execS, hI, Res.fl_ok]
  exact loopF_ind Inv hst hs h0
theorem fo_eq {t : Tg} {it : I} {b : List S} {env : En} {st : Sto} {r : Fl} (hr : execS cl w (.fo t it b) env st = r) {its : Its} {st1 : Sto} (Inv : Nat → En → Sto → Prop) (hI : evalI cl it env st = .ok its st1) (h0 : Inv 0 env st1) (hst : ∀ i env st, i ≤ its.xs.length → Inv i env st → still its.gd st = true)
    (hs : ∀ i env st (h : i < its.xs.length), Inv i env st → ∃ env1, bindT st t its.xs[i] env = some env1 ∧ ∃ env2 st2, (execSs cl w b env1 st = .nx env2 st2 ∨ execSs cl w b env1 st = .ct env2 st2) ∧ Inv (i + 1) env2 st2) :
    ∃ env' st', r = .nx env' st' ∧ Inv its.xs.length env' st' :=
  let ⟨env', st', e, h⟩ := fo_ind hI Inv h0 hst hs
  ⟨env', st', hr.symm.trans e, h⟩
/-- the same, where the body may return -/
theorem loopF_any {bd : Sto → D → En → Option En} {body : En → Sto → Fl} {gd : List (Nat × O)} (Inv : Nat → En → Sto → Prop) (Post : Fl → Prop) {xs : List D}
    (hst : ∀ i env st, i ≤ xs.length → Inv i env st → still gd st = true) (hend : ∀ env st, Inv xs.length env st → Post (.nx env st))
    (hs : ∀ i env st (h : i < xs.length), Inv i env st → ∃ env1, bd st xs[i] env = some env1 ∧ ((∃ env2 st2, (body env1 st = .nx env2 st2 ∨ body env1 st = .ct env2 st2) ∧ Inv (i + 1) env2 st2) ∨ (Post (body env1 st) ∧ ((∃ d st2, body env1 st = .rt d st2) ∨ ∃ c fs e st2, body env1 st = .exc c fs e st2)))) {env : En} {st : Sto} (h0 : Inv 0 env st) :
    Post (loopF bd body gd xs env st) := by
  have go : ∀ (m i : Nat), i + m = xs.length → ∀ env st, Inv i env st → Post (loopF bd body gd (xs.drop i) env st) := by
    intro m
    induction m with
    | zero =>
      intro i hi env st h
      have e : i = xs.length := by omega
      subst e
      rw [List.drop_length, loopF, if_pos (hst _ env st (Nat.le_refl _) h)]
      exact hend env st h
    | succ m ih =>
      intro i hi env st h
      have hlt : i < xs.length := by omega
      obtain ⟨env1, hb, hc⟩ := hs i env st hlt h
      rw [List.drop_eq_getElem_cons hlt, loopF_cons, if_pos (hst i env st (Nat.le_of_lt hlt) h), hb]
      simp only
      rcases hc with ⟨env2, st2, hbody, h2⟩ | ⟨hp, ⟨d, st2, hr⟩ | ⟨c, fs, e, st2, hr⟩⟩
      · rcases hbody with hbody | hbody
        · rw [hbody]
          exact ih (i + 1) (by omega) env2 st2 h2
        · rw [hbody]
          exact ih (i + 1) (by omega) env2 st2 h2
      · rw [hr] at hp ⊢
        exact hp
      · rw [hr] at hp ⊢
        exact hp
  have := go xs.length 0 (by omega) env st h0
  simpa using this
theorem fo_any {t : Tg} {it : I} {b : List S} {env : En} {st : Sto} {its : Its} {st1 : Sto} (hI : evalI cl it env st = .ok its st1) (Inv : Nat → En → Sto → Prop) (Post : Fl → Prop) (h0 : Inv 0 env st1) (hst : ∀ i env st, i ≤ its.xs.length → Inv i env st → still its.gd st = true) (hend : ∀ env st, Inv its.xs.length env st → Post (.nx env st))
    (hs : ∀ i env st (h : i < its.xs.length), Inv i env st → ∃ env1, bindT st t its.xs[i] env = some env1 ∧ ((∃ env2 st2, (execSs cl w b env1 st = .nx env2 st2 ∨ execSs cl w b env1 st = .ct env2 st2) ∧ Inv (i + 1) env2 st2) ∨ (Post (execSs cl w b env1 st) ∧ ((∃ d st2, execSs cl w b env1 st = .rt d st2) ∨ ∃ c fs e st2, execSs cl w b env1 st = .exc c fs e st2)))) :
    Post (execS cl w (.fo t it b) env st) := by
  rw [execS, hI, Res.fl_ok]
  exact loopF_any Inv Post hst hend hs h0
/-- a while: the measure is below the fuel -/
theorem loopW_ind {test : En → Sto → Res Bool} {body : En → Sto → Fl} (Inv : Nat → En → Sto → Prop) (Post : Fl → Prop)
    (hs : ∀ m env st, Inv m env st → (∃ st1, test env st = .ok false st1 ∧ Post (.nx env st1)) ∨ (∃ st1, test env st = .ok true st1 ∧ ((∃ env2 st2 m', (body env st1 = .nx env2 st2 ∨ body env st1 = .ct env2 st2) ∧ m' < m ∧ Inv m' env2 st2) ∨ (Post (body env st1) ∧ ((∃ d st2, body env st1 = .rt d st2) ∨ ∃ c fs e st2, body env st1 = .exc c fs e st2))))) :
    ∀ (n m : Nat) (env : En) (st : Sto), m < n → Inv m env st → Post (loopW test body n env st) := by
  intro n
  induction n with
  | zero => intro m env st h; omega
  | succ n ih =>
    intro m env st hm h
    rw [loopW_succ]
    rcases hs m env st h with ⟨st1, e, hp⟩ | ⟨st1, e, hc⟩
    · rw [e]
      exact hp
    · rw [e]
      simp only [Res.fl_ok, if_true]
      rcases hc with ⟨env2, st2, m', hbody, hlt, h2⟩ | ⟨hp, ⟨d, st2, hr⟩ | ⟨c, fs, ee, st2, hr⟩⟩
      · rcases hbody with hbody | hbody
        · rw [hbody]
          exact ih m' env2 st2 (by omega) h2
        · rw [hbody]
          exact ih m' env2 st2 (by omega) h2
      · rw [hr] at hp ⊢
        exact hp
      · rw [hr] at hp ⊢
        exact hp
theorem wh_ind {c : E} {b : List S} {env : En} {st : Sto} (Inv : Nat → En → Sto → Prop) (Post : Fl → Prop) (m : Nat) (hm : m < w) (h0 : Inv m env st)
    (hs : ∀ m env st, Inv m env st → (∃ st1, (evalE cl c env st).bind asB = .ok false st1 ∧ Post (.nx env st1)) ∨ (∃ st1, (evalE cl c env st).bind asB = .ok true st1 ∧ ((∃ env2 st2 m', (execSs cl w b env st1 = .nx env2 st2 ∨ execSs cl w b env st1 = .ct env2 st2) ∧ m' < m ∧ Inv m' env2 st2) ∨ (Post (execSs cl w b env st1) ∧ ((∃ d st2, execSs cl w b env st1 = .rt d st2) ∨ ∃ c fs e st2, execSs cl w b env st1 = .exc c fs e st2))))) :
    Post (execS cl w (.wh c b) env st) := by
  rw [execS]
  exact loopW_ind Inv Post hs w m env st hm h0
/-- a comprehension that leaves the store as it is -/
theorem loopC_pure {bd : Sto → D → En → Option En} {test : En → Sto → Res Bool} {elt : En → Sto → Res D} {gd : List (Nat × O)} {env : En} {st : Sto} (p : D → Bool) (f : D → D) (hg : still gd st = true) : ∀ (xs : List D), (∀ d ∈ xs, ∃ e, bd st d env = some e ∧ test e st = .ok (p d) st ∧ (p d = true → elt e st = .ok (f d) st)) →
    loopC bd test elt gd env xs st = .ok ((xs.filter p).map f) st
  | [], _ => by rw [loopC, if_pos hg]; rfl
  | d :: ds, h => by
    obtain ⟨e, h1, h2, h3⟩ := h d List.mem_cons_self
    have ih := loopC_pure p f hg ds fun x hx => h x (List.mem_cons_of_mem _ hx)
    rw [loopC, if_pos hg, h1]
    simp only [h2, Res.bind_ok]
    cases hp : p d with
    | true => simp [h3 hp, ih, hp]
    | false => simp [ih, hp]
theorem lc_pure {own : List Nat} {tg : Tg} {it : I} {ifs : List E} {e : E} {env : En} {st st1 : Sto} {its : Its} (hI : evalI cl it env st = .ok its st1) (p : D → Bool) (f : D → D) (hg : still its.gd st1 = true)
    (h : ∀ d ∈ its.xs, ∃ e1, bindT st1 tg d (wipe env own) = some e1 ∧ evalTs cl ifs e1 st1 = .ok (p d) st1 ∧ (p d = true → evalE cl e e1 st1 = .ok (f d) st1)) :
    evalE cl (.lc own tg it ifs e) env st = newL ((its.xs.filter p).map f) st1 := by
  rw [evalE, hI]
  simp only
  rw [loopC_pure p f hg its.xs h]
end
/-! ### by what stands at a place of the store -/
section
variable {st : Sto} {l m : Nat} {d : D}
@[simp] theorem seq_rf : seqOf st (.ref l) = lstAt st l := (rfl)
@[simp] theorem lis_rf : lisOf st (.ref l) = lstAt st l := (rfl)
@[simp] theorem dct_rf : dctOf st (.ref l) = match st[l]? with
    | some (.dct kvs) => some kvs
    | _ => none := (rfl)
@[simp] theorem lstAt_is : lstAt st l = match st[l]? with
    | some (.lst ds) => some ds
    | _ => none := (rfl)
@[simp] theorem ints2_is {i j : Int} : ints2 (.int i) (.int j) = some (i, j) := (rfl)
@[simp] theorem isi_rf {t : Ty} : isi st (.ref l) t = match st[l]? with
    | some (.lst _) => some (decide (t = .list))
    | _ => none := by
  cases h : st[l]? with
  | none => simp [isi, tyOf, h]
  | some o => cases o <;> cases t <;> simp [isi, tyOf, h]
@[simp] theorem len_rf : bi .len [.ref l] st = match st[l]? with
    | some (.lst ds) => .ok (.int ds.length) st
    | some (.dct kvs) => .ok (.int kvs.length) st
    | none => .bad := by
  cases h : st[l]? with
  | none => simp [bi, h]
  | some o => cases o <;> simp [bi, h]
@[simp] theorem list_rf : bi .list [.ref l] st = match st[l]? with
    | some (.lst ds) => newL ds st
    | _ => .bad := by
  cases h : st[l]? with
  | none => simp [bi, h]
  | some o => cases o <;> simp [bi, h]
@[simp] theorem tuple_rf : bi .tuple [.ref l] st = match st[l]? with
    | some (.lst ds) => .ok (.tup ds) st
    | _ => .bad := by
  cases h : st[l]? with
  | none => simp [bi, h]
  | some o => cases o <;> simp [bi, h]
@[simp] theorem list_tup {ds : List D} : bi .list [.tup ds] st = newL ds st := (rfl)
@[simp] theorem tuple_tup {ds : List D} : bi .tuple [.tup ds] st = .ok (.tup ds) st := (rfl)
@[simp] theorem ix_rf {i : Int} : ixD (.ref l) (.int i) st = match st[l]? with
    | some (.lst ds) => item ds i
    | _ => none := by
  cases h : st[l]? with
  | none => simp [ixD, h]
  | some o => cases o <;> simp [ixD, h, isKey]
@[simp] theorem ix_key {ks : List D} : ixD (.ref l) (.tup ks) st = match st[l]? with
    | some (.dct kvs) => if isKey (.tup ks) then dGet kvs (.tup ks) else none
    | _ => none := by
  cases h : st[l]? with
  | none => simp [ixD, h]
  | some o => cases o <;> simp [ixD, h]
@[simp] theorem add_rf : bin .Add (.ref l) (.ref m) st = match st[l]?, st[m]? with
    | some (.lst xs), some (.lst ys) => newL (xs ++ ys) st
    | _, _ => .bad := by
  cases h : st[l]? with
  | none => simp [bin, ints2, h]
  | some o =>
    cases h' : st[m]? with
    | none => cases o <;> simp [bin, ints2, h, h']
    | some o' => cases o <;> cases o' <;> simp [bin, ints2, h, h']
@[simp] theorem kind_rf {mm : Mt} : kindM mm st (.ref l) = match st[l]? with
    | some (.lst _) => if mtOk .l mm then some .l else none
    | some (.dct _) => if mtOk .d mm then some .d else none
    | none => none := by
  cases h : st[l]? with
  | none => simp [kindM, kindD, h]
  | some o => cases o <;> simp [kindM, kindD, h]
@[simp] theorem ok_l_append : mtOk .l .append = true := (rfl)
@[simp] theorem ok_l_clear : mtOk .l .clear = true := (rfl)
@[simp] theorem ok_l_pop0 : mtOk .l .pop0 = true := (rfl)
@[simp] theorem ok_l_pop1 : mtOk .l .pop1 = true := (rfl)
@[simp] theorem ok_d_pop1 : mtOk .d .pop1 = true := (rfl)
@[simp] theorem ok_d_get1 : mtOk .d .get1 = true := (rfl)
@[simp] theorem ok_d_get2 : mtOk .d .get2 = true := (rfl)
@[simp] theorem ok_d_setdef : mtOk .d .setdef = true := (rfl)
@[simp] theorem mt_rl {mm : Mt} {ds : List D} : mt .l mm (.ref l) ds st = match st[l]? with
    | some (.lst xs) => mtL mm l xs ds st
    | _ => .bad := by
  cases h : st[l]? with
  | none => simp [mt, h]
  | some o => cases o <;> simp [mt, h]
@[simp] theorem mt_rd {mm : Mt} {ds : List D} : mt .d mm (.ref l) ds st = match st[l]? with
    | some (.dct xs) => mtD mm l xs ds st
    | _ => .bad := by
  cases h : st[l]? with
  | none => simp [mt, h]
  | some o => cases o <;> simp [mt, h]
@[simp] theorem mtL_app {xs : List D} : mtL .append l xs [d] st = if xs.length < 16777216 then .ok .non (st.set l (.lst (xs ++ [d]))) else .bad := (rfl)
@[simp] theorem mtL_clear {xs : List D} : mtL .clear l xs [] st = .ok .non (st.set l (.lst [])) := (rfl)
@[simp] theorem mtL_pop0 {xs : List D} : mtL .pop0 l xs [] st = match xs[xs.length - 1]? with
    | some x => .ok x (st.set l (.lst xs.dropLast))
    | none => .bad := (rfl)
@[simp] theorem mtD_get1 {kvs : List (D × D)} : mtD .get1 l kvs [d] st = if isKey d then .ok ((dGet kvs d).getD .non) st else .bad := (rfl)
@[simp] theorem mtD_get2 {kvs : List (D × D)} {x : D} : mtD .get2 l kvs [d, x] st = if isKey d then .ok ((dGet kvs d).getD x) st else .bad := (rfl)
@[simp] theorem walk_rf : walkD st (.ref l) = match st[l]? with
    | some (.lst ds) => some ⟨ds, [(l, .lst ds)]⟩
    | _ => none := (rfl)
@[simp] theorem walkL_rf : walkL st (.ref l) = match st[l]? with
    | some (.lst ds) => some ⟨ds, [(l, .lst ds)]⟩
    | _ => none := (rfl)
@[simp] theorem bind_rf {ts : List Tg} {env : En} : bindT st (.tp ts) (.ref l) env = match st[l]? with
    | some (.lst ds) => if ds.length = ts.length then bindTs st ts ds env else none
    | _ => none := by
  cases h : st[l]? with
  | none => simp [bindT, h]
  | some o => cases o <;> simp [bindT, h]
@[simp] theorem put_key {ks : List D} {v : D} : putD (.ref l) (.tup ks) v st = match st[l]? with
    | some (.dct kvs) => if isKey (.tup ks) = true ∧ kvs.length < 16777216 then some (st.set l (.dct (dSet kvs (.tup ks) v))) else none
    | _ => none := by
  cases h : st[l]? with
  | none => simp [putD, h]
  | some o => cases o <;> simp [putD, h]
@[simp] theorem put_int {i : Int} {v : D} : putD (.ref l) (.int i) v st = match st[l]? with
    | some (.lst xs) => (place xs.length i).map fun j => st.set l (.lst (xs.set j v))
    | _ => none := by
  cases h : st[l]? with
  | none => simp [putD, h]
  | some o => cases o <;> simp [putD, h, isKey]
@[simp] theorem in_key {ks : List D} : cmp .In (.tup ks) (.ref l) st = inD st (.tup ks) (.ref l) := (rfl)
@[simp] theorem notin_key {ks : List D} : cmp .NotIn (.tup ks) (.ref l) st = (inD st (.tup ks) (.ref l)).map (!·) := (rfl)
theorem inD_dct {kvs : List (D × D)} {x : D} (h : st[l]? = some (.dct kvs)) (hk : isKey x = true) : inD st x (.ref l) = some (dGet kvs x).isSome := by simp [inD, h, hk]
@[simp] theorem sorted_rf : bi .sorted [.ref l] st = match st[l]? with
    | some (.dct kvs) => (match sortD st (kvs.map (·.1)) with
      | some ys => newL ys st
      | none => .bad)
    | some (.lst xs) => (match sortD st xs with
      | some ys => newL ys st
      | none => .bad)
    | none => .bad := by
  cases h : st[l]? with
  | none => simp [bi, h]
  | some o => cases o <;> simp [bi, h] <;> rfl
@[simp] theorem sl_rf {lo hi : Option Int} : slD (.ref l) lo hi st = match st[l]? with
    | some (.lst xs) => .ok (.ref st.length) (st ++ [.lst (cut xs lo hi)])
    | _ => .bad := by
  cases h : st[l]? with
  | none => simp [slD, h]
  | some o => cases o <;> simp [slD, h]
end
theorem run_fn {T : List Fn} {w k i : Nat} {F : Fn} {ds : List D} {st : Sto} (h : T[i]? = some F) (hl : ds.length = F.ps) : run T w (k + 1) i ds st = (execSs (run T w k) w F.body (enter F ds) st).out := by rw [run_at h, if_pos hl]
end Ev

/-! Plain facts: bits, dicts, points, sorting. -/
namespace Ev
open PySem

theorem execSs_app {cl : Calls} {w : Nat} : ∀ (a b : List S) (env : En) (st : Sto), execSs cl w (a ++ b) env st = (execSs cl w a env st).andThen (execSs cl w b)
  | [], b, env, st => by simp
  | s :: a, b, env, st => by
    rw [List.cons_append, execSs_cons, execSs_cons]
    cases execS cl w s env st with
    | nx env1 st1 => simp only [then_nx]; exact execSs_app a b env1 st1
    | _ => rfl
@[simp] theorem int_bl {b : Bool} {st : Sto} : bi .int [.bl b] st = .ok (.int (if b = true then 1 else 0)) st := (rfl)
/-! ### bits -/
theorem xor_range {x y : Int} (hx : 0 ≤ x) (hy : 0 ≤ y) : 0 ≤ Builtin.bitXor x y ∧ Builtin.bitXor x y ≤ x + y := by
  have h1 := PyProof.Rows.bitAnd_range x hy
  have h2 := PyProof.Rows.bitAnd_range y hx
  rw [PyProof.Rows.bitAnd_comm] at h2
  rw [PyProof.Rows.bitXor_and]
  omega
theorem or_range {x y : Int} (hx : 0 ≤ x) (hy : 0 ≤ y) : 0 ≤ Builtin.bitOr x y ∧ Builtin.bitOr x y ≤ x + y := by
  have h1 := PyProof.Rows.bitAnd_range x hy
  have h2 := xor_range hx hy
  have e : Builtin.bitXor x y = Builtin.bitOr x y - Builtin.bitAnd x y := rfl
  rw [PyProof.Rows.bitXor_and] at e
  have h3 := PyProof.Rows.bitAnd_range y hx
  rw [PyProof.Rows.bitAnd_comm] at h3
  omega
theorem mulOk_l {i j : Int} (h : -(2 ^ 64) < i) (h2 : i < 2 ^ 64) : mulOk i j = true := by
  unfold mulOk
  rw [decide_eq_true ⟨h, h2⟩]
  rfl
theorem mulOk_r {i j : Int} (h : -(2 ^ 64) < j) (h2 : j < 2 ^ 64) : mulOk i j = true := by
  unfold mulOk
  rw [decide_eq_true (p := -(2 ^ 64) < j ∧ j < 2 ^ 64) ⟨h, h2⟩, Bool.or_true]
  rfl

/-! ### dicts -/
section
variable {kvs : List (D × D)} {k k' v : D}
theorem dGet_cons {p : D × D} : dGet (p :: kvs) k = if p.1 = k then some p.2 else dGet kvs k := by
  unfold dGet
  by_cases h : p.1 = k <;> simp [List.find?_cons, h]
theorem dGet_nil : dGet [] k = none := rfl
theorem dGet_some : ∀ {kvs : List (D × D)}, (dGet kvs k).isSome = true ↔ k ∈ kvs.map (·.1)
  | [] => by simp [dGet]
  | p :: kvs => by
    rw [dGet_cons]
    by_cases h : p.1 = k
    · simp [h]
    · rw [if_neg h, dGet_some]
      simp [Ne.symm h]
theorem any_key : kvs.any (fun p => decide (p.1 = k)) = true ↔ k ∈ kvs.map (·.1) := by simp
theorem dSet_keys : (dSet kvs k v).map (·.1) = if k ∈ kvs.map (·.1) then kvs.map (·.1) else kvs.map (·.1) ++ [k] := by
  unfold dSet
  by_cases h : k ∈ kvs.map (·.1)
  · rw [if_pos (any_key.mpr h), if_pos h, List.map_map]
    apply List.map_congr_left
    intro p _
    by_cases hp : p.1 = k <;> simp [hp]
  · rw [if_neg (fun z => h (any_key.mp z)), if_neg h]
    simp
theorem dSet_mem {x : D} : x ∈ (dSet kvs k v).map (·.1) ↔ x ∈ kvs.map (·.1) ∨ x = k := by
  rw [dSet_keys]
  by_cases h : k ∈ kvs.map (·.1)
  · rw [if_pos h]
    exact ⟨.inl, fun z => z.elim id fun z => z ▸ h⟩
  · rw [if_neg h]
    simp
theorem dSet_nodup (h : (kvs.map (·.1)).Nodup) : ((dSet kvs k v).map (·.1)).Nodup := by
  rw [dSet_keys]
  by_cases hk : k ∈ kvs.map (·.1)
  · rw [if_pos hk]; exact h
  · rw [if_neg hk]
    exact List.nodup_append.mpr ⟨h, by simp, fun a ha b hb => by
      have : b = k := by simpa using hb
      subst this
      exact fun z => hk (z ▸ ha)⟩
theorem dSet_len : (dSet kvs k v).length ≤ kvs.length + 1 := by
  have h := congrArg List.length (dSet_keys (kvs := kvs) (k := k) (v := v))
  rw [List.length_map] at h
  split at h <;> simp at h <;> omega
theorem dGet_set : dGet (dSet kvs k v) k' = if k' = k then some v else dGet kvs k' := by
  unfold dSet
  by_cases h : k ∈ kvs.map (·.1)
  · rw [if_pos (any_key.mpr h)]
    induction kvs with
    | nil => simp at h
    | cons p r ih =>
      rw [List.map_cons, dGet_cons, dGet_cons]
      by_cases hp : p.1 = k
      · by_cases hk : k' = k
        · simp [hp, hk]
        · have : ¬ k = k' := fun z => hk z.symm
          simp only [hp, if_true, hk, if_false, this]
          by_cases hr : k ∈ r.map (·.1)
          · rw [ih hr, if_neg hk]
          · have e : r.map (fun p => if p.1 = k then (p.1, v) else p) = r := by
              conv => rhs; rw [← List.map_id r]
              apply List.map_congr_left
              intro q hq
              rw [if_neg (fun z => hr (List.mem_map.mpr ⟨q, hq, z⟩))]
              rfl
            rw [e]
      · have hr : k ∈ r.map (·.1) := by
          rcases List.mem_cons.mp h with z | z
          · exact absurd z.symm hp
          · exact z
        simp only [hp, if_false]
        rw [ih hr]
        by_cases hk : k' = k
        · have : ¬ p.1 = k' := fun z => hp (z.trans hk)
          simp [this, hk, hp]
        · simp [hk]
  · rw [if_neg (fun z => h (any_key.mp z))]
    induction kvs with
    | nil =>
      rw [List.nil_append, dGet_cons]
      by_cases hk : k' = k
      · simp [hk]
      · have : ¬ k = k' := fun z => hk z.symm
        simp [hk, this]
    | cons p r ih =>
      rw [List.cons_append, dGet_cons, dGet_cons, ih (fun z => h (List.mem_cons_of_mem _ z))]
      have hp : ¬ p.1 = k := fun z => h (by simp [z])
      by_cases hk : k' = k
      · have : ¬ p.1 = k' := fun z => hp (z.trans hk)
        simp [hk, hp]
      · simp [hk]
end

/-! ### points -/
abbrev Pt := Int × Int
def pt (p : Pt) : D := .tup [.int p.1, .int p.2]
theorem pt_inj {p q : Pt} (h : pt p = pt q) : p = q := by
  simp [pt] at h
  exact Prod.ext h.1 h.2
@[simp] theorem pt_key (p : Pt) : isKey (pt p) = true := (rfl)
def ltP (p q : Pt) : Prop := p.1 < q.1 ∨ (p.1 = q.1 ∧ p.2 < q.2)
instance (p q : Pt) : Decidable (ltP p q) := by unfold ltP; infer_instance
theorem ltP_trans {p q r : Pt} (a : ltP p q) (b : ltP q r) : ltP p r := by unfold ltP at *; omega
theorem ltP_irrefl {p : Pt} : ¬ ltP p p := by unfold ltP; omega
theorem ltP_total {p q : Pt} : ltP p q ∨ p = q ∨ ltP q p := by
  have h : p = q ↔ p.1 = q.1 ∧ p.2 = q.2 := ⟨fun z => by subst z; exact ⟨rfl, rfl⟩, fun z => Prod.ext z.1 z.2⟩
  rw [h]
  unfold ltP
  omega
def leP (p q : Pt) : Bool := !decide (ltP q p)
theorem toP_pt {st : Sto} {n : Nat} (p : Pt) : toP st (n + 1) (pt p) = some (.tuple [.int p.1, .int p.2]) := by simp [pt, toP, toPs]
theorem toPs_pts {st : Sto} {n : Nat} : ∀ ps : List Pt, toPs st (n + 1) (ps.map pt) = some (ps.map fun p => .tuple [.int p.1, .int p.2])
  | [] => by simp [toPs]
  | p :: ps => by simp [toPs, toP_pt, toPs_pts ps]
theorem sortD_pts {st : Sto} (ps : List Pt) : sortD st (ps.map pt) = some ((ps.mergeSort leP).map pt) := by
  unfold sortD
  have e : deep = 11 + 1 := rfl
  rw [e, toPs_pts]
  simp only
  rw [if_pos]
  · rw [List.map_mergeSort]
    intro a _ b _
    show leP a b = _
    rw [W.dataLe_eq]
    simp only [toP_pt, Option.getD_some, cond_false]
    rw [W.dataLt_ii]
    rfl
  · rw [Bool.and_eq_true]
    refine ⟨?_, ?_⟩
    · unfold allAlike
      simp [W.alike, W.alikeAll]
    · unfold sortable
      simp
theorem sorted_pts (ps : List Pt) (h : ps.Nodup) : ((ps.mergeSort leP).Pairwise ltP) ∧ ∀ p, p ∈ ps.mergeSort leP ↔ p ∈ ps := by
  refine ⟨?_, fun p => List.mem_mergeSort⟩
  have h1 : (ps.mergeSort leP).Pairwise fun a b => leP a b = true := List.pairwise_mergeSort (fun a b c h1 h2 => by
      simp only [leP, Bool.not_eq_true', decide_eq_false_iff_not] at h1 h2 ⊢
      unfold ltP at *
      omega) (fun a b => by
      simp only [leP, Bool.or_eq_true, Bool.not_eq_true', decide_eq_false_iff_not]
      unfold ltP
      omega) ps
  have h2 : (ps.mergeSort leP).Nodup := (List.mergeSort_perm ps leP).nodup_iff.mpr h
  have h3 := List.Pairwise.and h1 h2
  refine h3.imp fun {a b} ⟨x, y⟩ => ?_
  simp only [leP, Bool.not_eq_true', decide_eq_false_iff_not] at x
  rcases ltP_total (p := a) (q := b) with z | z | z
  · exact z
  · exact absurd z y
  · exact absurd z x
/-! ### points in the evaluator -/
section
variable {st : Sto} {p q : Pt} {l : Nat} {env : En}
theorem fold_pt {a b : Int} : D.tup [.int a, .int b] = pt (a, b) := (rfl)
@[simp] theorem pt_eta : pt (p.1, p.2) = pt p := (rfl)
@[simp] theorem bind_pt {t1 t2 : Tg} : bindT st (.tp [t1, t2]) (pt p) env = bindTs st [t1, t2] [.int p.1, .int p.2] env := bind_tup rfl
@[simp] theorem isi_pt {t : Ty} : isi st (pt p) t = some (decide (t = .tuple)) := isi_tup
@[simp] theorem len_pt : bi .len [pt p] st = .ok (.int 2) st := (rfl)
@[simp] theorem ix_pt0 : ixD (pt p) (.int 0) st = some (.int p.1) := by simp [pt]
@[simp] theorem ix_pt1 : ixD (pt p) (.int 1) st = some (.int p.2) := by simp [pt]
@[simp] theorem lt_pt : cmp .Lt (pt p) (pt q) st = some (decide (ltP p q)) := lt_pair
@[simp] theorem eq_pt : cmp .Eq (pt p) (pt q) st = some (decide (p = q)) := by
  unfold pt
  rw [eq_pair]
  congr 1
  rw [decide_eq_decide]
  exact ⟨fun h => Prod.ext h.1 h.2, fun h => by subst h; exact ⟨rfl, rfl⟩⟩
@[simp] theorem ne_pt : cmp .NotEq (pt p) (pt q) st = some (!decide (p = q)) := by
  have h : cmp .NotEq (pt p) (pt q) st = (cmp .Eq (pt p) (pt q) st).map (!·) := rfl
  rw [h, eq_pt]
  rfl
@[simp] theorem put_pt {v : D} : putD (.ref l) (pt p) v st = match st[l]? with
    | some (.dct kvs) => if kvs.length < 16777216 then some (st.set l (.dct (dSet kvs (pt p) v))) else none
    | _ => none := by
  unfold pt
  rw [put_key]
  have : isKey (.tup [.int p.1, .int p.2]) = true := rfl
  simp [this] <;> rfl
@[simp] theorem in_pt : cmp .In (pt p) (.ref l) st = inD st (pt p) (.ref l) := (rfl)
@[simp] theorem notin_pt : cmp .NotIn (pt p) (.ref l) st = (inD st (pt p) (.ref l)).map (!·) := (rfl)
theorem inD_pt : inD st (pt p) (.ref l) = match st[l]? with
    | some (.dct kvs) => some (dGet kvs (pt p)).isSome
    | some (.lst ds) => (toPs st deep ds).map fun bs => bs.any fun z => PyData.eqv z (.tuple [.int p.1, .int p.2])
    | none => none := by
  cases h : st[l]? with
  | none => simp [inD, h]
  | some o =>
    cases o with
    | dct kvs => simp [inD, h]
    | lst ds =>
      have e : toP st deep (pt p) = some (.tuple [.int p.1, .int p.2]) := toP_pt (n := 11) p
      simp [inD, h, e]
      cases toPs st deep ds <;> rfl
@[simp] theorem ixD_pt : ixD (.ref l) (pt p) st = match st[l]? with
    | some (.dct kvs) => dGet kvs (pt p)
    | _ => none := by
  unfold pt
  rw [ix_key]
  have : isKey (.tup [.int p.1, .int p.2]) = true := rfl
  simp [this] <;> rfl
end
theorem eqvAll_pts : ∀ ps : List Pt, PyData.eqvAll (ps.map fun p => .tuple [.int p.1, .int p.2]) (ps.map fun p => .tuple [.int p.1, .int p.2]) = true
  | [] => by simp [PyData.eqvAll]
  | p :: ps => by simp [PyData.eqvAll, PyData.eqv, eqvAll_pts ps]
theorem eqD_pts {st : Sto} {a b : Nat} {ps : List Pt} (h : st[a]? = some (.lst (ps.map pt))) (h' : st[b]? = some (.lst (ps.map pt))) : eqD st (.ref a) (.ref b) = some true := by
  have e : deep = 11 + 1 := rfl
  have e' : ∀ n, toPs st (n + 1) (ps.map pt) = some (ps.map fun p => .tuple [.int p.1, .int p.2]) := fun n => toPs_pts ps
  simp [eqD, e, toP, h, h', e' 10, PyData.eqv, eqvAll_pts]
theorem cut_one {xs : List D} : cut xs (some 1) none = xs.drop 1 := by
  unfold cut sIx
  cases xs with
  | nil => simp
  | cons x r =>
    have h : min (1 : Int) ((x :: r).length : Int) = 1 := by simp; omega
    simp only [h]
    simp
theorem cut_last {xs : List D} : cut xs none (some (-1)) = xs.dropLast := by
  unfold cut sIx
  simp only [List.drop_zero, Nat.sub_zero]
  rw [List.dropLast_eq_take]
  congr 1
  rw [if_pos (by decide)]
  omega
theorem get_app {st l : Sto} {i : Nat} {o : O} (h : st[i]? = some o) : (st ++ l)[i]? = some o := by
  rw [List.getElem?_append_left (List.getElem?_eq_some_iff.mp h).1]; exact h
/-! ### dicts whose keys are points -/
def addP (qs : List Pt) (p : Pt) : List Pt := if p ∈ qs then qs else qs ++ [p]
theorem mem_pts {qs : List Pt} {p : Pt} : pt p ∈ qs.map pt ↔ p ∈ qs := by
  rw [List.mem_map]
  exact ⟨fun ⟨q, h, e⟩ => pt_inj e ▸ h, fun h => ⟨p, h, rfl⟩⟩
theorem keys_set {kvs : List (D × D)} {qs : List Pt} {p : Pt} {v : D} (h : kvs.map (·.1) = qs.map pt) : (dSet kvs (pt p) v).map (·.1) = (addP qs p).map pt := by
  rw [dSet_keys, h]
  unfold addP
  by_cases hp : p ∈ qs
  · rw [if_pos (mem_pts.mpr hp), if_pos hp]
  · rw [if_neg (fun z => hp (mem_pts.mp z)), if_neg hp]
    simp
theorem addP_mem {qs : List Pt} {p x : Pt} : x ∈ addP qs p ↔ x ∈ qs ∨ x = p := by
  unfold addP
  by_cases h : p ∈ qs
  · rw [if_pos h]
    exact ⟨.inl, fun z => z.elim id fun z => z ▸ h⟩
  · rw [if_neg h]
    simp
theorem addP_nodup {qs : List Pt} {p : Pt} (h : qs.Nodup) : (addP qs p).Nodup := by
  unfold addP
  by_cases hp : p ∈ qs
  · rw [if_pos hp]; exact h
  · rw [if_neg hp]
    exact List.nodup_append.mpr ⟨h, by simp, fun a ha b hb => by
      have : b = p := by simpa using hb
      subst this
      exact fun z => hp (z ▸ ha)⟩
theorem addP_len {qs : List Pt} {p : Pt} : (addP qs p).length ≤ qs.length + 1 := by
  unfold addP
  split <;> simp
theorem keys_has {kvs : List (D × D)} {qs : List Pt} {p : Pt} (h : kvs.map (·.1) = qs.map pt) : (dGet kvs (pt p)).isSome = decide (p ∈ qs) := by
  have e : (dGet kvs (pt p)).isSome = true ↔ p ∈ qs := by rw [dGet_some, h, mem_pts]
  by_cases hp : p ∈ qs
  · rw [decide_eq_true hp]; exact e.mpr hp
  · rw [decide_eq_false hp]
    cases hx : (dGet kvs (pt p)).isSome with
    | false => rfl
    | true => exact absurd (e.mp hx) hp
theorem keys_len {kvs : List (D × D)} {qs : List Pt} (h : kvs.map (·.1) = qs.map pt) : kvs.length = qs.length := by
  have := congrArg List.length h
  simpa using this
theorem addP_le {qs : List Pt} {n : Nat} (p : Pt) (h : qs.length ≤ n) : (addP qs p).length ≤ n + 1 := Nat.le_trans addP_len (Nat.add_le_add_right h 1)
theorem keys_lt {kvs : List (D × D)} {qs : List Pt} {n : Nat} (h : kvs.map (·.1) = qs.map pt) (hq : qs.length ≤ n) (hn : n < 16777216) : kvs.length < 16777216 := by
  rw [keys_len h]
  exact Nat.lt_of_le_of_lt hq hn
theorem mem_take {α : Type} {l : List α} {i : Nat} (h : i < l.length) {x : α} : x ∈ l.take (i + 1) ↔ x ∈ l.take i ∨ x = l[i] := by
  rw [List.take_add_one, List.getElem?_eq_getElem h]
  simp only [Option.toList_some, List.mem_append, List.mem_singleton]
/-! ### the same of any things told as keys -/
section
variable {α : Type} [DecidableEq α] {f : α → D}
def addE (qs : List α) (p : α) : List α := if p ∈ qs then qs else qs ++ [p]
theorem mem_emb (inj : ∀ a b, f a = f b → a = b) {qs : List α} {p : α} : f p ∈ qs.map f ↔ p ∈ qs := by
  rw [List.mem_map]
  exact ⟨fun ⟨q, h, e⟩ => inj _ _ e ▸ h, fun h => ⟨p, h, rfl⟩⟩
theorem keysE_set (inj : ∀ a b, f a = f b → a = b) {kvs : List (D × D)} {qs : List α} {p : α} {v : D} (h : kvs.map (·.1) = qs.map f) : (dSet kvs (f p) v).map (·.1) = (addE qs p).map f := by
  rw [dSet_keys, h]
  unfold addE
  by_cases hp : p ∈ qs
  · rw [if_pos ((mem_emb inj).mpr hp), if_pos hp]
  · rw [if_neg (fun z => hp ((mem_emb inj).mp z)), if_neg hp]
    simp
theorem addE_mem {qs : List α} {p x : α} : x ∈ addE qs p ↔ x ∈ qs ∨ x = p := by
  unfold addE
  by_cases h : p ∈ qs
  · rw [if_pos h]
    exact ⟨.inl, fun z => z.elim id fun z => z ▸ h⟩
  · rw [if_neg h]
    simp
theorem addE_nodup {qs : List α} {p : α} (h : qs.Nodup) : (addE qs p).Nodup := by
  unfold addE
  by_cases hp : p ∈ qs
  · rw [if_pos hp]; exact h
  · rw [if_neg hp]
    exact List.nodup_append.mpr ⟨h, by simp, fun a ha b hb => by
      have : b = p := by simpa using hb
      subst this
      exact fun z => hp (z ▸ ha)⟩
theorem addE_le {qs : List α} {n : Nat} (p : α) (h : qs.length ≤ n) : (addE qs p).length ≤ n + 1 := by
  unfold addE
  split
  · omega
  · rw [List.length_append, List.length_singleton]
    omega
theorem keysE_has (inj : ∀ a b, f a = f b → a = b) {kvs : List (D × D)} {qs : List α} {p : α} (h : kvs.map (·.1) = qs.map f) : (dGet kvs (f p)).isSome = decide (p ∈ qs) := by
  have e : (dGet kvs (f p)).isSome = true ↔ p ∈ qs := by rw [dGet_some, h, mem_emb inj]
  by_cases hp : p ∈ qs
  · rw [decide_eq_true hp]; exact e.mpr hp
  · rw [decide_eq_false hp]
    cases hx : (dGet kvs (f p)).isSome with
    | false => rfl
    | true => exact absurd (e.mp hx) hp
theorem keysE_lt {kvs : List (D × D)} {qs : List α} {n : Nat} (h : kvs.map (·.1) = qs.map f) (hq : qs.length ≤ n) (hn : n < 16777216) : kvs.length < 16777216 := by
  have : kvs.length = qs.length := by
    have := congrArg List.length h
    simpa using this
  rw [this]
  exact Nat.lt_of_le_of_lt hq hn
theorem foldE_mem {qs : List α} : ∀ (ps : List α) (x : α), x ∈ ps.foldl addE qs ↔ x ∈ qs ∨ x ∈ ps := by
  intro ps
  induction ps generalizing qs with
  | nil => simp
  | cons p ps ih =>
    intro x
    rw [List.foldl_cons, ih, addE_mem, List.mem_cons, or_assoc]
theorem foldE_nodup {qs : List α} (h : qs.Nodup) : ∀ ps : List α, (ps.foldl addE qs).Nodup := by
  intro ps
  induction ps generalizing qs with
  | nil => exact h
  | cons p ps ih => exact ih (addE_nodup h)
theorem foldE_len {qs : List α} : ∀ ps : List α, (ps.foldl addE qs).length ≤ qs.length + ps.length := by
  intro ps
  induction ps generalizing qs with
  | nil => simp
  | cons p ps ih =>
    have h1 := ih (qs := addE qs p)
    have h2 := addE_le (qs := qs) p (Nat.le_refl _)
    simp only [List.foldl_cons, List.length_cons]
    omega
end
/-! ### pairs of points: sides, tiles -/
abbrev Sd := Pt × Pt
def sd (s : Sd) : D := .tup [pt s.1, pt s.2]
theorem sd_inj {s t : Sd} (h : sd s = sd t) : s = t := by
  simp only [sd, D.tup.injEq, List.cons.injEq, and_true] at h
  exact Prod.ext (pt_inj h.1) (pt_inj h.2)
@[simp] theorem sd_key (s : Sd) : isKey (sd s) = true := (rfl)
def ltS (s t : Sd) : Prop := ltP s.1 t.1 ∨ (s.1 = t.1 ∧ ltP s.2 t.2)
instance (s t : Sd) : Decidable (ltS s t) := by unfold ltS; infer_instance
theorem ltS_total {s t : Sd} : ltS s t ∨ s = t ∨ ltS t s := by
  unfold ltS
  rcases ltP_total (p := s.1) (q := t.1) with h | h | h
  · exact .inl (.inl h)
  · rcases ltP_total (p := s.2) (q := t.2) with h' | h' | h'
    · exact .inl (.inr ⟨h, h'⟩)
    · exact .inr (.inl (Prod.ext h h'))
    · exact .inr (.inr (.inr ⟨h.symm, h'⟩))
  · exact .inr (.inr (.inl h))
theorem ltS_trans {s t u : Sd} (a : ltS s t) (b : ltS t u) : ltS s u := by
  unfold ltS at *
  rcases a with a | ⟨a, a'⟩ <;> rcases b with b | ⟨b, b'⟩
  · exact .inl (ltP_trans a b)
  · exact .inl (b ▸ a)
  · exact .inl (a ▸ b)
  · exact .inr ⟨a.trans b, ltP_trans a' b'⟩
theorem ltS_irrefl {s : Sd} : ¬ ltS s s := by
  unfold ltS
  rintro (h | ⟨_, h⟩)
  · exact ltP_irrefl h
  · exact ltP_irrefl h
def leS (s t : Sd) : Bool := !decide (ltS t s)
def dP (p : Pt) : PyData := .tuple [.int p.1, .int p.2]
def dS (s : Sd) : PyData := .tuple [dP s.1, dP s.2]
theorem toP_sd {st : Sto} {n : Nat} (s : Sd) : toP st (n + 2) (sd s) = some (dS s) := by simp [sd, toP, toPs, toP_pt, dS, dP]
theorem toPs_sds {st : Sto} {n : Nat} : ∀ ss : List Sd, toPs st (n + 2) (ss.map sd) = some (ss.map dS)
  | [] => by simp [toPs]
  | p :: ps => by simp [toPs, toP_sd, toPs_sds ps]
theorem eqv_dP {p q : Pt} : PyData.eqv (dP p) (dP q) = decide (p = q) := by
  simp [dP, PyData.eqv, PyData.eqvAll]
  by_cases h : p = q
  · subst h; simp
  · have h' : ¬ (p.1 = q.1 ∧ p.2 = q.2) := fun z => h (Prod.ext z.1 z.2)
    simp only [h, decide_false]
    by_cases h1 : p.1 = q.1
    · have h2 : ¬ p.2 = q.2 := fun z => h' ⟨h1, z⟩
      simp [h2]
    · simp [h1]
theorem eqv_dS {s t : Sd} : PyData.eqv (dS s) (dS t) = decide (s = t) := by
  simp [dS, PyData.eqv, PyData.eqvAll, eqv_dP]
  by_cases h : s = t
  · subst h; simp
  · have h' : ¬ (s.1 = t.1 ∧ s.2 = t.2) := fun z => h (Prod.ext z.1 z.2)
    simp only [h, decide_false]
    by_cases h1 : s.1 = t.1
    · have h2 : ¬ s.2 = t.2 := fun z => h' ⟨h1, z⟩
      simp [h2]
    · simp [h1]
theorem alike_dP {p q : Pt} : W.alike (dP p) (dP q) = true := by simp [dP, W.alike, W.alikeAll]
theorem alike_dS {s t : Sd} : W.alike (dS s) (dS t) = true := by simp [dS, W.alike, W.alikeAll, alike_dP]
theorem lt_dP {p q : Pt} : W.dataLt (dP p) (dP q) = decide (ltP p q) := W.dataLt_ii _ _ _ _
theorem lt_dS {s t : Sd} : W.dataLt (dS s) (dS t) = decide (ltS s t) := by
  unfold dS
  rw [W.dataLt_pair alike_dP alike_dP, eqv_dP, eqv_dP, lt_dP, lt_dP]
  unfold ltS
  by_cases h : s.1 = t.1
  · have hn : ¬ ltP s.1 t.1 := by rw [h]; exact ltP_irrefl
    by_cases h' : s.2 = t.2
    · have hn' : ¬ ltP s.2 t.2 := by rw [h']; exact ltP_irrefl
      simp [h, h', ltP_irrefl]
    · simp [h, h', ltP_irrefl]
  · simp [h]
section
variable {st : Sto} {s t : Sd} {l : Nat} {env : En}
theorem fold_sd {p q : Pt} : D.tup [pt p, pt q] = sd (p, q) := (rfl)
@[simp] theorem sd_eta : sd (s.1, s.2) = sd s := (rfl)
@[simp] theorem bind_sd {t1 t2 : Tg} : bindT st (.tp [t1, t2]) (sd s) env = bindTs st [t1, t2] [pt s.1, pt s.2] env := bind_tup rfl
@[simp] theorem isi_sd {ty : Ty} : isi st (sd s) ty = some (decide (ty = .tuple)) := isi_tup
@[simp] theorem len_sd : bi .len [sd s] st = .ok (.int 2) st := (rfl)
@[simp] theorem ix_sd0 : ixD (sd s) (.int 0) st = some (pt s.1) := by simp [sd]
@[simp] theorem ix_sd1 : ixD (sd s) (.int 1) st = some (pt s.2) := by simp [sd]
@[simp] theorem lt_sd : cmp .Lt (sd s) (sd t) st = some (decide (ltS s t)) := by
  have e : deep = 10 + 2 := rfl
  simp only [cmp, ltD, e, toP_sd]
  rw [if_pos ⟨alike_dS, by simp [sd]⟩, lt_dS]
@[simp] theorem eq_sd : cmp .Eq (sd s) (sd t) st = some (decide (s = t)) := by
  have e : deep = 10 + 2 := rfl
  simp only [cmp, eqD, e, toP_sd]
  rw [eqv_dS]
@[simp] theorem ne_sd : cmp .NotEq (sd s) (sd t) st = some (!decide (s = t)) := by
  have h : cmp .NotEq (sd s) (sd t) st = (cmp .Eq (sd s) (sd t) st).map (!·) := rfl
  rw [h, eq_sd]
  rfl
@[simp] theorem put_sd {v : D} : putD (.ref l) (sd s) v st = match st[l]? with
    | some (.dct kvs) => if kvs.length < 16777216 then some (st.set l (.dct (dSet kvs (sd s) v))) else none
    | _ => none := by
  have hk : isKey (.tup [pt s.1, pt s.2]) = true := rfl
  unfold sd
  rw [put_key]
  simp [hk] <;> rfl
@[simp] theorem in_sd : cmp .In (sd s) (.ref l) st = inD st (sd s) (.ref l) := (rfl)
@[simp] theorem notin_sd : cmp .NotIn (sd s) (.ref l) st = (inD st (sd s) (.ref l)).map (!·) := (rfl)
theorem inD_sd : inD st (sd s) (.ref l) = match st[l]? with
    | some (.dct kvs) => some (dGet kvs (sd s)).isSome
    | some (.lst ds) => (toPs st deep ds).map fun bs => bs.any fun z => PyData.eqv z (dS s)
    | none => none := by
  cases h : st[l]? with
  | none => simp [inD, h]
  | some o =>
    cases o with
    | dct kvs => simp [inD, h]
    | lst ds =>
      have e : toP st deep (sd s) = some (dS s) := toP_sd (n := 10) s
      simp [inD, h, e]
      cases toPs st deep ds <;> rfl
@[simp] theorem ixD_sd : ixD (.ref l) (sd s) st = match st[l]? with
    | some (.dct kvs) => dGet kvs (sd s)
    | _ => none := by
  have hk : isKey (.tup [pt s.1, pt s.2]) = true := rfl
  unfold sd
  rw [ix_key]
  simp [hk] <;> rfl
end
theorem sortD_sds {st : Sto} (ps : List Sd) : sortD st (ps.map sd) = some ((ps.mergeSort leS).map sd) := by
  unfold sortD
  have e : deep = 10 + 2 := rfl
  rw [e, toPs_sds]
  simp only
  rw [if_pos]
  · rw [List.map_mergeSort]
    intro a _ b _
    show leS a b = _
    rw [W.dataLe_eq]
    simp only [toP_sd, Option.getD_some, cond_false]
    rw [lt_dS]
    rfl
  · rw [Bool.and_eq_true]
    refine ⟨?_, ?_⟩
    · unfold allAlike
      simp [alike_dS]
    · unfold sortable
      simp [dS]
theorem sorted_sds (ps : List Sd) (h : ps.Nodup) : ((ps.mergeSort leS).Pairwise ltS) ∧ ∀ p, p ∈ ps.mergeSort leS ↔ p ∈ ps := by
  refine ⟨?_, fun p => List.mem_mergeSort⟩
  have h1 : (ps.mergeSort leS).Pairwise fun a b => leS a b = true := List.pairwise_mergeSort (fun a b c h1 h2 => by
      simp only [leS, Bool.not_eq_true', decide_eq_false_iff_not] at h1 h2 ⊢
      intro h3
      rcases ltS_total (s := a) (t := b) with z | z | z
      · exact h2 (ltS_trans h3 z)
      · subst z; exact h2 h3
      · exact h1 z) (fun a b => by
      simp only [leS, Bool.or_eq_true, Bool.not_eq_true', decide_eq_false_iff_not]
      by_cases h : ltS b a
      · exact .inr fun z => ltS_irrefl (ltS_trans h z)
      · exact .inl h) ps
  have h2 : (ps.mergeSort leS).Nodup := (List.mergeSort_perm ps leS).nodup_iff.mpr h
  have h3 := List.Pairwise.and h1 h2
  refine h3.imp fun {a b} ⟨x, y⟩ => ?_
  simp only [leS, Bool.not_eq_true', decide_eq_false_iff_not] at x
  rcases ltS_total (s := a) (t := b) with z | z | z
  · exact z
  · exact absurd z y
  · exact absurd z x
theorem eqvAll_sds : ∀ ps : List Sd, PyData.eqvAll (ps.map dS) (ps.map dS) = true
  | [] => by simp [PyData.eqvAll]
  | p :: ps => by simp [PyData.eqvAll, eqv_dS, eqvAll_sds ps]
theorem eqD_sds {st : Sto} {a b : Nat} {ps : List Sd} (h : st[a]? = some (.lst (ps.map sd))) (h' : st[b]? = some (.lst (ps.map sd))) : eqD st (.ref a) (.ref b) = some true := by
  have e : deep = 11 + 1 := rfl
  have e' : ∀ n, toPs st (n + 2) (ps.map sd) = some (ps.map dS) := fun n => toPs_sds ps
  simp [eqD, e, toP, h, h', e' 9, PyData.eqv, eqvAll_sds]
theorem any_pts {p : Pt} : ∀ ps : List Pt, (ps.map fun p => PyData.tuple [.int p.1, .int p.2]).any (fun z => PyData.eqv z (.tuple [.int p.1, .int p.2])) = decide (p ∈ ps)
  | [] => by simp
  | q :: ps => by
    rw [List.map_cons, List.any_cons, any_pts ps]
    have e : PyData.eqv (.tuple [.int q.1, .int q.2]) (.tuple [.int p.1, .int p.2]) = decide (q = p) := eqv_dP
    rw [e]
    by_cases h : q = p
    · simp [h]
    · have h' : ¬ p = q := fun z => h z.symm
      simp [h, h']
theorem inD_list {st : Sto} {l : Nat} {cs : List Pt} {p : Pt} (h : st[l]? = some (.lst (cs.map pt))) : inD st (pt p) (.ref l) = some (decide (p ∈ cs)) := by
  have e : toPs st deep (cs.map pt) = some (cs.map fun p => .tuple [.int p.1, .int p.2]) := toPs_pts (n := 11) cs
  rw [inD_pt]
  simp only [h, e, Option.map_some, any_pts]
/-! ### for c in cells: there[c] = True -/
theorem fill {cl : Calls} {w a b c ld lf : Nat} {env : En} {st : Sto} {cs : List Pt} (ha : env.val a = some (.ref lf)) (hb : env.val b = some (.ref ld)) (hca : c ≠ a) (hcb : c ≠ b) (hc : c < env.length) (hf : st[lf]? = some (.lst (cs.map pt))) (hd : st[ld]? = some (.dct [])) (hl : cs.length ≤ 1000000) :
    ∃ kvs y, ∃ qs : List Pt, kvs.map (·.1) = qs.map pt ∧ qs.Nodup ∧ (∀ p, p ∈ qs ↔ p ∈ cs) ∧ execS cl w (.fo (.nm c) (.seq (.var a)) [.put (.var b) (.var c) (.cst (.bl true))]) env st = .nx (env.set c y) (st.set ld (.dct kvs)) := by
  have hne : ld ≠ lf := fun z => by subst z; rw [hf] at hd; cases hd
  have hld : ld < st.length := (List.getElem?_eq_some_iff.mp hd).1
  have val_ne : ∀ (y : Option D) (i : Nat), c ≠ i → En.val (env.set c y) i = En.val env i := fun y i h => by
    unfold En.val
    rw [List.getElem?_set_ne h]
  have val_eq : ∀ (y : Option D), En.val (env.set c y) c = y := fun y => by
    unfold En.val
    rw [List.getElem?_set_self hc]
    rfl
  obtain ⟨env', st', e, y, kvs, qs, rfl, rfl, hk, hn, hq, hm⟩ := fo_ind (cl := cl) (w := w) (t := .nm c) (it := .seq (.var a)) (b := [.put (.var b) (.var c) (.cst (.bl true))]) (env := env) (st := st) (its := ⟨cs.map pt, [(lf, .lst (cs.map pt))]⟩) (st1 := st) (by simp [ha, hf])
    (fun i e s => ∃ y kvs, ∃ qs : List Pt, e = env.set c y ∧ s = st.set ld (.dct kvs) ∧ kvs.map (·.1) = qs.map pt ∧ qs.Nodup ∧ qs.length ≤ i ∧ ∀ p, p ∈ qs ↔ p ∈ cs.take i)
    ⟨env[c], [], [], (List.set_getElem_self hc).symm, by
      have : st[ld] = .dct [] := (List.getElem?_eq_some_iff.mp hd).2
      rw [← this]
      exact (List.set_getElem_self hld).symm, rfl, List.nodup_nil, Nat.le_refl _, by simp⟩
    (by
      rintro i e s hi ⟨y, kvs, qs, rfl, rfl, _⟩
      exact still_ref (by rw [List.getElem?_set_ne hne]; exact hf))
    (by
      rintro i e s hi ⟨y, kvs, qs, rfl, rfl, hk, hn, hq, hm⟩
      have hi' : i < cs.length := by simpa using hi
      have hb' := keys_lt hk (Nat.le_trans hq (Nat.le_trans (Nat.le_of_lt hi') hl)) (by decide)
      refine ⟨_, bind_nm, env.set c (some (pt cs[i])), st.set ld (.dct (dSet kvs (pt cs[i]) (.bl true))), .inl ?_, _, _, addP qs cs[i], rfl, rfl, keys_set hk, addP_nodup hn, addP_le _ hq, ?_⟩
      · simp [List.set_set, val_ne _ b hcb, val_eq, hb, List.getElem?_set_self hld, hb']
      · intro p
        rw [addP_mem, hm, mem_take hi'])
  simp only [List.length_map, List.take_length] at hm
  exact ⟨kvs, y, qs, hk, hn, hm, e⟩
/-! ### the corners of cells -/
def cor (c : Pt) : List Pt := [c, (c.1, c.2 + 1), (c.1 + 1, c.2), (c.1 + 1, c.2 + 1)]
end Ev

namespace K05
open PySem PySem.Spec PyProof.Rows L2 Ev
def top (i : Nat) : Stmt := PySem.Challenge.pw_floortwos_k05_sides.main.body.getD i (.Pass ⟨0, 0, 0, 0⟩)
abbrev i_corners_at : Nat := 0
abbrev i_sides_at : Nat := 1
abbrev i_sides_of : Nat := 2
abbrev i_cells_at : Nat := 3
abbrev i_is_inner : Nat := 4
abbrev i__law_whole : Nat := 5
abbrev i__law_fold : Nat := 6
abbrev i__law_floor : Nat := 7
abbrev i__law_pair : Nat := 8
abbrev i__law_both : Nat := 9
abbrev i__law_side : Nat := 10
abbrev i__law_right : Nat := 11
abbrev i_law : Nat := 12
/-- corners_at(cell); slots 0 cell, 1 row, 2 column -/
def F_corners_at : Fn := ⟨1, 3, [
    .asg (.tp [.nm 1, .nm 2]) (.var 0),
    .ret (.lst [.tup [.var 1, .var 2], .tup [.var 1, .bin .Add (.var 2) (.cst (.int 1))], .tup [.bin .Add (.var 1) (.cst (.int 1)), .var 2], .tup [.bin .Add (.var 1) (.cst (.int 1)), .bin .Add (.var 2) (.cst (.int 1))]])]⟩
/-- sides_at(cell); slots 0 cell, 1 first, 2 right, 3 under, 4 last -/
def F_sides_at : Fn := ⟨1, 5, [
    .asg (.tp [.nm 1, .nm 2, .nm 3, .nm 4]) (.fn i_corners_at [.var 0]),
    .ret (.lst [.tup [.var 1, .var 2], .tup [.var 1, .var 3], .tup [.var 2, .var 4], .tup [.var 3, .var 4]])]⟩
/-- sides_of(floor); slots 0 floor, 1 found, 2 cell, 3 side -/
def L_sides_of_1 : S := .fo (.nm 3) (.seq (.fn i_sides_at [.var 2])) [
    .put (.var 1) (.var 3) (.cst (.bl true))]
def L_sides_of_2 : S := .fo (.nm 2) (.seq (.var 0)) [
    L_sides_of_1]
def F_sides_of : Fn := ⟨1, 4, [
    .asg (.nm 1) (.dct0),
    L_sides_of_2,
    .ret (.bi .sorted [.var 1])]⟩
/-- cells_at(side); slots 0 side, 1 row, 2 column -/
def F_cells_at : Fn := ⟨1, 3, [
    .asg (.tp [.nm 1, .nm 2]) (.ix (.var 0) (.cst (.int 0))),
    .ite (.cmp .Eq (.ix (.ix (.var 0) (.cst (.int 1))) (.cst (.int 0))) (.var 1)) [
      .ret (.lst [.tup [.bin .Sub (.var 1) (.cst (.int 1)), .var 2], .tup [.var 1, .var 2]])] [],
    .ret (.lst [.tup [.var 1, .bin .Sub (.var 2) (.cst (.int 1))], .tup [.var 1, .var 2]])]⟩
/-- is_inner(floor, side); slots 0 floor, 1 side, 2 one, 3 other -/
def F_is_inner : Fn := ⟨2, 4, [
    .asg (.tp [.nm 2, .nm 3]) (.fn i_cells_at [.var 1]),
    .ret (.bop .And [.cmp .In (.var 2) (.var 0), .cmp .In (.var 3) (.var 0)])]⟩
/-- _law_whole(_law_found); slots 0 _law_found -/
def F__law_whole : Fn := ⟨1, 1, [
    .ret (.bop .And [.isi (.var 0) .int, .not (.isi (.var 0) .bool)])]⟩
/-- _law_fold(_law_script, _law_number); slots 0 _law_script, 1 _law_number, 2 _law_cell -/
def L__law_fold_1 : S := .fo (.nm 2) (.seq (.var 0)) [
    .asg (.nm 1) (.bin .Mod (.bin .Mult (.bin .BitXor (.var 1) (.bin .Mod (.var 2) (.bin .Pow (.cst (.int 2)) (.cst (.int 64))))) (.cst (.int 6364136223846793005))) (.bin .Pow (.cst (.int 2)) (.cst (.int 64)))),
    .asg (.nm 1) (.bin .BitXor (.var 1) (.bin .FloorDiv (.var 1) (.bin .Pow (.cst (.int 2)) (.cst (.int 29)))))]
def F__law_fold : Fn := ⟨2, 3, [
    L__law_fold_1,
    .ret (.var 1)]⟩
/-- _law_floor(_law_script); slots 0 _law_script, 1 _law_number, 2 _law_other, 3 _law_high, 4 _law_wide, 5 _law_top, 6 _law_left, 7 _law_gap, 8 _law_part, 9 _law_spots, 10 _law_k, 11 _law_spot -/
def C__law_floor_1 : E := .lc [10] (.nm 10) (.rng1 (.bin .Mult (.var 3) (.var 4))) [] (.tup [.bin .Add (.var 5) (.bin .FloorDiv (.var 10) (.var 4)), .bin .Add (.bin .Add (.var 6) (.bin .Mod (.var 10) (.var 4))) (.bin .Mult (.var 7) (.bi .int [.cmp .GtE (.bin .Mod (.var 10) (.var 4)) (.var 8)]))])
def C__law_floor_2 : E := .lc [10, 11] (.tp [.nm 10, .nm 11]) (.enm (.var 9)) [.cmp .Eq (.bin .BitAnd (.bin .RShift (.var 1) (.var 10)) (.cst (.int 1))) (.cst (.int 1))] (.var 11)
def F__law_floor : Fn := ⟨1, 12, [
    .asg (.nm 1) (.fn i__law_fold [.var 0, .cst (.int 88172645463325252)]),
    .asg (.nm 2) (.fn i__law_fold [.var 0, .cst (.int 3624360694977331)]),
    .asg (.nm 3) (.bin .Add (.cst (.int 1)) (.bin .Mod (.var 2) (.cst (.int 8)))),
    .asg (.nm 4) (.bin .Add (.cst (.int 1)) (.bin .Mod (.bin .FloorDiv (.var 2) (.cst (.int 8))) (.cst (.int 8)))),
    .ite (.cmp .Eq (.bin .Mod (.bin .FloorDiv (.var 2) (.cst (.int 64))) (.cst (.int 3))) (.cst (.int 1))) [
      .asg (.nm 1) (.bin .BitOr (.var 1) (.bin .Mod (.bin .Mult (.var 2) (.cst (.int 2862933555777941757))) (.bin .Pow (.cst (.int 2)) (.cst (.int 64)))))] [],
    .asg (.nm 5) (.bin .Sub (.bin .Mod (.bin .FloorDiv (.var 2) (.cst (.int 768))) (.cst (.int 7))) (.cst (.int 3))),
    .asg (.nm 6) (.bin .Sub (.bin .Mod (.bin .FloorDiv (.var 2) (.cst (.int 5376))) (.cst (.int 7))) (.cst (.int 3))),
    .ite (.cmp .Eq (.bin .Mod (.bin .FloorDiv (.var 2) (.cst (.int 192))) (.cst (.int 4))) (.cst (.int 1))) [
      .asg (.nm 5) (.bin .Sub (.bin .Mod (.bin .Mult (.var 2) (.cst (.int 1181783497276652981))) (.bin .Add (.bin .Mult (.cst (.int 2)) (.bin .Pow (.cst (.int 10)) (.cst (.int 18)))) (.cst (.int 1)))) (.bin .Pow (.cst (.int 10)) (.cst (.int 18)))),
      .asg (.nm 6) (.bin .Sub (.bin .Mod (.bin .Mult (.var 2) (.cst (.int 2862933555777941757))) (.bin .Add (.bin .Mult (.cst (.int 2)) (.bin .Pow (.cst (.int 10)) (.cst (.int 18)))) (.cst (.int 1)))) (.bin .Pow (.cst (.int 10)) (.cst (.int 18))))] [],
    .asg (.nm 7) (.ix (.lst [.cst (.int 0), .cst (.int 0), .cst (.int 0), .cst (.int 57), .bin .Pow (.cst (.int 10)) (.cst (.int 15))]) (.bin .Mod (.bin .FloorDiv (.var 2) (.bin .Pow (.cst (.int 2)) (.cst (.int 40)))) (.cst (.int 5)))),
    .asg (.nm 8) (.bin .Add (.cst (.int 1)) (.bin .Mod (.bin .FloorDiv (.var 2) (.bin .Pow (.cst (.int 2)) (.cst (.int 44)))) (.cst (.int 7)))),
    .asg (.nm 9) (C__law_floor_1),
    .ret (C__law_floor_2)]⟩
/-- _law_pair(_law_found); slots 0 _law_found -/
def F__law_pair : Fn := ⟨1, 1, [
    .ite (.bop .Or [.not (.isi (.var 0) .tuple), .cmp .NotEq (.bi .len [.var 0]) (.cst (.int 2))]) [
      .ret (.cst (.bl false))] [],
    .ret (.bop .And [.fn i__law_whole [.ix (.var 0) (.cst (.int 0))], .fn i__law_whole [.ix (.var 0) (.cst (.int 1))]])]⟩
/-- _law_both(_law_side_here); slots 0 _law_side_here, 1 _law_row, 2 _law_column -/
def F__law_both : Fn := ⟨1, 3, [
    .asg (.tp [.nm 1, .nm 2]) (.ix (.var 0) (.cst (.int 0))),
    .ite (.cmp .Eq (.ix (.var 0) (.cst (.int 1))) (.tup [.var 1, .bin .Add (.var 2) (.cst (.int 1))])) [
      .ret (.lst [.tup [.bin .Sub (.var 1) (.cst (.int 1)), .var 2], .tup [.var 1, .var 2]])] [],
    .ite (.cmp .Eq (.ix (.var 0) (.cst (.int 1))) (.tup [.bin .Add (.var 1) (.cst (.int 1)), .var 2])) [
      .ret (.lst [.tup [.var 1, .bin .Sub (.var 2) (.cst (.int 1))], .tup [.var 1, .var 2]])] [],
    .ret (.lst [])]⟩
/-- _law_side(_law_side_here, _law_there, _law_cells); slots 0 _law_side_here, 1 _law_there, 2 _law_cells, 3 _law_many, 4 _law_told, 5 _law_cell -/
def C__law_side_1 : E := .lc [5] (.nm 5) (.seq (.fn i__law_both [.var 0])) [.cmp .In (.var 5) (.var 1)] (.var 5)
def F__law_side : Fn := ⟨3, 6, [
    .ite (.bop .Or [.not (.isi (.var 0) .tuple), .cmp .NotEq (.bi .len [.var 0]) (.cst (.int 2)), .not (.fn i__law_pair [.ix (.var 0) (.cst (.int 0))]), .not (.fn i__law_pair [.ix (.var 0) (.cst (.int 1))])]) [
      .ret (.cst (.bl false))] [],
    .asg (.nm 3) (.bi .len [C__law_side_1]),
    .ite (.cmp .Eq (.var 3) (.cst (.int 0))) [
      .ret (.cst (.bl false))] [],
    .asg (.nm 4) (.fn i_is_inner [.var 2, .var 0]),
    .ret (.bop .And [.isi (.var 4) .bool, .cmp .Eq (.var 4) (.cmp .Eq (.var 3) (.cst (.int 2)))])]⟩
/-- _law_right(_law_found, _law_cells); slots 0 _law_found, 1 _law_cells, 2 _law_there, 3 _law_cell, 4 _law_told, 5 _law_handed, 6 _law_k, 7 _law_row, 8 _law_column, 9 _law_corner, 10 _law_last, 11 _law_near -/
def L__law_right_1 : S := .fo (.nm 3) (.seq (.var 1)) [
    .put (.var 2) (.var 3) (.cst (.bl true))]
def L__law_right_2 : S := .fo (.nm 6) (.rng1 (.bi .len [.var 0])) [
    .ite (.bop .Or [.not (.fn i__law_side [.ix (.var 0) (.var 6), .var 2, .var 5]), .bop .And [.cmp .Gt (.var 6) (.cst (.int 0)), .not (.cmp .Lt (.ix (.var 0) (.bin .Sub (.var 6) (.cst (.int 1)))) (.ix (.var 0) (.var 6)))]]) [
      .ret (.cst (.bl false))] [],
    .put (.var 4) (.ix (.var 0) (.var 6)) (.cst (.bl true))]
def L__law_right_3 : S := .fo (.nm 11) (.seq (.lst [.tup [.var 7, .bin .Add (.var 8) (.cst (.int 1))], .tup [.bin .Add (.var 7) (.cst (.int 1)), .var 8]])) [
    .ite (.bop .Or [.cmp .NotIn (.tup [.var 9, .var 11]) (.var 4), .cmp .NotIn (.tup [.var 11, .var 10]) (.var 4)]) [
      .ret (.cst (.bl false))] []]
def L__law_right_4 : S := .fo (.tp [.nm 7, .nm 8]) (.seq (.var 1)) [
    .asg (.nm 9) (.tup [.var 7, .var 8]),
    .asg (.nm 10) (.tup [.bin .Add (.var 7) (.cst (.int 1)), .bin .Add (.var 8) (.cst (.int 1))]),
    L__law_right_3]
def F__law_right : Fn := ⟨2, 12, [
    .ite (.not (.isi (.var 0) .list)) [
      .ret (.cst (.bl false))] [],
    .asg (.nm 2) (.dct0),
    L__law_right_1,
    .asg (.nm 4) (.dct0),
    .asg (.nm 5) (.bi .list [.var 1]),
    L__law_right_2,
    L__law_right_4,
    .ret (.cmp .Eq (.var 5) (.var 1))]⟩
/-- law(_law_script); slots 0 _law_script, 1 _law_cells, 2 _law_handed, 3 _law_found, 4 _law_held -/
def F_law : Fn := ⟨1, 5, [
    .asg (.nm 1) (.fn i__law_floor [.var 0]),
    .asg (.nm 2) (.bi .list [.var 1]),
    .asg (.nm 3) (.fn i_sides_of [.var 2]),
    .ite (.bop .Or [.not (.fn i__law_right [.var 3, .var 1]), .cmp .NotEq (.var 2) (.var 1)]) [
      .ret (.cst (.bl false))] [],
    .asg (.nm 4) (.bi .list [.var 3]),
    .ite (.bop .Or [.not (.fn i__law_right [.fn i_sides_of [.sl (.var 1) none (some (.neg (.cst (.int 1))))], .sl (.var 1) none (some (.neg (.cst (.int 1))))]), .cmp .NotEq (.var 3) (.var 4)]) [
      .ret (.cst (.bl false))] [],
    .exp (.mt .append (.var 3) [.cst .non]),
    .ite (.cmp .NotEq (.var 2) (.var 1)) [
      .ret (.cst (.bl false))] [],
    .exp (.mt .clear (.var 3) []),
    .exp (.mt .clear (.var 2) []),
    .ret (.fn i__law_right [.fn i_sides_of [.var 1], .var 1])]⟩
def d_corners_at : Df := ⟨"corners_at", top 1, ["cell", "row", "column"], ["cell"], F_corners_at⟩
def d_sides_at : Df := ⟨"sides_at", top 2, ["cell", "first", "right", "under", "last"], ["cell"], F_sides_at⟩
def d_sides_of : Df := ⟨"sides_of", top 3, ["floor", "found", "cell", "side"], ["floor"], F_sides_of⟩
def d_cells_at : Df := ⟨"cells_at", top 4, ["side", "row", "column"], ["side"], F_cells_at⟩
def d_is_inner : Df := ⟨"is_inner", top 5, ["floor", "side", "one", "other"], ["floor", "side"], F_is_inner⟩
def d__law_whole : Df := ⟨"_law_whole", top 7, ["_law_found"], ["_law_found"], F__law_whole⟩
def d__law_fold : Df := ⟨"_law_fold", top 8, ["_law_script", "_law_number", "_law_cell"], ["_law_script", "_law_number"], F__law_fold⟩
def d__law_floor : Df := ⟨"_law_floor", top 9, ["_law_script", "_law_number", "_law_other", "_law_high", "_law_wide", "_law_top", "_law_left", "_law_gap", "_law_part", "_law_spots", "_law_k", "_law_spot"], ["_law_script"], F__law_floor⟩
def d__law_pair : Df := ⟨"_law_pair", top 10, ["_law_found"], ["_law_found"], F__law_pair⟩
def d__law_both : Df := ⟨"_law_both", top 11, ["_law_side_here", "_law_row", "_law_column"], ["_law_side_here"], F__law_both⟩
def d__law_side : Df := ⟨"_law_side", top 12, ["_law_side_here", "_law_there", "_law_cells", "_law_many", "_law_told", "_law_cell"], ["_law_side_here", "_law_there", "_law_cells"], F__law_side⟩
def d__law_right : Df := ⟨"_law_right", top 13, ["_law_found", "_law_cells", "_law_there", "_law_cell", "_law_told", "_law_handed", "_law_k", "_law_row", "_law_column", "_law_corner", "_law_last", "_law_near"], ["_law_found", "_law_cells"], F__law_right⟩
def d_law : Df := ⟨"law", top 14, ["_law_script", "_law_cells", "_law_handed", "_law_found", "_law_held"], ["_law_script"], F_law⟩
def tab : List Df := [d_corners_at, d_sides_at, d_sides_of, d_cells_at, d_is_inner, d__law_whole, d__law_fold, d__law_floor, d__law_pair, d__law_both, d__law_side, d__law_right, d_law]
abbrev gs : List (Str × Int) := []
def T : List Fn := [F_corners_at, F_sides_at, F_sides_of, F_cells_at, F_is_inner, F__law_whole, F__law_fold, F__law_floor, F__law_pair, F__law_both, F__law_side, F__law_right, F_law]
theorem o_corners_at : DfOk (tab.map Df.nm) gs d_corners_at := ⟨⟨rfl, rfl, rfl, by decide +kernel, rfl, by decide +kernel, by decide +kernel⟩, by kernel_rfl, rfl, rfl, fun _ _ _ _ _ _ us hl => match us, hl with | [_], _ => rfl⟩
theorem o_sides_at : DfOk (tab.map Df.nm) gs d_sides_at := ⟨⟨rfl, rfl, rfl, by decide +kernel, rfl, by decide +kernel, by decide +kernel⟩, by kernel_rfl, rfl, rfl, fun _ _ _ _ _ _ us hl => match us, hl with | [_], _ => rfl⟩
theorem o_sides_of : DfOk (tab.map Df.nm) gs d_sides_of := ⟨⟨rfl, rfl, rfl, by decide +kernel, rfl, by decide +kernel, by decide +kernel⟩, by kernel_rfl, rfl, rfl, fun _ _ _ _ _ _ us hl => match us, hl with | [_], _ => rfl⟩
theorem o_cells_at : DfOk (tab.map Df.nm) gs d_cells_at := ⟨⟨rfl, rfl, rfl, by decide +kernel, rfl, by decide +kernel, by decide +kernel⟩, by kernel_rfl, rfl, rfl, fun _ _ _ _ _ _ us hl => match us, hl with | [_], _ => rfl⟩
theorem o_is_inner : DfOk (tab.map Df.nm) gs d_is_inner := ⟨⟨rfl, rfl, rfl, by decide +kernel, rfl, by decide +kernel, by decide +kernel⟩, by kernel_rfl, rfl, rfl, fun _ _ _ _ _ _ us hl => match us, hl with | [_, _], _ => rfl⟩
theorem o__law_whole : DfOk (tab.map Df.nm) gs d__law_whole := ⟨⟨rfl, rfl, rfl, by decide +kernel, rfl, by decide +kernel, by decide +kernel⟩, by kernel_rfl, rfl, rfl, fun _ _ _ _ _ _ us hl => match us, hl with | [_], _ => rfl⟩
theorem o__law_fold : DfOk (tab.map Df.nm) gs d__law_fold := ⟨⟨rfl, rfl, rfl, by decide +kernel, rfl, by decide +kernel, by decide +kernel⟩, by kernel_rfl, rfl, rfl, fun _ _ _ _ _ _ us hl => match us, hl with | [_, _], _ => rfl⟩
theorem o__law_floor : DfOk (tab.map Df.nm) gs d__law_floor := ⟨⟨rfl, rfl, rfl, by decide +kernel, rfl, by decide +kernel, by decide +kernel⟩, by kernel_rfl, rfl, rfl, fun _ _ _ _ _ _ us hl => match us, hl with | [_], _ => rfl⟩
theorem o__law_pair : DfOk (tab.map Df.nm) gs d__law_pair := ⟨⟨rfl, rfl, rfl, by decide +kernel, rfl, by decide +kernel, by decide +kernel⟩, by kernel_rfl, rfl, rfl, fun _ _ _ _ _ _ us hl => match us, hl with | [_], _ => rfl⟩
theorem o__law_both : DfOk (tab.map Df.nm) gs d__law_both := ⟨⟨rfl, rfl, rfl, by decide +kernel, rfl, by decide +kernel, by decide +kernel⟩, by kernel_rfl, rfl, rfl, fun _ _ _ _ _ _ us hl => match us, hl with | [_], _ => rfl⟩
theorem o__law_side : DfOk (tab.map Df.nm) gs d__law_side := ⟨⟨rfl, rfl, rfl, by decide +kernel, rfl, by decide +kernel, by decide +kernel⟩, by kernel_rfl, rfl, rfl, fun _ _ _ _ _ _ us hl => match us, hl with | [_, _, _], _ => rfl⟩
theorem o__law_right : DfOk (tab.map Df.nm) gs d__law_right := ⟨⟨rfl, rfl, rfl, by decide +kernel, rfl, by decide +kernel, by decide +kernel⟩, by kernel_rfl, rfl, rfl, fun _ _ _ _ _ _ us hl => match us, hl with | [_, _], _ => rfl⟩
theorem o_law : DfOk (tab.map Df.nm) gs d_law := ⟨⟨rfl, rfl, rfl, by decide +kernel, rfl, by decide +kernel, by decide +kernel⟩, by kernel_rfl, rfl, rfl, fun _ _ _ _ _ _ us hl => match us, hl with | [_], _ => rfl⟩
theorem tab_all : ∀ d ∈ tab, DfOk (tab.map Df.nm) gs d := by
  intro d hd
  simp only [tab, List.mem_cons, List.not_mem_nil, or_false] at hd
  rcases hd with rfl | rfl | rfl | rfl | rfl | rfl | rfl | rfl | rfl | rfl | rfl | rfl | rfl
  · exact o_corners_at
  · exact o_sides_at
  · exact o_sides_of
  · exact o_cells_at
  · exact o_is_inner
  · exact o__law_whole
  · exact o__law_fold
  · exact o__law_floor
  · exact o__law_pair
  · exact o__law_both
  · exact o__law_side
  · exact o__law_right
  · exact o_law
theorem at_corners_at : T[i_corners_at]? = some F_corners_at := rfl
theorem at_sides_at : T[i_sides_at]? = some F_sides_at := rfl
theorem at_sides_of : T[i_sides_of]? = some F_sides_of := rfl
theorem at_cells_at : T[i_cells_at]? = some F_cells_at := rfl
theorem at_is_inner : T[i_is_inner]? = some F_is_inner := rfl
theorem at__law_whole : T[i__law_whole]? = some F__law_whole := rfl
theorem at__law_fold : T[i__law_fold]? = some F__law_fold := rfl
theorem at__law_floor : T[i__law_floor]? = some F__law_floor := rfl
theorem at__law_pair : T[i__law_pair]? = some F__law_pair := rfl
theorem at__law_both : T[i__law_both]? = some F__law_both := rfl
theorem at__law_side : T[i__law_side]? = some F__law_side := rfl
theorem at__law_right : T[i__law_right]? = some F__law_right := rfl
theorem at_law : T[i_law]? = some F_law := rfl
end K05

namespace K05
open Ev
section
variable (w k : Nat) (st : Sto)
theorem s_fold (ns : List Int) (m : Int) (h0 : 0 ≤ m) (h1 : m < 2 ^ 65) : ∃ m', 0 ≤ m' ∧ m' < 2 ^ 65 ∧ run T w (k + 1) i__law_fold [.scr ns, .int m] st = .ok (.int m') st := by
  have key : ∀ {r : Fl} (hr : execS (run T w k) w L__law_fold_1 [some (.scr ns), some (.int m), none] st = r), ∃ m' x, 0 ≤ m' ∧ m' < 2 ^ 65 ∧ r = .nx [some (.scr ns), some (.int m'), x] st := by
    intro r hr
    unfold L__law_fold_1 at hr
    obtain ⟨env', st', rfl, m', x, rfl, rfl, a, b⟩ := fo_eq hr (its := ⟨ns.map .int, []⟩) (st1 := st)
      (fun i env st' => ∃ m' x, env = [some (.scr ns), some (.int m'), x] ∧ st' = st ∧ 0 ≤ m' ∧ m' < 2 ^ 65)
      (by simp) ⟨m, none, rfl, rfl, h0, h1⟩ (fun _ _ _ _ _ => rfl) (by
      rintro i env st' hi ⟨m', x, rfl, rfl, a, b⟩
      have hi' : i < ns.length := by simpa using hi
      have q1 := xor_range a (Int.emod_nonneg (ns[i]) (show (18446744073709551616 : Int) ≠ 0 by decide))
      generalize hx : PySem.Builtin.bitXor m' (ns[i] % 18446744073709551616) = x1 at q1
      have q2 : 0 ≤ x1 * 6364136223846793005 % 18446744073709551616 := Int.emod_nonneg _ (by decide)
      have q3 : x1 * 6364136223846793005 % 18446744073709551616 < 18446744073709551616 := Int.emod_lt_of_pos _ (by decide)
      generalize hy : x1 * 6364136223846793005 % 18446744073709551616 = y1 at q2 q3
      have q4 := xor_range q2 (Int.ediv_nonneg q2 (show (0 : Int) ≤ 536870912 by decide))
      refine ⟨_, bind_nm, [some (.scr ns), some (.int (PySem.Builtin.bitXor y1 (y1 / 536870912))), some (.int ns[i])], st', .inl ?_, _, _, rfl, rfl, q4.1, by omega⟩
      simp [binI_pow, powOk, binI_mod, binI_mul, mulOk_r, binI_div, hx, hy])
    exact ⟨m', x, a, b, rfl⟩
  obtain ⟨m', x, a, b, e⟩ := key rfl
  refine ⟨m', a, b, ?_⟩
  rw [run_fn at__law_fold rfl]
  simp [F__law_fold, e]
end
end K05

namespace K05
open Ev
section
variable (w k : Nat) (st : Sto)
theorem spots_lt {wide gap part top left : Int} (hw : 0 < wide) (hg : 0 ≤ gap) {i j : Nat} (h : i < j) :
    ltP (top + (i : Int) / wide, left + (i : Int) % wide + gap * (if part ≤ (i : Int) % wide then 1 else 0)) (top + (j : Int) / wide, left + (j : Int) % wide + gap * (if part ≤ (j : Int) % wide then 1 else 0)) := by
  have hij : (i : Int) < j := by omega
  have h1 : (i : Int) / wide ≤ (j : Int) / wide := Int.ediv_le_ediv hw (Int.le_of_lt hij)
  have e1 := Int.mul_ediv_add_emod (i : Int) wide
  have e2 := Int.mul_ediv_add_emod (j : Int) wide
  unfold ltP
  simp only
  by_cases hq : (i : Int) / wide = (j : Int) / wide
  · right
    rw [hq] at e1
    refine ⟨by omega, ?_⟩
    have hm : (i : Int) % wide < (j : Int) % wide := by omega
    split <;> split <;> omega
  · left
    omega
theorem c_spots (cl : Calls) (a b c e f : Option D) (high wide top left gap part : Int) (hh : 0 ≤ high ∧ high ≤ 8) (hw : 1 ≤ wide ∧ wide ≤ 8) (hg : 0 ≤ gap) (hg2 : gap < 2 ^ 60) :
    ∃ ps : List Pt, ps.length ≤ 64 ∧ ps.Pairwise ltP ∧ evalE cl C__law_floor_1 [a, b, c, some (.int high), some (.int wide), some (.int top), some (.int left), some (.int gap), some (.int part), e, none, f] st = newL (ps.map pt) st := by
  have hm : 0 ≤ high * wide ∧ high * wide ≤ 64 := by
    refine ⟨Int.mul_nonneg hh.1 (by omega), ?_⟩
    have h1 : high * wide ≤ 8 * wide := Int.mul_le_mul_of_nonneg_right hh.2 (by omega)
    omega
  refine ⟨(List.range (high * wide).toNat).map fun i : Nat => (top + (i : Int) / wide, left + (i : Int) % wide + gap * (if part ≤ (i : Int) % wide then 1 else 0)), by simp; omega, ?_, ?_⟩
  · rw [List.pairwise_map]
    exact List.pairwise_lt_range.imp fun h => spots_lt (by omega) hg h
  · unfold C__law_floor_1
    rw [lc_pure (its := ⟨(List.range (high * wide).toNat).map fun k => .int (k : Nat), []⟩) (st1 := st) ?_ (fun _ => true) (fun d => match d with | .int i => pt (top + i / wide, left + i % wide + gap * (if part ≤ i % wide then 1 else 0)) | d => d) rfl ?_]
    · rw [show ∀ l : List D, l.filter (fun _ => true) = l from fun l => List.filter_eq_self.mpr (by simp), List.map_map, List.map_map]
      rfl
    · have : mulOk high wide = true := mulOk_l (by omega) (by omega)
      simp [binI_mul, this, hm]
      rw [rng_lit hm.1 (by omega)]
      rfl
    · intro d hd
      obtain ⟨i, _, rfl⟩ := List.mem_map.mp hd
      refine ⟨_, bind_nm, by simp, fun _ => ?_⟩
      have h1 : (0 : Int) < wide := by omega
      have h2 : wide < 2 ^ 250 := by omega
      have h3 : ∀ x, mulOk gap x = true := fun x => mulOk_l (by omega) (by omega)
      simp [Ev.wipe, binI_div h1 h2, binI_mod h1, bi, binI_mul, h3, pt]
theorem enum_pts (ps : List Pt) (gd : List (Nat × O)) : enumD ⟨ps.map pt, gd⟩ = ⟨ps.zipIdx.map fun q => .tup [.int (q.2 : Nat), pt q.1], gd⟩ := by
  unfold enumD
  congr 1
  apply List.ext_getElem?
  intro i
  simp only [List.getElem?_zipWith, List.getElem?_map, List.getElem?_zipIdx, List.length_map]
  by_cases h : i < ps.length
  · simp [List.getElem?_range h, List.getElem?_eq_getElem h]
  · simp [List.getElem?_eq_none (Nat.le_of_not_lt h)]
theorem c_taken (cl : Calls) (a c e1 e2 e3 e4 e5 e6 x y : Option D) (num : Int) (l : Nat) (ps : List Pt) (hl : st[l]? = some (.lst (ps.map pt))) (hp : ps.length ≤ 64) :
    ∃ cs : List Pt, cs.Sublist ps ∧ evalE cl C__law_floor_2 [a, some (.int num), c, e1, e2, e3, e4, e5, e6, some (.ref l), x, y] st = newL (cs.map pt) st := by
  let q : Pt × Nat → Bool := fun q => decide (PySem.Builtin.bitAnd (num / 2 ^ q.2) 1 = 1)
  refine ⟨(ps.zipIdx.filter q).map (·.1), ?_, ?_⟩
  · have h := (List.filter_sublist (l := ps.zipIdx) (p := q)).map (·.1)
    rwa [List.zipIdx_map_fst] at h
  · unfold C__law_floor_2
    rw [lc_pure (its := ⟨ps.zipIdx.map fun q => .tup [.int (q.2 : Nat), pt q.1], [(l, .lst (ps.map pt))]⟩) (st1 := st) ?_ (fun d => match d with | .tup [.int i, _] => decide (PySem.Builtin.bitAnd (num / 2 ^ i.toNat) 1 = 1) | _ => false) (fun d => match d with | .tup [_, p] => p | d => d) (still_ref hl) ?_]
    · rw [List.filter_map, List.map_map, List.map_map]
      rfl
    · simp [hl]
      rw [enum_pts]
    · intro d hd
      obtain ⟨⟨p, i⟩, _, rfl⟩ := List.mem_map.mp hd
      refine ⟨_, bind_tup rfl, ?_, fun _ => ?_⟩
      · simp [Ev.wipe, binI_shr]
      · simp [Ev.wipe]
theorem s_floor (ns : List Int) : ∃ (cs : List Pt) (l : Sto) (r : Nat), cs.length ≤ 64 ∧ cs.Pairwise ltP ∧ st.length ≤ r ∧ (st ++ l)[r]? = some (.lst (cs.map pt)) ∧ run T w (k + 2) i__law_floor [.scr ns] st = .ok (.ref r) (st ++ l) := by
  obtain ⟨n1, a1, b1, e1⟩ := s_fold w k st ns 88172645463325252 (by decide) (by decide)
  obtain ⟨o, a2, b2, e2⟩ := s_fold w k st ns 3624360694977331 (by decide) (by decide)
  have hgap : ∃ g : Int, 0 ≤ g ∧ g < 2 ^ 60 ∧ item [.int 0, .int 0, .int 0, .int 57, .int 1000000000000000] (o / 1099511627776 % 5) = some (.int g) := by
    have h1 : 0 ≤ o / 1099511627776 % 5 := Int.emod_nonneg _ (by decide)
    have h2 : o / 1099511627776 % 5 < 5 := Int.emod_lt_of_pos _ (by decide)
    generalize o / 1099511627776 % 5 = i at h1 h2
    have h : i = 0 ∨ i = 1 ∨ i = 2 ∨ i = 3 ∨ i = 4 := by omega
    rcases h with rfl | rfl | rfl | rfl | rfl
    · exact ⟨0, by decide, by decide, rfl⟩
    · exact ⟨0, by decide, by decide, rfl⟩
    · exact ⟨0, by decide, by decide, rfl⟩
    · exact ⟨57, by decide, by decide, rfl⟩
    · exact ⟨1000000000000000, by decide, by decide, rfl⟩
  obtain ⟨g, g1, g2, eg⟩ := hgap
  have hh : 0 ≤ 1 + o % 8 ∧ 1 + o % 8 ≤ 8 := by omega
  have hw : 1 ≤ 1 + o / 8 % 8 ∧ 1 + o / 8 % 8 ≤ 8 := by omega
  have fin : ∀ num top left : Int, ∃ (cs : List Pt) (l : Sto) (r : Nat), cs.length ≤ 64 ∧ cs.Pairwise ltP ∧ st.length ≤ r ∧ (st ++ l)[r]? = some (.lst (cs.map pt)) ∧
      (execSs (run T w (k + 1)) w (F__law_floor.body.drop 8) [some (.scr ns), some (.int num), some (.int o), some (.int (1 + o % 8)), some (.int (1 + o / 8 % 8)), some (.int top), some (.int left), none, none, none, none, none] st).out = .ok (.ref r) (st ++ l) := by
    intro num top left
    let st1 : Sto := st ++ [.lst [.int 0, .int 0, .int 0, .int 57, .int 1000000000000000]]
    obtain ⟨ps, p1, p2, p3⟩ := c_spots st1 (run T w (k + 1)) (some (.scr ns)) (some (.int num)) (some (.int o)) none none (1 + o % 8) (1 + o / 8 % 8) top left g (1 + o / 17592186044416 % 7) hh hw g1 g2
    have hl : (st1 ++ [.lst (ps.map pt)])[st1.length]? = some (.lst (ps.map pt)) := by simp
    obtain ⟨cs, q1, q2⟩ := c_taken (st1 ++ [.lst (ps.map pt)]) (run T w (k + 1)) (some (.scr ns)) (some (.int o)) (some (.int (1 + o % 8))) (some (.int (1 + o / 8 % 8))) (some (.int top)) (some (.int left)) (some (.int g)) (some (.int (1 + o / 17592186044416 % 7))) none none num st1.length ps hl p1
    have hc : cs.length ≤ 64 := Nat.le_trans q1.length_le p1
    refine ⟨cs, [.lst [.int 0, .int 0, .int 0, .int 57, .int 1000000000000000], .lst (ps.map pt), .lst (cs.map pt)], st.length + 2, hc, p2.sublist q1, by omega, by simp, ?_⟩
    rw [newL_ok (by simp; omega)] at p3 q2
    simp only [st1, List.append_assoc, List.cons_append, List.nil_append, List.length_append, List.length_cons, List.length_nil] at p3 q2
    simp [F__law_floor, newL_ok, binI_pow, powOk, binI_div, binI_mod, eg, p3, q2]
  rw [run_fn at__law_floor rfl]
  have hb : F__law_floor.body = F__law_floor.body.take 8 ++ F__law_floor.body.drop 8 := (List.take_append_drop 8 _).symm
  have key : ∃ num top left : Int, execSs (run T w (k + 1)) w (F__law_floor.body.take 8) (enter F__law_floor [.scr ns]) st = .nx [some (.scr ns), some (.int num), some (.int o), some (.int (1 + o % 8)), some (.int (1 + o / 8 % 8)), some (.int top), some (.int left), none, none, none, none, none] st := by
    by_cases h1 : o / 64 % 3 = 1 <;> by_cases h2 : o / 192 % 4 = 1 <;> simp [F__law_floor, e1, e2, binI_pow, powOk, binI_div, binI_mod, binI_mul, mulOk_r, h1, h2]
  obtain ⟨num, top, left, e⟩ := key
  rw [hb, execSs_app, e]
  exact fin num top left
end
end K05

namespace K05
open Ev
theorem s_corners_at (w k : Nat) (st : Sto) (c : Pt) : run T w (k + 1) i_corners_at [pt c] st = .ok (.ref st.length) (st ++ [.lst ((cor c).map pt)]) := by
  rw [run_fn at_corners_at rfl]
  simp [F_corners_at, newL_ok, pt, cor]
end K05

namespace K05
open Ev
section
variable (w k : Nat) (st : Sto)
def sidesAt (c : Pt) : List Sd := [(c, (c.1, c.2 + 1)), (c, (c.1 + 1, c.2)), ((c.1, c.2 + 1), (c.1 + 1, c.2 + 1)), ((c.1 + 1, c.2), (c.1 + 1, c.2 + 1))]
theorem s_sides_at (c : Pt) : run T w (k + 2) i_sides_at [pt c] st = .ok (.ref (st.length + 1)) (st ++ [.lst ((cor c).map pt), .lst ((sidesAt c).map sd)]) := by
  rw [run_fn at_sides_at rfl]
  simp [F_sides_at, s_corners_at, newL_ok, fold_sd, cor, sidesAt]
theorem sdInj : ∀ a b, sd a = sd b → a = b := fun _ _ => sd_inj
theorem l_sides_1 (x y : Option D) (kvs : List (D × D)) (l : Sto) (qs : List Sd) (c : Pt) (hk : kvs.map (·.1) = qs.map sd) (hq : qs.length ≤ 1000000) :
    ∃ kvs' z, kvs'.map (·.1) = ((sidesAt c).foldl addE qs).map sd ∧ execS (run T w (k + 2)) w L_sides_of_1 [x, some (.ref st.length), some (pt c), y] (st ++ .dct kvs :: l) = .nx [x, some (.ref st.length), some (pt c), z] (st ++ .dct kvs' :: (l ++ [.lst ((cor c).map pt), .lst ((sidesAt c).map sd)])) := by
  have h1 := keysE_set sdInj (p := (c, (c.1, c.2 + 1))) (v := .bl true) hk
  have h2 := keysE_set sdInj (p := (c, (c.1 + 1, c.2))) (v := .bl true) h1
  have h3 := keysE_set sdInj (p := ((c.1, c.2 + 1), (c.1 + 1, c.2 + 1))) (v := .bl true) h2
  have h4 := keysE_set sdInj (p := ((c.1 + 1, c.2), (c.1 + 1, c.2 + 1))) (v := .bl true) h3
  have a1 := addE_le (c, (c.1, c.2 + 1)) hq
  have a2 := addE_le (c, (c.1 + 1, c.2)) a1
  have a3 := addE_le ((c.1, c.2 + 1), (c.1 + 1, c.2 + 1)) a2
  have b0 := keysE_lt hk hq (by decide)
  have b1 := keysE_lt h1 a1 (by decide)
  have b2 := keysE_lt h2 a2 (by decide)
  have b3 := keysE_lt h3 a3 (by decide)
  refine ⟨_, some (sd ((c.1 + 1, c.2), (c.1 + 1, c.2 + 1))), h4, ?_⟩
  have e := s_sides_at w k (st ++ .dct kvs :: l) c
  simp only [sidesAt, cor, List.map_cons, List.map_nil] at e ⊢
  simp [L_sides_of_1, e, loopF_cons, loopF_nil, still, b0, b1, b2, b3, Nat.add_assoc]
theorem l_sides_2 (lf : Nat) (cs : List Pt) (hf : st[lf]? = some (.lst (cs.map pt))) (hl : cs.length ≤ 1000) {r : Fl} (hr : execS (run T w (k + 2)) w L_sides_of_2 [some (.ref lf), some (.ref st.length), none, none] (st ++ [.dct []]) = r) :
    ∃ kvs x y l, ∃ qs : List Sd, kvs.map (·.1) = qs.map sd ∧ qs.Nodup ∧ qs.length ≤ 4000 ∧ (∀ p, p ∈ qs ↔ ∃ c ∈ cs, p ∈ sidesAt c) ∧ r = .nx [some (.ref lf), some (.ref st.length), x, y] (st ++ .dct kvs :: l) := by
  unfold L_sides_of_2 at hr
  obtain ⟨env', st', rfl, x, y, kvs, l, qs, rfl, rfl, hk, hn, hq, hm⟩ := fo_eq hr (its := ⟨cs.map pt, [(lf, .lst (cs.map pt))]⟩) (st1 := st ++ [.dct []])
    (fun i env st' => ∃ x y kvs l, ∃ qs : List Sd, env = [some (.ref lf), some (.ref st.length), x, y] ∧ st' = st ++ .dct kvs :: l ∧ kvs.map (·.1) = qs.map sd ∧ qs.Nodup ∧ qs.length ≤ 4 * i ∧ ∀ p, p ∈ qs ↔ ∃ c ∈ cs.take i, p ∈ sidesAt c)
    (by simp [get_app hf]) ⟨none, none, [], [], [], rfl, rfl, rfl, List.nodup_nil, by simp, by simp⟩
    (by
      rintro i env st' hi ⟨x, y, kvs, l, qs, rfl, rfl, _⟩
      exact still_ref (get_app hf)) (by
    rintro i env st' hi ⟨x, y, kvs, l, qs, rfl, rfl, hk, hn, hq, hm⟩
    have hi' : i < cs.length := by simpa using hi
    obtain ⟨kvs', z, hk', e⟩ := l_sides_1 w k st (some (.ref lf)) y kvs l qs cs[i] hk (by omega)
    refine ⟨_, bind_nm, [some (.ref lf), some (.ref st.length), some (pt cs[i]), z], _, .inl ?_, _, _, kvs', l ++ [.lst ((cor cs[i]).map pt), .lst ((sidesAt cs[i]).map sd)], _, rfl, rfl, hk', foldE_nodup hn _, ?_, ?_⟩
    · simp [e]
    · have := foldE_len (qs := qs) (sidesAt cs[i])
      have h4 : (sidesAt cs[i]).length = 4 := rfl
      omega
    · intro p
      rw [foldE_mem, hm]
      constructor
      · rintro (⟨c, hc, hp⟩ | hp)
        · exact ⟨c, (mem_take hi').mpr (.inl hc), hp⟩
        · exact ⟨_, (mem_take hi').mpr (.inr rfl), hp⟩
      · rintro ⟨c, hc, hp⟩
        rcases (mem_take hi').mp hc with h | rfl
        · exact .inl ⟨c, h, hp⟩
        · exact .inr hp)
  simp only [List.length_map, List.take_length] at hq hm
  exact ⟨kvs, _, _, l, qs, hk, hn, by omega, hm, rfl⟩
/-- sides_of: sorted, each once, just those of the cells -/
theorem s_sides_of (lf : Nat) (cs : List Pt) (hf : st[lf]? = some (.lst (cs.map pt))) (hl : cs.length ≤ 1000) : ∃ (ps : List Sd) (l : Sto) (r : Nat), ps.Pairwise ltS ∧ ps.length ≤ 4000 ∧ (∀ p, p ∈ ps ↔ ∃ c ∈ cs, p ∈ sidesAt c) ∧ st.length ≤ r ∧ (st ++ l)[r]? = some (.lst (ps.map sd)) ∧
    run T w (k + 3) i_sides_of [.ref lf] st = .ok (.ref r) (st ++ l) := by
  obtain ⟨kvs, x, y, l, qs, h1, h2, h3, h4, h5⟩ := l_sides_2 w k st lf cs hf hl rfl
  obtain ⟨s1, s2⟩ := sorted_sds qs h2
  have hlen : (qs.mergeSort leS).length ≤ 4000 := by rw [List.length_mergeSort]; exact h3
  refine ⟨qs.mergeSort leS, .dct kvs :: l ++ [.lst ((qs.mergeSort leS).map sd)], st.length + (l.length + 1), s1, hlen, fun p => (s2 p).trans (h4 p), by omega, by simp, ?_⟩
  rw [run_fn at_sides_of rfl]
  have hs : sortD (st ++ .dct kvs :: l) (kvs.map (·.1)) = some ((qs.mergeSort leS).map sd) := by rw [h1]; exact sortD_sds qs
  have hz : (List.map sd (qs.mergeSort leS)).length ≤ 16777216 := by simp; omega
  simp [F_sides_of, h5, hs, newL_ok hz]
end
end K05

namespace K05
open Ev
section
variable (w k : Nat) (st : Sto)
theorem s_whole (a : Int) : run T w (k + 1) i__law_whole [.int a] st = .ok (.bl true) st := by
  rw [run_fn at__law_whole rfl]
  simp [F__law_whole]
theorem s_pair (p : Pt) : run T w (k + 2) i__law_pair [pt p] st = .ok (.bl true) st := by
  rw [run_fn at__law_pair rfl]
  simp [F__law_pair, s_whole]
def both (s : Sd) : List Pt := if s.2 = (s.1.1, s.1.2 + 1) then [(s.1.1 - 1, s.1.2), s.1] else [(s.1.1, s.1.2 - 1), s.1]
def SdOk (s : Sd) : Prop := s.2 = (s.1.1, s.1.2 + 1) ∨ s.2 = (s.1.1 + 1, s.1.2)
theorem s_both (s : Sd) (h : SdOk s) : run T w (k + 1) i__law_both [sd s] st = .ok (.ref st.length) (st ++ [.lst ((both s).map pt)]) := by
  rw [run_fn at__law_both rfl]
  by_cases h5 : s.2 = (s.1.1, s.1.2 + 1)
  · simp [F__law_both, fold_pt, newL_ok, both, h5]
  · have h6 := h.resolve_left h5
    have h7 : ¬ (s.1.1 + 1 = s.1.1) := by omega
    simp only [both, if_neg h5]
    simp [F__law_both, fold_pt, newL_ok, h6, h7]
theorem s_cells_at (s : Sd) (h : SdOk s) : run T w (k + 1) i_cells_at [sd s] st = .ok (.ref st.length) (st ++ [.lst ((both s).map pt)]) := by
  rw [run_fn at_cells_at rfl]
  by_cases h5 : s.2 = (s.1.1, s.1.2 + 1)
  · simp [F_cells_at, fold_pt, newL_ok, both, h5]
  · have h6 := h.resolve_left h5
    have h7 : ¬ (s.1.1 + 1 = s.1.1) := by omega
    simp only [both, if_neg h5]
    simp [F_cells_at, fold_pt, newL_ok, h6, h7]
theorem both_two (s : Sd) : ∃ a b, both s = [a, b] ∧ a ≠ b := by
  unfold both
  split
  · refine ⟨_, _, rfl, fun h => ?_⟩
    have := congrArg Prod.fst h
    simp only at this
    omega
  · refine ⟨_, _, rfl, fun h => ?_⟩
    have := congrArg Prod.snd h
    simp only at this
    omega
theorem s_inner (s : Sd) (h : SdOk s) (lc : Nat) (cs : List Pt) (hc : st[lc]? = some (.lst (cs.map pt))) : ∃ l, run T w (k + 2) i_is_inner [.ref lc, sd s] st = .ok (.bl ((both s).all fun p => decide (p ∈ cs))) (st ++ l) := by
  obtain ⟨a, b, e, _⟩ := both_two s
  refine ⟨[.lst ((both s).map pt)], ?_⟩
  rw [run_fn at_is_inner rfl]
  by_cases m1 : a ∈ cs <;> by_cases m2 : b ∈ cs <;> simp [F_is_inner, s_cells_at w k st s h, e, inD_list (get_app hc), m1, m2]
theorem s_side (s : Sd) (h : SdOk s) (ld lc : Nat) (kvs : List (D × D)) (qs cs : List Pt) (hd : st[ld]? = some (.dct kvs)) (hk : kvs.map (·.1) = qs.map pt) (hc : st[lc]? = some (.lst (cs.map pt))) (hq : ∀ p, p ∈ qs ↔ p ∈ cs) (hm : ∃ c ∈ both s, c ∈ cs) :
    ∃ l, run T w (k + 3) i__law_side [sd s, .ref ld, .ref lc] st = .ok (.bl true) (st ++ l) := by
  have hcomp : evalE (run T w (k + 2)) C__law_side_1 [some (sd s), some (.ref ld), some (.ref lc), none, none, none] st = newL (((both s).filter fun q => decide (q ∈ cs)).map pt) (st ++ [.lst ((both s).map pt)]) := by
    unfold C__law_side_1
    have hg : (st ++ [.lst ((both s).map pt)])[st.length]? = some (.lst ((both s).map pt)) := by simp
    rw [lc_pure (its := ⟨(both s).map pt, [(st.length, .lst ((both s).map pt))]⟩) (st1 := st ++ [.lst ((both s).map pt)]) (by simp [s_both w (k + 1) st s h]) (fun d => (dGet kvs d).isSome) (fun d => d) (still_ref hg) ?_]
    · rw [List.map_id', List.filter_map]
      congr 2
      apply List.filter_congr
      intro q _
      show (dGet kvs (pt q)).isSome = decide (q ∈ cs)
      rw [keys_has hk, decide_eq_decide]
      exact hq q
    · intro d hd'
      obtain ⟨q, _, rfl⟩ := List.mem_map.mp hd'
      refine ⟨_, bind_nm, ?_, fun _ => by simp [Ev.wipe]⟩
      simp [Ev.wipe, inD_dct (get_app hd)]
  obtain ⟨a, b, e, hab⟩ := both_two s
  have hlen : (((both s).filter fun q => decide (q ∈ cs)).map pt).length ≤ 16777216 := by
    rw [List.length_map]
    refine Nat.le_trans (List.length_filter_le _ _) ?_
    rw [e, List.length_cons, List.length_cons, List.length_nil]
    decide
  rw [newL_ok hlen] at hcomp
  generalize hs1 : st ++ [O.lst ((both s).map pt)] ++ [.lst (((both s).filter fun q => decide (q ∈ cs)).map pt)] = s1 at hcomp
  obtain ⟨l, hin⟩ := s_inner w k s1 s h lc cs (by rw [← hs1]; exact get_app (get_app hc))
  have hg : s1[(st ++ [O.lst ((both s).map pt)]).length]? = some (.lst (((both s).filter fun q => decide (q ∈ cs)).map pt)) := by rw [← hs1]; simp
  refine ⟨[O.lst ((both s).map pt), .lst (((both s).filter fun q => decide (q ∈ cs)).map pt)] ++ l, ?_⟩
  have hfin : st ++ ([O.lst ((both s).map pt), .lst (((both s).filter fun q => decide (q ∈ cs)).map pt)] ++ l) = s1 ++ l := by rw [← hs1]; simp
  rw [hfin, run_fn at__law_side rfl]
  obtain ⟨c, c1, c2⟩ := hm
  have hor : a ∈ cs ∨ b ∈ cs := by
    rw [e] at c1
    rcases List.mem_cons.mp c1 with rfl | c1
    · exact .inl c2
    · have : c = b := by simpa using c1
      subst this
      exact .inr c2
  rw [e] at hin hg hcomp
  by_cases m1 : a ∈ cs <;> by_cases m2 : b ∈ cs
  · simp [m1, m2] at hg hin hcomp
    simp [F__law_side, s_pair, hcomp, hg, hin, m1, m2]
  · simp [m1, m2] at hg hin hcomp
    simp [F__law_side, s_pair, hcomp, hg, hin, m1, m2]
  · simp [m1, m2] at hg hin hcomp
    simp [F__law_side, s_pair, hcomp, hg, hin, m1, m2]
  · exact absurd hor (by simp [m1, m2])
theorem l_right_2 (rf rc ld lt lh : Nat) (y : Option D) (fs : List Sd) (cs qs : List Pt) (kvs : List (D × D)) (hf : st[rf]? = some (.lst (fs.map sd))) (hd : st[ld]? = some (.dct kvs)) (hk : kvs.map (·.1) = qs.map pt) (ht : st[lt]? = some (.dct [])) (hh : st[lh]? = some (.lst (cs.map pt))) (hq : ∀ p, p ∈ qs ↔ p ∈ cs)
    (hl : fs.length ≤ 4000) (hs : fs.Pairwise ltS) (hm : ∀ s ∈ fs, SdOk s ∧ ∃ c ∈ both s, c ∈ cs) {r : Fl}
    (hr : execS (run T w (k + 3)) w L__law_right_2 [some (.ref rf), some (.ref rc), some (.ref ld), y, some (.ref lt), some (.ref lh), none, none, none, none, none, none] st = r) :
    ∃ kvs' z l, ∃ ts : List Sd, kvs'.map (·.1) = ts.map sd ∧ (∀ p, p ∈ ts ↔ p ∈ fs) ∧ r = .nx [some (.ref rf), some (.ref rc), some (.ref ld), y, some (.ref lt), some (.ref lh), z, none, none, none, none, none] ((st.set lt (.dct kvs')) ++ l) := by
  have hlt : lt < st.length := (List.getElem?_eq_some_iff.mp ht).1
  have n1 : lt ≠ rf := fun z => by subst z; rw [hf] at ht; cases ht
  have n3 : lt ≠ lh := fun z => by subst z; rw [hh] at ht; cases ht
  by_cases n2 : lt = ld
  · -- the two dicts are one only where there are no cells
    subst n2
    rw [hd] at ht
    have hkv : kvs = [] := by simpa using ht
    subst hkv
    have hq0 : qs = [] := by simpa using hk.symm
    subst hq0
    have hc0 : ∀ c, c ∉ cs := fun c hc => by simpa using (hq c).mpr hc
    have hf0 : fs = [] := by
      cases fs with
      | nil => rfl
      | cons s fs =>
        obtain ⟨_, c, _, hc⟩ := hm s List.mem_cons_self
        exact absurd hc (hc0 c)
    subst hf0
    refine ⟨[], none, [], [], rfl, by simp, ?_⟩
    have hset : st.set lt (.dct []) = st := by
      have : st[lt] = .dct [] := (List.getElem?_eq_some_iff.mp hd).2
      rw [← this]
      exact List.set_getElem_self hlt
    rw [hset, ← hr]
    simp [L__law_right_2, hf, loopF_nil]
  unfold L__law_right_2 at hr
  obtain ⟨env', st', rfl, z, kvs', l, ts, rfl, rfl, hk', hn, hm'⟩ := fo_eq hr (its := ⟨(List.range fs.length).map fun k => .int (k : Nat), []⟩) (st1 := st)
    (fun i env st' => ∃ z kvs' l, ∃ ts : List Sd, env = [some (.ref rf), some (.ref rc), some (.ref ld), y, some (.ref lt), some (.ref lh), z, none, none, none, none, none] ∧ st' = (st.set lt (.dct kvs')) ++ l ∧ kvs'.map (·.1) = ts.map sd ∧ ts.length ≤ i ∧ ∀ p, p ∈ ts ↔ p ∈ fs.take i)
    (by simp [hf, rng_nat (show fs.length ≤ 16777216 by omega)]) ⟨none, [], [], [], rfl, by
      have : st[lt] = .dct [] := (List.getElem?_eq_some_iff.mp ht).2
      rw [← this, List.set_getElem_self hlt, List.append_nil], rfl, Nat.le_refl _, by simp⟩
    (fun _ _ _ _ _ => rfl) (by
    rintro i env st' hi ⟨z, kvs', l, ts, rfl, rfl, hk', hn, hm'⟩
    have hi' : i < fs.length := by simpa using hi
    have hb := keysE_lt hk' (Nat.le_trans hn (Nat.le_trans (Nat.le_of_lt hi') hl)) (by decide)
    obtain ⟨p1, p2⟩ := hm fs[i] (List.getElem_mem hi')
    have gf : ∀ l, (st.set lt (.dct kvs') ++ l)[rf]? = some (.lst (fs.map sd)) := fun l => get_app (by rw [List.getElem?_set_ne n1]; exact hf)
    have gd : ∀ l, (st.set lt (.dct kvs') ++ l)[ld]? = some (.dct kvs) := fun l => get_app (by rw [List.getElem?_set_ne n2]; exact hd)
    have gh : ∀ l, (st.set lt (.dct kvs') ++ l)[lh]? = some (.lst (cs.map pt)) := fun l => get_app (by rw [List.getElem?_set_ne n3]; exact hh)
    have gt : ∀ l, (st.set lt (.dct kvs') ++ l)[lt]? = some (.dct kvs') := fun l => get_app (List.getElem?_set_self hlt)
    obtain ⟨l2, sp⟩ := s_side w k (st.set lt (.dct kvs') ++ l) fs[i] p1 ld lh kvs qs cs (gd l) hk (gh l) hq p2
    have gset : ∀ o l, (st.set lt (.dct kvs') ++ l).set lt o = st.set lt o ++ l := fun o l => by rw [List.set_append_left _ _ (by simpa using hlt), List.set_set]
    rw [List.append_assoc] at sp
    refine ⟨_, bind_nm, [some (.ref rf), some (.ref rc), some (.ref ld), y, some (.ref lt), some (.ref lh), some (.int (i : Nat)), none, none, none, none, none], st.set lt (.dct (dSet kvs' (sd fs[i]) (.bl true))) ++ (l ++ l2), .inl ?_, _, _, _, addE ts fs[i], rfl, rfl, keysE_set sdInj hk', addE_le _ hn, ?_⟩
    · by_cases h0 : i = 0
      · subst h0
        simp [gf, item_nat, hi', sp, gt, hb, gset]
      · have h1 : 0 < i := by omega
        have e1 : ((i : Int) - 1) = ((i - 1 : Nat) : Int) := by omega
        have h2 : i - 1 < fs.length := by omega
        have h3 : ltS fs[i - 1] fs[i] := (List.pairwise_iff_getElem.mp hs) (i - 1) i h2 hi' (by omega)
        simp [gf, item_nat, hi', sp, gt, hb, gset, h1, e1, h2, h3]
    · intro p
      rw [addE_mem, hm', mem_take hi'])
  simp only [List.length_map, List.length_range, List.take_length] at hm'
  exact ⟨kvs', z, l, ts, hk', hm', rfl⟩
theorem l_right_4 (x z u e5 e6 : Option D) (rc lt : Nat) (cs : List Pt) (kvs : List (D × D)) (ts : List Sd) (hc : st[rc]? = some (.lst (cs.map pt))) (ht : st[lt]? = some (.dct kvs)) (hk : kvs.map (·.1) = ts.map sd) (hm : ∀ c ∈ cs, ∀ p ∈ sidesAt c, p ∈ ts) {r : Fl}
    (hr : execS (run T w k) w L__law_right_4 [x, some (.ref rc), z, u, some (.ref lt), e5, e6, none, none, none, none, none] st = r) : ∃ a b c d e l, r = .nx [x, some (.ref rc), z, u, some (.ref lt), e5, e6, a, b, c, d, e] (st ++ l) := by
  unfold L__law_right_4 at hr
  obtain ⟨env', st', rfl, e7, e8, e9, e10, e11, l, rfl, rfl⟩ := fo_eq hr (its := ⟨cs.map pt, [(rc, .lst (cs.map pt))]⟩) (st1 := st)
    (fun i env st' => ∃ e7 e8 e9 e10 e11 l, env = [x, some (.ref rc), z, u, some (.ref lt), e5, e6, e7, e8, e9, e10, e11] ∧ st' = st ++ l)
    (by simp [hc]) ⟨_, _, _, _, _, [], rfl, by simp⟩
    (by
      rintro i env st' hi ⟨e7, e8, e9, e10, e11, l, rfl, rfl⟩
      exact still_ref (get_app hc)) (by
    rintro i env st' hi ⟨e7, e8, e9, e10, e11, l, rfl, rfl⟩
    have hi' : i < cs.length := by simpa using hi
    have hmi := hm cs[i] (List.getElem_mem hi')
    generalize cs[i] = c at hmi
    have h1 := hmi (c, (c.1, c.2 + 1)) (by simp [sidesAt])
    have h2 := hmi (c, (c.1 + 1, c.2)) (by simp [sidesAt])
    have h3 := hmi ((c.1, c.2 + 1), (c.1 + 1, c.2 + 1)) (by simp [sidesAt])
    have h4 := hmi ((c.1 + 1, c.2), (c.1 + 1, c.2 + 1)) (by simp [sidesAt])
    have hg : ∀ l, (st ++ l)[lt]? = some (.dct kvs) := fun l => get_app ht
    refine ⟨[x, some (.ref rc), z, u, some (.ref lt), e5, e6, some (.int cs[i].1), some (.int cs[i].2), e9, e10, e11], by simp, [x, some (.ref rc), z, u, some (.ref lt), e5, e6, some (.int cs[i].1), some (.int cs[i].2), some (pt cs[i]), some (pt (cs[i].1 + 1, cs[i].2 + 1)), some (pt (cs[i].1 + 1, cs[i].2))], st ++ (l ++ [.lst [pt (cs[i].1, cs[i].2 + 1), pt (cs[i].1 + 1, cs[i].2)]]), .inl ?_, _, _, _, _, _, _, rfl, rfl⟩
    have hmi := hm cs[i] (List.getElem_mem hi')
    have k1 := hmi (cs[i], (cs[i].1, cs[i].2 + 1)) (by simp [sidesAt])
    have k2 := hmi (cs[i], (cs[i].1 + 1, cs[i].2)) (by simp [sidesAt])
    have k3 := hmi ((cs[i].1, cs[i].2 + 1), (cs[i].1 + 1, cs[i].2 + 1)) (by simp [sidesAt])
    have k4 := hmi ((cs[i].1 + 1, cs[i].2), (cs[i].1 + 1, cs[i].2 + 1)) (by simp [sidesAt])
    simp [L__law_right_3, fold_pt, fold_sd, newL_ok, loopF_cons, loopF_nil, still, inD_sd, hg, keysE_has sdInj hk, k1, k2, k3, k4])
  exact ⟨_, _, _, _, _, l, rfl⟩
theorem sd_ok_of {c : Pt} {s : Sd} (h : s ∈ sidesAt c) : SdOk s ∧ c ∈ both s := by
  simp only [sidesAt, List.mem_cons, List.not_mem_nil, or_false] at h
  rcases h with rfl | rfl | rfl | rfl
  · exact ⟨.inl rfl, by simp [both]⟩
  · have h7 : ¬ (c.1 + 1 = c.1) := by omega
    exact ⟨.inr rfl, by simp [both, h7]⟩
  · refine ⟨.inr rfl, ?_⟩
    have : ¬ ((c.1 + 1, c.2 + 1) = (c.1, c.2 + 1 + 1)) := fun z => by
      have := congrArg Prod.fst z
      simp only at this
      omega
    simp [both, this]
  · exact ⟨.inl rfl, by simp [both]⟩
theorem s_right (rf rc : Nat) (fs : List Sd) (cs : List Pt) (hf : st[rf]? = some (.lst (fs.map sd))) (hc : st[rc]? = some (.lst (cs.map pt))) (hl : fs.length ≤ 4000) (hl' : cs.length ≤ 1000) (hs : fs.Pairwise ltS) (hm : ∀ s, s ∈ fs ↔ ∃ c ∈ cs, s ∈ sidesAt c) :
    ∃ l, run T w (k + 4) i__law_right [.ref rf, .ref rc] st = .ok (.bl true) (st ++ l) := by
  obtain ⟨kvs, y, qs, hk, _, hq, e1⟩ := fill (cl := run T w (k + 3)) (w := w) (a := 1) (b := 2) (c := 3) (env := [some (.ref rf), some (.ref rc), some (.ref st.length), none, none, none, none, none, none, none, none, none]) (st := st ++ [.dct []]) (lf := rc) (ld := st.length) (cs := cs) (by simp) (by simp) (by decide) (by decide) (by simp) (get_app hc) (by simp) (by omega)
  have e1' : execS (run T w (k + 3)) w L__law_right_1 [some (.ref rf), some (.ref rc), some (.ref st.length), none, none, none, none, none, none, none, none, none] (st ++ [.dct []]) = .nx [some (.ref rf), some (.ref rc), some (.ref st.length), y, none, none, none, none, none, none, none, none] (st ++ [.dct kvs]) := by
    have h := e1
    simp only [set_end, List.set_cons_zero, List.set_cons_succ] at h
    exact h
  obtain ⟨kvs', z, l, ts, hk', hts, e2⟩ := l_right_2 w k (st ++ [.dct kvs, .dct [], .lst (cs.map pt)]) rf rc st.length (st.length + 1) (st.length + 2) y fs cs qs kvs (get_app hf) (by simp) hk (by simp) (by simp) hq hl hs (fun s h => by
    obtain ⟨c, c1, c2⟩ := (hm s).mp h
    obtain ⟨a, b⟩ := sd_ok_of c2
    exact ⟨a, c, b, c1⟩) rfl
  have es : (st ++ [O.dct kvs, O.dct [], O.lst (cs.map pt)]).set (st.length + 1) (.dct kvs') ++ l = st ++ .dct kvs :: .dct kvs' :: .lst (cs.map pt) :: l := by
    rw [set_endN]
    simp
  rw [es] at e2
  obtain ⟨a, b, c, d, e, l', e3⟩ := l_right_4 w (k + 3) (st ++ .dct kvs :: .dct kvs' :: .lst (cs.map pt) :: l) (some (.ref rf)) (some (.ref st.length)) y (some (.ref (st.length + 2))) z rc (st.length + 1) cs kvs' ts (get_app hc) (by simp) hk' (fun c hc p hp => (hts p).mpr ((hm p).mpr ⟨c, hc, hp⟩)) rfl
  have q := eqD_pts (st := st ++ .dct kvs :: .dct kvs' :: .lst (cs.map pt) :: l ++ l') (a := st.length + 2) (b := rc) (ps := cs) (by rw [List.append_assoc]; simp) (get_app (get_app hc))
  have hz : (cs.map pt).length ≤ 16777216 := by simp; omega
  refine ⟨.dct kvs :: .dct kvs' :: .lst (cs.map pt) :: l ++ l', ?_⟩
  rw [run_fn at__law_right rfl]
  simp only [List.append_assoc, List.cons_append] at q
  simp [F__law_right, hf, e1', get_app hc, newL_ok hz, e2, e3, q]
end
theorem pure_law : ∀ ns : List Int, ns.length ≤ 63 → ∃ st, run T 10 6 i_law [.scr ns] [] = .ok (.bl true) st := by
  intro ns hn
  obtain ⟨cs, l1, r, c1, c2, _, g1, e1⟩ := s_floor 10 3 [] ns
  simp only [List.nil_append] at g1 e1
  have hz : (cs.map pt).length ≤ 16777216 := by simp; omega
  obtain ⟨fs, l2, r2, f1, f2, f3, f4, g2, e2⟩ := s_sides_of 10 2 (l1 ++ [.lst (cs.map pt)]) l1.length cs (by simp) (by omega)
  have hzf : (fs.map sd).length ≤ 16777216 := by simp; omega
  generalize hs2 : l1 ++ [O.lst (cs.map pt)] ++ l2 = s2 at g2 e2
  have g1a : s2[r]? = some (.lst (cs.map pt)) := by rw [← hs2]; exact get_app (get_app g1)
  have g1b : s2[l1.length]? = some (.lst (cs.map pt)) := by rw [← hs2]; exact get_app (by simp)
  obtain ⟨l3, e3⟩ := s_right 10 1 s2 r2 r fs cs g2 g1a (by omega) (by omega) f1 f3
  generalize hs3 : s2 ++ l3 = s3 at e3
  have g2a : s3[r2]? = some (.lst (fs.map sd)) := by rw [← hs3]; exact get_app g2
  have g1c : s3[r]? = some (.lst (cs.map pt)) := by rw [← hs3]; exact get_app g1a
  have g1d : s3[l1.length]? = some (.lst (cs.map pt)) := by rw [← hs3]; exact get_app g1b
  have q1 := eqD_pts g1d g1c
  have hr1 : r < l1.length := (List.getElem?_eq_some_iff.mp g1).1
  have hr2 : l1.length < r2 := by simp at f4; omega
  generalize hs4 : s3 ++ [O.lst (fs.map sd)] = s4
  have g4r : s4[r]? = some (.lst (cs.map pt)) := by rw [← hs4]; exact get_app g1c
  have g4f : s4[r2]? = some (.lst (fs.map sd)) := by rw [← hs4]; exact get_app g2a
  have g4d : s4[l1.length]? = some (.lst (cs.map pt)) := by rw [← hs4]; exact get_app g1d
  have g4h : s4[s3.length]? = some (.lst (fs.map sd)) := by rw [← hs4]; simp
  obtain ⟨us, hus⟩ : ∃ us, us = cs.dropLast := ⟨_, rfl⟩
  have hul : us.length ≤ 64 := by rw [hus, List.length_dropLast]; omega
  have hcut2 : cut (cs.map pt) none (some (-1)) = us.map pt := by rw [cut_last, hus, List.map_dropLast]
  obtain ⟨fs5, l5, r5, a1, a2, a3, a4, g5, e5⟩ := s_sides_of 10 2 (s4 ++ [.lst (us.map pt)]) s4.length us (by simp) (by omega)
  generalize hs5 : s4 ++ [O.lst (us.map pt)] ++ l5 = s5 at g5 e5
  obtain ⟨l6, e6⟩ := s_right 10 1 (s5 ++ [.lst (us.map pt)]) r5 s5.length fs5 us (get_app g5) (by simp) (by omega) (by omega) a1 a3
  generalize hs6 : s5 ++ [O.lst (us.map pt)] ++ l6 = s6 at e6
  have up5 : ∀ i o, s4[i]? = some o → s5[i]? = some o := fun i o h => by rw [← hs5]; exact get_app (get_app h)
  have up6 : ∀ i o, s4[i]? = some o → s6[i]? = some o := fun i o h => by rw [← hs6]; exact get_app (get_app (up5 i o h))
  have q2 := eqD_sds (up6 _ _ g4f) (up6 _ _ g4h)
  have v5 := up5 _ _ g4r
  have v6 := up6 _ _ g4f
  have hlr2 : r2 < s6.length := (List.getElem?_eq_some_iff.mp v6).1
  generalize hs7 : s6.set r2 (.lst (fs.map sd ++ [.non])) = s7
  have g7 : ∀ i, r2 ≠ i → s7[i]? = s6[i]? := fun i hi => by rw [← hs7, List.getElem?_set_ne hi]
  have g7r : s7[r]? = some (.lst (cs.map pt)) := by rw [g7 r (by omega)]; exact up6 _ _ g4r
  have g7d : s7[l1.length]? = some (.lst (cs.map pt)) := by rw [g7 _ (by omega)]; exact up6 _ _ g4d
  have g7f : s7[r2]? = some (.lst (fs.map sd ++ [.non])) := by rw [← hs7, List.getElem?_set_self hlr2]
  have q3 := eqD_pts g7d g7r
  generalize hs9 : s7.set r2 (.lst []) = s9
  have g9 : s9[l1.length]? = some (.lst (cs.map pt)) := by rw [← hs9, List.getElem?_set_ne (by omega)]; exact g7d
  generalize hs10 : s9.set l1.length (.lst []) = s10
  have g10 : s10[r]? = some (.lst (cs.map pt)) := by
    rw [← hs10, List.getElem?_set_ne (by omega), ← hs9, List.getElem?_set_ne (by omega)]
    exact g7r
  obtain ⟨fs11, l11, r11, b1, b2, b3, b4, g11, e11⟩ := s_sides_of 10 2 s10 r cs g10 (by omega)
  obtain ⟨l12, e12⟩ := s_right 10 1 (s10 ++ l11) r11 r fs11 cs g11 (get_app g10) (by omega) (by omega) b1 b3
  refine ⟨s10 ++ l11 ++ l12, ?_⟩
  have hfl : fs.length < 16777216 := by omega
  rw [run_fn at_law rfl]
  simp [F_law, e1, g1, newL_ok hz, e2, e3, q1, g2a, newL_ok hzf, hs4, g4r, hcut2, e5, v5, e6, q2, v6, hfl, hs7, q3, g7f, hs9, g9, hs10, e11, e12]
end K05

namespace K05
open PySem PySem.Spec PyProof.Rows L2 Ev
abbrev R : PySem.W.OpenRow := PySem.W.OpenLaw.row PySem.Challenge.rw_floortwos_k05_sides
abbrev fa : List He.Fa := faOf tab gs
abbrev fn : List He.DefD := tab.map Df.dd
abbrev hk : PySem.W.Hook := He.hookD 4 fa fn
def ob (s : PySem.W.SharedT) : He.AlD := He.obsDG 4 fa fn (HandSHeadRun.getT s)
theorem ob_eq (s : PySem.W.SharedT) : ob s = hk.obs s.abs := He.obsDG_eq (HandSHeadRun.getT_eq s)
theorem headRun (w : World) : HandSHeadRun.RunEq R (PySem.W.view R.prog [14]) hk ob 2000 ["corners_at", "sides_at", "sides_of", "cells_at", "is_inner", "_law_whole", "_law_fold", "_law_floor", "_law_pair", "_law_both", "_law_side", "_law_right"] w := by
  intro os
  kernel_rfl
end K05
open PySem PySem.W PySem.Calls PyProof.Rows
theorem PySem.Challenge.cw_floortwos_k05_sides_holds : PySem.Challenge.rw_floortwos_k05_sides.Holds := by
  w_on; o_law
  refine HandSHeadRun.head_any (r := OpenLaw.row PySem.Challenge.rw_floortwos_k05_sides) (q := view (OpenLaw.row PySem.Challenge.rw_floortwos_k05_sides).prog [14]) (H := K05.hk) (ob := K05.ob) (M := 2000) (loose := ["corners_at", "sides_at", "sides_of", "cells_at", "is_inner", "_law_whole", "_law_fold", "_law_floor", "_law_pair", "_law_both", "_law_side", "_law_right"])
    (d := HandSHeadRun.topDef (OpenLaw.row PySem.Challenge.rw_floortwos_k05_sides).prog 14) (kwd := []) K05.ob_eq
    (by kernel_rfl) (fun s => by kernel_rfl) K05.headRun (by kernel_rfl) (by kernel_rfl) (by kernel_rfl) (by rfl) (by first | assumption | decide +kernel) (by decide +kernel) ⟨rfl, rfl, rfl, rfl, rfl, by decide +kernel⟩ ?hw ?hc
  case hw => w_witness2
  case hc => exact Ev.law_walk (l := PySem.Challenge.rw_floortwos_k05_sides) (n := 63) (k := 6) (W := 10) (i := K05.i_law) (d := K05.d_law) (x := "_law_script") K05.tab_all rfl (by kernel_rfl) rfl K05.pure_law (fun _ _ y => y) rfl (by decide) (by kernel_rfl) ⟨rfl, by decide, by decide⟩

